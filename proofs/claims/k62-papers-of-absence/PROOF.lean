import PyProof.Rows.All
import Wide.All
import OpenK.AllK
import Wide.FinOn
import HandS.ForMost
import HandS.ForExc
import HandS.Lambda
import HandS.TupAny
import HandS.TupMul
import HandS.TupLe
import HandS.SortInts
import HandS.IsInst
import HandS.Deep
import HandS.SetFor
import HandS.Strs
import HandS.Zip
import HandS.Flow
import HandS.WordsExc
import HandS.Style
import HandS.ExcIs
import HandS.Defaults
import HandS.EndTab
import HandS.HeadWalk
import HandS.HeadHook4
import HandS.Head4
import PySem.Challenge.RW_evertold_k62_papers_of_absence
set_option Elab.async false
set_option linter.all false
set_option maxRecDepth 100000
/-! Ev0: a small language, its data and its evaluator (plain Lean; nothing of the model). -/
namespace Ev
/-- data: n in str n is a place in the law's table of texts -/
inductive D where
  | non | bl (b : Bool) | int (i : Int) | str (n : Nat) | tup (xs : List D) | lst (xs : List D)
deriving Inhabited, Repr
mutual
/-- == of data -/
def eqb : D → D → Bool
  | .non, y => match y with | .non => true | _ => false
  | .bl a, y => match y with | .bl b => a == b | .int j => (if a then (1 : Int) else 0) == j | _ => false
  | .int i, y => match y with | .int j => i == j | .bl b => i == (if b then (1 : Int) else 0) | _ => false
  | .str a, y => match y with | .str b => a == b | _ => false
  | .tup xs, y => match y with | .tup ys => eqbs xs ys | _ => false
  | .lst xs, y => match y with | .lst ys => eqbs xs ys | _ => false
def eqbs : List D → List D → Bool
  | [], ys => match ys with | [] => true | _ :: _ => false
  | x :: xs, ys => match ys with | [] => false | y :: ys => eqb x y && eqbs xs ys
end
mutual
/-- how deep data may be -/
def lim : D → Nat → Bool
  | .tup xs, n => match n with | 0 => false | m + 1 => limL xs m
  | .lst xs, n => match n with | 0 => false | m + 1 => limL xs m
  | _, _ => true
def limL : List D → Nat → Bool
  | [], _ => true
  | x :: xs, n => lim x n && limL xs n
end
mutual
/-- x < y where Python tells it of ints and of tuples of such -/
def ltD : D → D → Option Bool
  | .int i, y => match y with | .int j => some (decide (i < j)) | _ => none
  | .tup xs, y => match y with | .tup ys => ltL xs ys | _ => none
  | _, _ => none
def ltL : List D → List D → Option Bool
  | [], ys => match ys with | [] => some false | _ :: _ => some true
  | x :: xs, ys => match ys with
    | [] => some false
    | y :: ys => if eqb x y then ltL xs ys else ltD x y
end
/-- what a slot of a def holds: data; a list of its own (p: the caller's, too); a dict -/
inductive W where
  | d (x : D) | L (p : Bool) (xs : List D) | M (p t : Bool) (kvs : List (D × D))
deriving Inhabited, Repr
/-- what an expression gives: data, a new list, a new dict, the list or dict of a slot -/
inductive O where
  | d (x : D) | L (xs : List D) | M (t : Bool) (kvs : List (D × D)) | bor (i : Nat)
deriving Inhabited, Repr
abbrev Ev := List (Option W)
inductive R (α : Type) where
  | ok (a : α) (ρ : Ev) | exc (c : Nat) (ρ : Ev) | stuck
deriving Inhabited, Repr
def R.bind {α β : Type} (r : R α) (f : α → Ev → R β) : R β := match r with
  | .ok a ρ => f a ρ
  | .exc c ρ => .exc c ρ
  | .stuck => .stuck
@[simp] theorem R.bind_ok {α β : Type} (a : α) (ρ : Ev) (f : α → Ev → R β) : (R.ok a ρ).bind f = f a ρ := rfl
@[simp] theorem R.bind_exc {α β : Type} (c : Nat) (ρ : Ev) (f : α → Ev → R β) : (R.exc c ρ).bind f = .exc c ρ := rfl
@[simp] theorem R.bind_stuck {α β : Type} (f : α → Ev → R β) : (R.stuck : R α).bind f = .stuck := rfl
/-- no exception may come here -/
def R.calm {α : Type} (r : R α) : R α := match r with
  | .exc _ _ => .stuck
  | r => r
def R.opt {α β : Type} (o : Option α) (f : α → R β) : R β := match o with
  | some a => f a
  | none => .stuck
@[simp] theorem R.opt_some {α β : Type} (a : α) (f : α → R β) : R.opt (some a) f = f a := rfl
@[simp] theorem R.opt_none {α β : Type} (f : α → R β) : R.opt none f = .stuck := rfl
abbrev cap : Nat := 16777216
/-- only if it is so -/
def R.grd {α : Type} (b : Bool) (r : R α) : R α := if b = true then r else .stuck
@[simp] theorem R.grd_true {α : Type} (r : R α) : R.grd true r = r := rfl
@[simp] theorem R.grd_false {α : Type} (r : R α) : R.grd false r = .stuck := rfl
inductive Bop where | add | sub | mul | fdiv | mod
deriving DecidableEq, Repr
inductive Cop where | eq | ne | lt | le | gt | ge | isin | notin | is_ | isnot
deriving DecidableEq, Repr
inductive Ty where | int | bool | str | tuple | list
deriving DecidableEq, Repr
inductive Blt where | len | abs | int | tuple | list | sum | max | min | max2 | min2 | min3 | all | any | sorted | sortedSet | dict
deriving DecidableEq, Repr
/-- what a loop walks -/
inductive Ik where | seq | rng | enum | zip
deriving DecidableEq, Repr
inductive Tg where
  | nm (i : Nat) | tp (ts : List Tg)
deriving Inhabited, Repr
inductive E where
  | non | bl (b : Bool) | int (i : Int) | str (n : Nat) | abs
  | var (i : Nat) | con (k : Nat)
  | bin (op : Bop) (a b : E) | neg (a : E)
  | andL (es : List E) | orL (es : List E) | not_ (a : E)
  | cmp (op : Cop) (a b : E) | chain (o1 o2 : Cop) (a b c : E)
  | ite (c a b : E)
  | tup (es : List E) | lst (es : List E) | dnew (t : Bool)
  | ix (a i : E) | sl (a lo hi : E) | rev (a : E)
  | call (f : Nat) (es : List E)
  | blt (b : Blt) (es : List E)
  | isi (a : E) (t : Ty)
  | app (i : Nat) (e : E) | pop (i : Nat) | get2 (d k x : E) | sdef (i : Nat) (k x : E)
  | comp (elt : E) (tg : Tg) (k : Ik) (es ifs : List E) (own : List Nat)
  | comp2 (elt : E) (t1 : Tg) (k1 : Ik) (e1 : List E) (t2 : Tg) (k2 : Ik) (e2 ifs : List E) (own : List Nat)
  | dcomp (t : Bool) (key val : E) (tg : Tg) (k : Ik) (es ifs : List E) (own : List Nat)
  | told (b : E)
deriving Inhabited, Repr
inductive S where
  | ex (e : E) | ret (e : E) | retN | set (i : Nat) (e : E) | setT (ts : List Tg) (e : E) | par (is : List Nat) (es : List E)
  | setIx (i : Nat) (k e : E) | aug (i : Nat) (op : Bop) (e : E) | augIx (i : Nat) (k : E) (op : Bop) (e : E)
  | ite (c : E) (a b : List S) | for_ (tg : Tg) (k : Ik) (es : List E) (b : List S) | while_ (c : E) (b : List S)
  | raise (c : Nat) | pass | brk | cont
deriving Inhabited, Repr
inductive Fl where | nx | brk | cont | ret (o : O)
deriving Inhabited, Repr

mutual
def slots : Tg → List Nat
  | .nm i => [i]
  | .tp ts => slotss ts
def slotss : List Tg → List Nat
  | [] => []
  | t :: ts => slots t ++ slotss ts
end
/-! ### values -/
/-- a slot's list or dict, as it stands -/
def rs (ρ : Ev) : O → O
  | .bor i => match ρ[i]? with
    | some (some (.L _ xs)) => .L xs
    | some (some (.M _ t kvs)) => .M t kvs
    | _ => .bor i
  | o => o
/-- the items of a tuple or list -/
def items : O → Option (List D)
  | .d (.tup xs) => some xs
  | .d (.lst xs) => some xs
  | .L xs => some xs
  | _ => none
/-- a value as data, to be looked at -/
def look : O → Option D
  | .d x => some x
  | .L xs => some (.lst xs)
  | _ => none
/-- a value kept in a tuple or list: a list stands still from then on -/
def keep (ρ : Ev) : O → Option (D × Ev)
  | .d x => some (x, ρ)
  | .L xs => some (.lst xs, ρ)
  | .bor i => match ρ[i]? with
    | some (some (.L false xs)) => some (.lst xs, ρ.set i (some (.d (.lst xs))))
    | _ => none
  | .M _ _ => none
def keeps (ρ : Ev) : List O → Option (List D × Ev)
  | [] => some ([], ρ)
  | o :: os => match keep ρ o with
    | none => none
    | some (x, ρ1) => match keeps ρ1 os with
      | none => none
      | some (xs, ρ2) => some (x :: xs, ρ2)
/-- truth -/
def truth : O → Option Bool
  | .d .non => some false
  | .d (.bl b) => some b
  | .d (.int i) => some (i != 0)
  | .d (.tup xs) => some (!xs.isEmpty)
  | .d (.lst xs) => some (!xs.isEmpty)
  | .L xs => some (!xs.isEmpty)
  | _ => none
def sml (i : Int) : Bool := decide (-(2 ^ 64) < i) && decide (i < 2 ^ 64)
/-- a op b -/
def addO : O → O → Option O
  | .d (.int i), .d (.int j) => some (.d (.int (i + j)))
  | .d (.tup xs), .d (.tup ys) => if xs.length + ys.length ≤ cap then some (.d (.tup (xs ++ ys))) else none
  | .L xs, .L ys => if xs.length + ys.length ≤ cap then some (.L (xs ++ ys)) else none
  | .d (.str k), .d (.str n) => if k = 0 then some (.d (.str n)) else none
  | _, _ => none
def subO : O → O → Option O
  | .d (.int i), .d (.int j) => some (.d (.int (i - j)))
  | _, _ => none
def mulO : O → O → Option O
  | .d (.int i), .d (.int j) => if sml i || sml j then some (.d (.int (i * j))) else none
  | .d (.tup xs), .d (.int j) => if 0 < xs.length ∧ xs.length ≤ 1000 ∧ 2 ≤ j ∧ j ≤ 1000 then some (.d (.tup (List.replicate j.toNat xs).flatten)) else none
  | .L xs, .d (.int j) => if -(2 ^ 63) ≤ j ∧ j < 2 ^ 63 ∧ xs.length * j.toNat ≤ cap then some (.L (List.replicate j.toNat xs).flatten) else none
  | _, _ => none
def fdivO : O → O → Option O
  | .d (.int i), .d (.int j) => if 0 < j ∧ j < 1073741824 then some (.d (.int (i / j))) else none
  | _, _ => none
def modO : O → O → Option O
  | .d (.int i), .d (.int j) => if 0 < j then some (.d (.int (i % j))) else none
  | _, _ => none
def bin (op : Bop) (a b : O) : Option O := match op with
  | .add => addO a b
  | .sub => subO a b
  | .mul => mulO a b
  | .fdiv => fdivO a b
  | .mod => modO a b
def limit : Nat := 60
def same (x y : D) : Option Bool := if lim x limit && lim y limit then some (eqb x y) else none
/-- d in a list of data -/
def among (x : D) (ys : List D) : Option Bool := if lim x limit = true then some (ys.any fun y => eqb y x) else none
def findK (k : D) : List (D × D) → Option D
  | [] => none
  | (a, v) :: r => if eqb a k then some v else findK k r
def putK (k v : D) : List (D × D) → List (D × D)
  | [] => [(k, v)]
  | (a, u) :: r => if eqb a k then (a, v) :: r else (a, u) :: putK k v r
/-- what may be a dict's key: ints and texts; or tuples of them -/
def keyOk : Bool → D → Bool
  | false, .int _ => true
  | false, .str _ => true
  | true, .tup xs => xs.all fun x => match x with | .int _ => true | .str _ => true | _ => false
  | _, _ => false
def dictOf : O → Option (Bool × List (D × D))
  | .M t kvs => some (t, kvs)
  | _ => none
def isNon : D → Bool
  | .non => true
  | _ => false
def isBl (c : Bool) : D → Bool
  | .bl b => b == c
  | _ => false
def isO (a b : O) : Option Bool := match b with
  | .d .non => (look a).map isNon
  | .d (.bl c) => (look a).map (isBl c)
  | _ => none
/-- order of rows of ints -/
def lexI : List Int → List Int → Bool
  | [], ys => match ys with | [] => false | _ :: _ => true
  | x :: xs, ys => match ys with
    | [] => false
    | y :: ys => if x = y then lexI xs ys else decide (x < y)
def intsOf : List D → Option (List Int)
  | [] => some []
  | .int i :: r => (intsOf r).map (i :: ·)
  | _ :: _ => none
def ltO : O → O → Option Bool
  | .d (.int i), .d (.int j) => some (decide (i < j))
  | .d (.tup xs), .d (.tup ys) => (match intsOf xs, intsOf ys with
    | some ns, some ms => some (lexI ns ms)
    | _, _ => none)
  | _, _ => none
def eqO (a b : O) : Option Bool := match look a, look b with
  | some x, some y => same x y
  | _, _ => none
def leO : O → O → Option Bool
  | .d (.int i), .d (.int j) => some (decide (i ≤ j))
  | _, _ => none
def gtO : O → O → Option Bool
  | .d (.int i), .d (.int j) => some (decide (j < i))
  | _, _ => none
def geO : O → O → Option Bool
  | .d (.int i), .d (.int j) => some (decide (j ≤ i))
  | _, _ => none
/-- a in a list, a tuple -/
def inSeq (a b : O) : Option Bool := match look a, items b with
  | some x, some ys => among x ys
  | _, _ => none
def inO (a b : O) : Option Bool := inSeq a b
def cmp (op : Cop) (a b : O) : Option Bool := match op with
  | .eq => eqO a b
  | .ne => (eqO a b).map (!·)
  | .lt => ltO a b
  | .le => leO a b
  | .gt => gtO a b
  | .ge => geO a b
  | .isin => inO a b
  | .notin => (inO a b).map (!·)
  | .is_ => isO a b
  | .isnot => (isO a b).map (!·)
/-- the place that an index means -/
def place (n : Nat) (i : Int) : Option Nat := if 0 ≤ i then (if i < n then some i.toNat else none) else (if -(n : Int) ≤ i then some (n + i).toNat else none)
def at_ (xs : List D) (i : Int) : Option D := (place xs.length i).bind fun j => xs[j]?
def ixSeq (a i : O) : Option D := match items a, i with
  | some xs, .d (.int i) => at_ xs i
  | _, _ => none
def index (a i : O) : Option D := ixSeq a i
def sIx (n d : Nat) : Option Int → Nat
  | none => d
  | some v => if v < 0 then (v + (n : Int)).toNat else min v.toNat n
def cut {α : Type} (xs : List α) (lo hi : Option Int) : List α := (xs.drop (sIx xs.length 0 lo)).take (sIx xs.length xs.length hi - sIx xs.length 0 lo)
def slice (a : O) (lo hi : Option Int) : Option O := match a with
  | .d (.tup xs) => some (.d (.tup (cut xs lo hi)))
  | a => (items a).map fun xs => .L (cut xs lo hi)
def revd (a : O) : Option O := match a with
  | .d (.tup xs) => some (.d (.tup xs.reverse))
  | a => (items a).map fun xs => .L xs.reverse
def isTy (t : Ty) : O → Option Bool
  | .d x => some (match x, t with
    | .bl _, .int => true | .bl _, .bool => true | .int _, .int => true | .str _, .str => true | .tup _, .tuple => true | .lst _, .list => true | _, _ => false)
  | .L _ => some (t == .list)
  | _ => none
/-- the items as ints, as truth values -/
def bolsOf : List D → Option (List Bool)
  | [] => some []
  | .bl b :: r => (bolsOf r).map (b :: ·)
  | _ :: _ => none
def pairsOf : List D → Option (List (D × D))
  | [] => some []
  | .tup [a, b] :: r => (pairsOf r).map ((a, b) :: ·)
  | _ :: _ => none
/-- the first of the greatest, of the least -/
def maxL : Int → List Int → Int
  | m, [] => m
  | m, x :: r => maxL (if x > m then x else m) r
def minL : Int → List Int → Int
  | m, [] => m
  | m, x :: r => minL (if x < m then x else m) r
/-- a sorted list of ints: each put in behind the ones that are not greater -/
def insI (x : Int) : List Int → List Int
  | [] => [x]
  | y :: r => if x < y then x :: y :: r else y :: insI x r
def sortI : List Int → List Int
  | [] => []
  | x :: r => insI x (sortI r)
/-- strictly rising, each once -/
def insS (x : Int) : List Int → List Int
  | [] => [x]
  | y :: r => if x < y then x :: y :: r else if x = y then y :: r else y :: insS x r
def sortS : List Int → List Int
  | [] => []
  | x :: r => insS x (sortS r)
/-- each once (a set, told by what it holds) -/
def nubD : List D → List D
  | [] => []
  | x :: r => if (nubD r).any (eqb x) then nubD r else x :: nubD r
def dictFrom (t : Bool) : List (D × D) → List (D × D) → List (D × D)
  | acc, [] => acc
  | acc, (k, v) :: r => dictFrom t (putK k v acc) r
/-- one list or tuple -/
def seqF (f : List D → Option O) : List O → Option O
  | [a] => (items a).bind f
  | _ => none
def lenF : List O → Option O := seqF fun xs => some (.d (.int xs.length))
def absF : List O → Option O
  | [.d (.int i)] => some (.d (.int (if i < 0 then -i else i)))
  | _ => none
def intF : List O → Option O
  | [.d (.int i)] => some (.d (.int i))
  | [.d (.bl b)] => some (.d (.int (if b then 1 else 0)))
  | _ => none
def tupleF : List O → Option O := seqF fun xs => some (.d (.tup xs))
def listF : List O → Option O := seqF fun xs => some (.L xs)
/-- one list of ints -/
def itemsL : O → Option (List D)
  | .d (.lst xs) => some xs
  | .L xs => some xs
  | _ => none
def intsF (f : List Int → Option O) : List O → Option O
  | [a] => (itemsL a).bind fun xs => (intsOf xs).bind f
  | _ => none
def sumF : List O → Option O := intsF fun ns => some (.d (.int ns.sum))
def bestF (f : Int → List Int → Int) : List O → Option O := intsF fun ns => match ns with
  | [] => none
  | m :: r => some (.d (.int (f m r)))
def max2F : List O → Option O
  | [.d (.int i), .d (.int j)] => some (.d (.int (if j > i then j else i)))
  | _ => none
def min2F : List O → Option O
  | [.d (.int i), .d (.int j)] => some (.d (.int (if j < i then j else i)))
  | _ => none
def bolsF (f : List Bool → Bool) : List O → Option O
  | [a] => (itemsL a).bind fun xs => (bolsOf xs).map fun bs => .d (.bl (f bs))
  | _ => none
def sortF : List O → Option O := intsF fun ns => some (.L ((sortI ns).map .int))
/-- sorted(set(a)), a a list of ints, fewer than 64 -/
def sortSF : List O → Option O := intsF fun ns => if ns.length < 64 then some (.L ((sortS ns).map .int)) else none
def lenO : List O → Option O := lenF
def blt (b : Blt) (os : List O) : Option O := match b with
  | .len => lenO os
  | .abs => absF os
  | .int => intF os
  | .tuple => tupleF os
  | .list => listF os
  | .sum => sumF os
  | .max => bestF maxL os
  | .min => bestF minL os
  | .max2 => max2F os
  | .min2 => min2F os
  | .all => bolsF (fun bs => bs.all id) os
  | .any => bolsF (fun bs => bs.any id) os
  | .sorted => sortF os
  | .sortedSet => sortSF os
  | _ => none
/-- lo, lo + 1, .. below hi -/
def upTo (lo hi : Int) : List D := (List.range (hi - lo).toNat).map fun (k : Nat) => D.int (lo + (k : Int))
def inR (i : Int) : Bool := decide (-(2 ^ 62) ≤ i) && decide (i < 2 ^ 62)
/-- lo, lo + c, .. (n of them) -/
def stepL (lo hi c : Int) : List D :=
  let n := if 0 < c then ((hi - lo + c - 1) / c).toNat else ((lo - hi + (-c) - 1) / (-c)).toNat
  (List.range n).map fun (k : Nat) => D.int (lo + (k : Int) * c)
def enumFrom : Nat → List D → List D
  | _, [] => []
  | k, x :: r => .tup [.int k, x] :: enumFrom (k + 1) r
def isT : O → Bool
  | .d (.tup _) => true
  | _ => false
/-- what is walked: the list of all items, or the list of a slot (which the loop may not change) -/
def walk (k : Ik) (os : List O) : Option (List D) := match k, os with
  | .seq, [a] => items a
  | .rng, [.d (.int n)] => if inR n then some (upTo 0 n) else none
  | .rng, [.d (.int a), .d (.int b)] => if inR a && inR b then some (upTo a b) else none
  | .rng, [.d (.int a), .d (.int b), .d (.int c)] => if inR a && inR b && c != 0 && decide (-1073741824 < c) && decide (c < 1073741824) then some (stepL a b c) else none
  | .enum, [a] => (itemsL a).map (enumFrom 0)
  | .zip, [a, b] => if isT a = isT b then (match items a, items b with
    | some xs, some ys => some ((xs.zip ys).map fun p => .tup [p.1, p.2])
    | _, _ => none) else none
  | _, _ => none
/-- the slots whose list is walked -/
def walked : List O → List Nat
  | [] => []
  | .bor i :: r => i :: walked r
  | _ :: r => walked r
mutual
/-- the same, as data (told by structure) -/
def D.beq : D → D → Bool
  | .non, y => match y with | .non => true | _ => false
  | .bl a, y => match y with | .bl b => a == b | _ => false
  | .int i, y => match y with | .int j => i == j | _ => false
  | .str a, y => match y with | .str b => a == b | _ => false
  | .tup xs, y => match y with | .tup ys => D.beqs xs ys | _ => false
  | .lst xs, y => match y with | .lst ys => D.beqs xs ys | _ => false
def D.beqs : List D → List D → Bool
  | [], ys => match ys with | [] => true | _ :: _ => false
  | x :: xs, ys => match ys with | [] => false | y :: ys => D.beq x y && D.beqs xs ys
end
/-- the walked slots stand as they stood -/
def stands (ρ0 ρ : Ev) : List Nat → Bool
  | [] => true
  | i :: r => (match ρ0[i]?, ρ[i]? with
    | some (some (.L _ xs)), some (some (.L _ ys)) => D.beqs xs ys
    | _, _ => false) && stands ρ0 ρ r
/-- a value put to a slot; a list of the caller's may not be left -/
def free (ρ : Ev) (i : Nat) : Bool := match ρ[i]? with
  | some (some (.L true _)) => false
  | some (some (.M true _ _)) => false
  | some _ => true
  | none => false
def store (ρ : Ev) (i : Nat) (w : W) : Option Ev := if free ρ i then some (ρ.set i (some w)) else none
mutual
def bindT : Tg → D → Ev → Option Ev
  | .nm i, x, ρ => store ρ i (.d x)
  | .tp ts, x, ρ => match x with
    | .tup xs => bindTs ts xs ρ
    | _ => none
def bindTs : List Tg → List D → Ev → Option Ev
  | [], xs, ρ => match xs with | [] => some ρ | _ :: _ => none
  | t :: ts, xs, ρ => match xs with
    | [] => none
    | x :: xs => (bindT t x ρ).bind (bindTs ts xs)
end
/-- name = value -/
def assign (ρ : Ev) (i : Nat) : O → Option Ev
  | .d x => store ρ i (.d x)
  | .L xs => store ρ i (.L false xs)
  | .M t kvs => store ρ i (.M false t kvs)
  | .bor j => match ρ[j]? with
    | some (some (.L false xs)) => store (ρ.set j (some (.d (.lst xs)))) i (.d (.lst xs))
    | _ => none
/-- the slots of a comprehension's own -/
def wipe (ρ : Ev) : List Nat → Ev
  | [] => ρ
  | i :: r => (wipe ρ r).set i none
def back (ρ0 ρ : Ev) : List Nat → Ev
  | [] => ρ
  | i :: r => (back ρ0 ρ r).set i (ρ0[i]?.getD none)
/-- x[k] = v -/
def setAt (ρ : Ev) (i : Nat) (k : O) (v : D) : Option Ev := match ρ[i]?, k with
  | some (some (.L p xs)), .d (.int j) => (place xs.length j).map fun j => ρ.set i (some (.L p (xs.set j v)))
  | _, _ => none
/-- what a call hands over: data, a new list, a slot's list (the caller's, both) -/
def handL (ρ : Ev) : List O → Option Ev
  | [] => some []
  | o :: os => (match o with
    | .d x => some (W.d x)
    | .L xs => some (W.L true xs)
    | .M t kvs => some (W.M true t kvs)
    | .bor i => (match ρ[i]? with
      | some (some (.L _ xs)) => some (W.L true xs)
      | some (some (.M _ t kvs)) => some (W.M true t kvs)
      | _ => none)).bind fun w => (handL ρ os).map (some w :: ·)
def onceEach : List Nat → Bool
  | [] => true
  | i :: r => !r.contains i && onceEach r
/-- behind the call: the slots' lists as the callee left them -/
def handB (ρ : Ev) : List O → Ev → Option Ev
  | [], _ => some ρ
  | .bor i :: os, a :: r => (match ρ[i]?, a with
    | some (some (.L p _)), some (.L true xs) => handB (ρ.set i (some (.L p xs))) os r
    | some (some (.M p t _)), some (.M true t' kvs) => if t == t' then handB (ρ.set i (some (.M p t kvs))) os r else none
    | _, _ => none)
  | _ :: os, _ :: r => handB ρ os r
  | _ :: _, [] => none
/-- what a def is called with, what it hands back -/
abbrev Calls := Nat → Nat → Ev → R O
/-- the things of a law: data of its module's constants; the reader; the word of each error -/
structure Top where
  con : List D
  read : Nat
  word : Nat → Nat
  ne : Nat
deriving Inhabited
def isBor : O → Bool
  | .bor _ => true
  | _ => false
def callF (C : Calls) (n f : Nat) (os : List O) (ρ : Ev) : R O :=
  if onceEach (walked os) then R.opt (handL ρ os) fun args => match C n f args with
    | .ok o ρ1 => if isBor o = true then .stuck else R.opt (handB ρ os ρ1) fun ρ2 => .ok o ρ2
    | .exc c ρ1 => R.opt (handB ρ os ρ1) fun ρ2 => .exc c ρ2
    | .stuck => .stuck
  else .stuck
/-- one item after the other -/
def walkL (turn : D → List D → Ev → R (List D)) : List D → List D → Ev → R (List D)
  | [], acc, ρ => .ok acc ρ
  | x :: r, acc, ρ => (turn x acc ρ).bind (walkL turn r)
def optInt : O → Option Int
  | .d (.int i) => some i
  | _ => none
def isAbs : E → Bool
  | .abs => true
  | _ => false
/-- a value as a test, as a slice's bound -/
def asT (r : R O) : R Bool := r.bind fun o ρ1 => R.opt (truth (rs ρ1 o)) fun b => .ok b ρ1
def asI (r : R O) : R (Option Int) := r.bind fun o ρ1 => R.opt (optInt o) fun i => .ok (some i) ρ1
/-- the last of some truth values, or the first that decides -/
def onB (stop : Bool) (r : R O) (f : Ev → R O) : R O := r.bind fun o ρ1 => match o with
  | .d (.bl b) => if b = stop then .ok (.d (.bl b)) ρ1 else f ρ1
  | _ => .stuck
def ifB {α : Type} (r : R Bool) (f g : Ev → R α) : R α := r.bind fun b ρ => if b = true then f ρ else g ρ
/-- one turn of a comprehension -/
def compTurn (own : List Nat) (ρ1 : Ev) (ws : List Nat) (tg : Tg) (tests : Ev → R Bool) (elt : Ev → R O) (x : D) (acc : List D) (ρ : Ev) : R (List D) :=
  if stands ρ1 ρ ws = true then R.opt (bindT tg x ρ) fun ρ2 => ifB (tests ρ2)
    (fun ρ3 => (elt ρ3).bind fun o ρ4 => R.opt (keep ρ4 o) fun p => if acc.length < cap then .ok (acc ++ [p.1]) (wipe p.2 own) else .stuck)
    (fun ρ3 => .ok acc (wipe ρ3 own)) else .stuck
def compEnd (own : List Nat) (ρ1 : Ev) (ws : List Nat) (r : R (List D)) : R O :=
  (r.bind fun acc ρ5 => if stands ρ1 ρ5 ws = true then .ok (.L acc) (back ρ1 ρ5 own) else .stuck).calm
/-- one turn of the outer clause of two -/
def compTurn2 (own : List Nat) (ρ1 : Ev) (ws : List Nat) (t1 : Tg) (it2 : Ev → R (List D × List Nat)) (vs1 : List Nat) (inner : Ev → List Nat → D → List D → Ev → R (List D)) (x : D) (acc : List D) (ρ : Ev) : R (List D) :=
  if stands ρ1 ρ ws = true then R.opt (bindT t1 x ρ) fun ρ2 => (it2 ρ2).bind fun p ρ3 => (walkL (inner ρ3 p.2) p.1 acc (wipe ρ3 vs1)).bind fun acc' ρ6 =>
    if stands ρ3 ρ6 p.2 = true then .ok acc' (wipe ρ6 own) else .stuck
  else .stuck
/-- what is walked, as items and slots -/
def iterF (k : Ik) (r : R (List O)) : R (List D × List Nat) := r.bind fun os ρ1 => R.opt (walk k (os.map (rs ρ1))) fun xs => .ok (xs, walked os) ρ1
def isL (ρ : Ev) (i : Nat) : Bool := match ρ[i]? with
  | some (some (.L _ _)) => true
  | _ => false
def appS (i : Nat) (x : D) (ρ : Ev) : R O := match ρ[i]? with
  | some (some (.L q xs)) => if xs.length < cap then .ok (.d .non) (ρ.set i (some (.L q (xs ++ [x])))) else .stuck
  | _ => .stuck
def popS (i : Nat) (ρ : Ev) : R O := match ρ[i]? with
  | some (some (.L q xs)) => R.opt xs[xs.length - 1]? fun x => .ok (.d x) (ρ.set i (some (.L q xs.dropLast)))
  | _ => .stuck
def getS (a y z : O) (ρ : Ev) : R O := R.opt (dictOf (rs ρ a)) fun m => match y, z with
  | .d k, .d v => if keyOk m.1 k = true then .ok (.d ((findK k m.2).getD v)) ρ else .stuck
  | _, _ => .stuck
def varS (i : Nat) (ρ : Ev) : R O := match ρ[i]? with
  | some (some (.d x)) => .ok (.d x) ρ
  | some (some _) => .ok (.bor i) ρ
  | _ => .stuck
def toldS (T : Top) (C : Calls) (m : Nat) (r : R O) : R O := match r with
  | .ok o ρ1 => (callF C (m + 1) T.read [o] ρ1).calm.bind fun r ρ2 => R.opt (keep ρ2 r) fun p => .ok (.d (.tup [.int 0, p.1])) p.2
  | .exc c ρ1 => R.grd (decide (c < T.ne)) (.ok (.d (.tup [.int 1, .str (T.word c)])) ρ1)
  | .stuck => .stuck
def okd (o : Option D) (ρ : Ev) : R O := R.opt o fun x => .ok (.d x) ρ
def oko (o : Option O) (ρ : Ev) : R O := R.opt o fun x => .ok x ρ
def okb (o : Option Bool) (ρ : Ev) : R O := R.opt o fun x => .ok (.d (.bl x)) ρ
mutual
def evE (T : Top) (C : Calls) : E → Nat → Ev → R O
  | .non, _, ρ => .ok (.d .non) ρ
  | .bl b, _, ρ => .ok (.d (.bl b)) ρ
  | .int i, _, ρ => .ok (.d (.int i)) ρ
  | .str k, _, ρ => .ok (.d (.str k)) ρ
  | .abs, _, _ => .stuck
  | .var i, _, ρ => varS i ρ
  | .con k, _, ρ => okd T.con[k]? ρ
  | .bin op a b, n, ρ => (evE T C a n ρ).bind fun x ρ1 => (evE T C b n ρ1).bind fun y ρ2 => oko (bin op (rs ρ2 x) (rs ρ2 y)) ρ2
  | .neg a, n, ρ => (evE T C a n ρ).bind fun x ρ1 => R.opt (optInt x) fun i => .ok (.d (.int (-i))) ρ1
  | .andL es, n, ρ => evAO T C false es n ρ
  | .orL es, n, ρ => evAO T C true es n ρ
  | .not_ a, n, ρ => (asT (evE T C a n ρ)).bind fun b ρ1 => .ok (.d (.bl (!b))) ρ1
  | .cmp op a b, n, ρ => (evE T C a n ρ).bind fun x ρ1 => (evE T C b n ρ1).bind fun y ρ2 => okb (cmp op (rs ρ2 x) (rs ρ2 y)) ρ2
  | .chain o1 o2 a b c, n, ρ => (evE T C a n ρ).bind fun x ρ1 => (evE T C b n ρ1).bind fun y ρ2 => R.opt (cmp o1 (rs ρ2 x) (rs ρ2 y)) fun k =>
      if k = true then (evE T C c n ρ2).bind fun z ρ3 => okb (cmp o2 (rs ρ3 y) (rs ρ3 z)) ρ3 else .ok (.d (.bl false)) ρ2
  | .ite c a b, n, ρ => ifB (asT (evE T C c n ρ)) (evE T C a n) (evE T C b n)
  | .tup es, n, ρ => (evL T C es n ρ).bind fun os ρ1 => R.opt (keeps ρ1 os) fun p => .ok (.d (.tup p.1)) p.2
  | .lst es, n, ρ => (evL T C es n ρ).bind fun os ρ1 => R.opt (keeps ρ1 os) fun p => .ok (.L p.1) p.2
  | .dnew t, _, ρ => .ok (.M t []) ρ
  | .ix a i, n, ρ => (evE T C a n ρ).bind fun x ρ1 => (evE T C i n ρ1).bind fun y ρ2 => okd (index (rs ρ2 x) (rs ρ2 y)) ρ2
  | .sl a lo hi, n, ρ => (evE T C a n ρ).bind fun x ρ1 => (if isAbs lo = true then .ok none ρ1 else asI (evE T C lo n ρ1)).bind fun l ρ2 =>
      (if isAbs hi = true then .ok none ρ2 else asI (evE T C hi n ρ2)).bind fun h ρ3 => oko (slice (rs ρ3 x) l h) ρ3
  | .rev a, n, ρ => (evE T C a n ρ).bind fun x ρ1 => oko (revd (rs ρ1 x)) ρ1
  | .call f es, n, ρ => (evL T C es n ρ).bind fun os ρ1 => callF C n f os ρ1
  | .blt b es, n, ρ => (evL T C es n ρ).bind fun os ρ1 => oko (blt b (os.map (rs ρ1))) ρ1
  | .isi a t, n, ρ => (evE T C a n ρ).bind fun x ρ1 => okb (isTy t (rs ρ1 x)) ρ1
  | .app i e, n, ρ => if isL ρ i = true then (evE T C e n ρ).bind fun x ρ1 => R.opt (keep ρ1 x) fun p => appS i p.1 p.2 else .stuck
  | .pop i, _, ρ => popS i ρ
  | .get2 d k x, n, ρ => (evE T C d n ρ).bind fun a ρ1 => (evE T C k n ρ1).bind fun y ρ2 => (evE T C x n ρ2).bind fun z ρ3 => getS a y z ρ3
  | .sdef _ _ _, _, _ => .stuck
  | .comp elt tg k es ifs own, n, ρ => (iterF k (evL T C es n ρ)).bind fun p ρ1 => compEnd own ρ1 p.2 (walkL (compTurn own ρ1 p.2 tg (evTs T C ifs n) (evE T C elt n)) p.1 [] (wipe ρ1 own))
  | .comp2 elt t1 k1 e1 t2 k2 e2 ifs own, n, ρ => (iterF k1 (evL T C e1 n ρ)).bind fun p ρ1 => compEnd own ρ1 p.2 (walkL (compTurn2 own ρ1 p.2 t1 (fun ρ2 => iterF k2 (evL T C e2 n ρ2)) (slots t2)
      fun ρ3 ws2 => compTurn (slots t2) ρ3 ws2 t2 (evTs T C ifs n) (evE T C elt n)) p.1 [] (wipe ρ1 own))
  | .dcomp _ _ _ _ _ _ _ _, _, _ => .stuck
  | .told b, n, ρ => match n with
    | m + 2 => toldS T C m (evE T C b m ρ)
    | _ => .stuck
termination_by structural e => e
def evL (T : Top) (C : Calls) : List E → Nat → Ev → R (List O)
  | [], _, ρ => .ok [] ρ
  | e :: es, n, ρ => (evE T C e n ρ).bind fun o ρ1 => (evL T C es n ρ1).bind fun os ρ2 => .ok (o :: os) ρ2
termination_by structural es => es
def evTs (T : Top) (C : Calls) : List E → Nat → Ev → R Bool
  | [], _, ρ => .ok true ρ
  | e :: es, n, ρ => ifB (asT (evE T C e n ρ)) (evTs T C es n) (fun ρ1 => .ok false ρ1)
termination_by structural es => es
def evAO (T : Top) (C : Calls) (stop : Bool) : List E → Nat → Ev → R O
  | [], _, _ => .stuck
  | e :: es, n, ρ => match es with
    | [] => evE T C e n ρ
    | _ :: _ => onB stop (evE T C e n ρ) (evAO T C stop es n)
termination_by structural es => es
end
/-! ### statements -/
mutual
/-- the slots that a statement stores to -/
def sets : S → List Nat
  | .set i _ => [i]
  | .setT ts _ => slotss ts
  | .par is _ => is
  | .aug i _ _ => [i]
  | .ite _ a b => setss a ++ setss b
  | .for_ t _ _ b => slots t ++ setss b
  | .while_ _ b => setss b
  | _ => []
def setss : List S → List Nat
  | [] => []
  | s :: ss => sets s ++ setss ss
end
def big : Nat := 1048576
/-- one item after the other; brk leaves -/
def forL (ws : List Nat) (ρ0 : Ev) (tg : Tg) (body : Ev → R Fl) : List D → Ev → R Fl
  | [], ρ => if stands ρ0 ρ ws = true then .ok .nx ρ else .stuck
  | x :: r, ρ => if stands ρ0 ρ ws = true then R.opt (bindT tg x ρ) fun ρ1 => (body ρ1).bind fun fl ρ2 => match fl with
      | .nx => forL ws ρ0 tg body r ρ2
      | .cont => forL ws ρ0 tg body r ρ2
      | .brk => .ok .nx ρ2
      | .ret o => .ok (.ret o) ρ2
    else .stuck
def whileL (test : Ev → R Bool) (body : Ev → R Fl) : Nat → Ev → R Fl
  | 0, _ => .stuck
  | m + 1, ρ => ifB (test ρ) (fun ρ1 => (body ρ1).bind fun fl ρ2 => match fl with
      | .nx => whileL test body m ρ2
      | .cont => whileL test body m ρ2
      | .brk => .ok .nx ρ2
      | .ret o => .ok (.ret o) ρ2) (fun ρ1 => .ok .nx ρ1)
/-- several names take several values -/
def assigns (ρ : Ev) : List Nat → List O → Option Ev
  | [], os => match os with | [] => some ρ | _ :: _ => none
  | i :: is, os => match os with
    | [] => none
    | o :: os => (assign ρ i o).bind fun ρ1 => assigns ρ1 is os
def augI (op : Bop) (a b : Int) : Option Int := match op with
  | .add => some (a + b)
  | .sub => some (a - b)
  | _ => none
def nxt (o : Option Ev) : R Fl := R.opt o fun ρ => .ok .nx ρ
/-- a list or dict handed back: the def's own -/
def give (ρ : Ev) : O → Option (O × Ev)
  | .bor i => match ρ[i]? with
    | some (some (.L false xs)) => some (.L xs, ρ.set i none)
    | some (some (.M false t kvs)) => some (.M t kvs, ρ.set i none)
    | _ => none
  | o => some (o, ρ)
mutual
def evS (T : Top) (C : Calls) : S → Nat → Ev → R Fl
  | .ex e, n, ρ => (evE T C e n ρ).bind fun _ ρ1 => .ok .nx ρ1
  | .ret e, n, ρ => (evE T C e n ρ).bind fun o ρ1 => .ok (.ret o) ρ1
  | .retN, _, ρ => .ok (.ret (.d .non)) ρ
  | .set i e, n, ρ => (evE T C e n ρ).bind fun o ρ1 => nxt (assign ρ1 i o)
  | .setT ts e, n, ρ => (evE T C e n ρ).bind fun o ρ1 => match o with
    | .d x => nxt (bindT (.tp ts) x ρ1)
    | _ => .stuck
  | .par is es, n, ρ => (evL T C es n ρ).bind fun os ρ1 => R.grd ((walked os).all fun k => !is.contains k) (nxt (assigns ρ1 is os))
  | .setIx i k e, n, ρ => (evE T C e n ρ).bind fun o ρ1 => R.opt (keep ρ1 o) fun p => R.grd (isL p.2 i) ((evE T C k n p.2).bind fun y ρ2 => nxt (setAt ρ2 i y p.1))
  | .aug i op e, n, ρ => match ρ[i]? with
    | some (some (.d (.int a))) => (evE T C e n ρ).bind fun o ρ1 => R.opt (optInt o) fun b => R.opt (augI op a b) fun z => nxt (store ρ1 i (.d (.int z)))
    | _ => .stuck
  | .augIx _ _ _ _, _, _ => .stuck
  | .ite c a b, n, ρ => ifB (asT (evE T C c n ρ)) (evB T C a n) (evB T C b n)
  | .for_ tg k es b, n, ρ => (iterF k (evL T C es n ρ)).bind fun p ρ1 => R.grd (p.2.all fun i => !(slots tg ++ setss b).contains i) (forL p.2 ρ1 tg (evB T C b n) p.1 ρ1)
  | .while_ c b, n, ρ => whileL (fun ρ => asT (evE T C c n ρ)) (evB T C b n) big ρ
  | .raise c, _, ρ => .exc c ρ
  | .pass, _, ρ => .ok .nx ρ
  | .brk, _, ρ => .ok .brk ρ
  | .cont, _, ρ => .ok .cont ρ
termination_by structural s => s
def evB (T : Top) (C : Calls) : List S → Nat → Ev → R Fl
  | [], _, ρ => .ok .nx ρ
  | s :: ss, n, ρ => (evS T C s n ρ).bind fun fl ρ1 => match fl with
    | .nx => evB T C ss n ρ1
    | fl => .ok fl ρ1
termination_by structural ss => ss
end
/-! ### defs -/
structure Def where
  np : Nat
  nl : Nat
  body : List S
deriving Inhabited
/-- the caller's part of the slots: the first ones -/
def outs (k : Nat) (args ρ : Ev) : Option Ev := match k, args, ρ with
  | 0, _, _ => some []
  | k + 1, a :: args, r :: ρ => (match a with
    | some (.L true _) => (match r with
      | some (.L true xs) => some (some (W.L true xs))
      | _ => none)
    | some (.M true t _) => (match r with
      | some (.M true t' kvs) => if t == t' then some (some (W.M true t kvs)) else none
      | _ => none)
    | _ => some (none : Option W)).bind fun w => (outs k args ρ).map (w :: ·)
  | _ + 1, _, _ => none
def runD (T : Top) (C : Calls) (d : Def) (n : Nat) (args : Ev) : R O :=
  if args.length = d.np then match evB T C d.body n (args ++ List.replicate d.nl none) with
    | .ok fl ρ => (match fl with
      | .nx => R.opt (outs args.length args ρ) fun r => .ok (.d .non) r
      | .ret o => R.opt (give ρ o) fun p => R.opt (outs args.length args p.2) fun r => .ok p.1 r
      | _ => .stuck)
    | .exc c ρ => R.opt (outs args.length args ρ) fun r => .exc c r
    | .stuck => .stuck
  else .stuck
/-- the calls of level up to n -/
def calls (T : Top) (ds : List Def) : Nat → Calls
  | 0 => fun _ _ _ => .stuck
  | n + 1 => fun m f args => if m = n + 1 then (match ds[f]? with
      | some d => runD T (calls T ds n) d n args
      | none => .stuck) else calls T ds n m f args
/-- f(args) at level n -/
def call (T : Top) (ds : List Def) (n f : Nat) (args : Ev) : R O := calls T ds n n f args
theorem calls_le (T : Top) (ds : List Def) : ∀ {n m : Nat}, m ≤ n → calls T ds n m = calls T ds m m
  | 0, m, h => by
    have e : m = 0 := by omega
    rw [e]
  | n + 1, m, h => by
    by_cases e : m = n + 1
    · rw [e]
    · have h1 : calls T ds (n + 1) m = calls T ds n m := by
        funext f args
        show (if m = n + 1 then _ else calls T ds n m f args) = _
        rw [if_neg e]
      rw [h1]
      exact calls_le T ds (by omega)
theorem call_succ (T : Top) (ds : List Def) (n f : Nat) (args : Ev) : call T ds (n + 1) f args = match ds[f]? with
    | some d => runD T (calls T ds n) d n args
    | none => .stuck := by
  show (if n + 1 = n + 1 then _ else _) = _
  rw [if_pos rfl]
end Ev
/-! Ev1: how data stand in the abstract heap; states; the lifted judgement. -/
namespace Ev
open PySem PySem.Spec PyProof.Rows L2
/-- the world: the written part, the texts, the tables of code objects, the errors' classes -/
structure Wo where
  K : PySem.W.Frag
  ST : List Str
  TT : List (Addr × Str)
  cls : Nat → Value
abbrev Fz := Addr → Prop
/-- a list that stands still: tracked, or written -/
def SL (Z : Wo) (F : Fz) (H : Hp) (a : Addr) (vs : List V) : Prop :=
  (F a ∧ Rd H a (.lst vs)) ∨
    ∃ (o : Obj) (its : Array Value) (n : Nat), Z.K.lookup a = some o ∧ o.cls = .type "list" ∧ o.dict = none ∧ o.data = .seq its n ∧ its.size ≤ sizeLine ∧ Vals vs its.toList
theorem SL.sq {Z : Wo} {F : Fz} {H : Hp} {a : Addr} {vs : List V} (h : SL Z F H a vs) : SqL Z.K H a vs := h.elim (fun x => .inl x.2) .inr
mutual
def Rp (Z : Wo) (F : Fz) (H : Hp) : D → V → Prop
  | .non, v => v = .non
  | .bl b, v => v = .bl b
  | .int i, v => v = .int i
  | .str n, v => ∃ x, Z.ST[n]? = some x ∧ v = .str x
  | .tup xs, v => ∃ a vs, v = .ref a ∧ SqT Z.K H a vs ∧ Rps Z F H xs vs
  | .lst xs, v => ∃ a vs, v = .ref a ∧ SL Z F H a vs ∧ Rps Z F H xs vs
def Rps (Z : Wo) (F : Fz) (H : Hp) : List D → List V → Prop
  | [], vs => vs = []
  | x :: xs, vs => ∃ v r, vs = v :: r ∧ Rp Z F H x v ∧ Rps Z F H xs r
end
/-- what data lean on stays -/
structure Up (F : Fz) (H : Hp) (F' : Fz) (H' : Hp) : Prop where
  tups : ∀ a vs, H a = some (.tup vs) → H' a = some (.tup vs)
  frzs : ∀ a o u, H a = some (.frz o u) → H' a = some (.frz o u)
  fin : ∀ a, F a → F' a
  fkeep : ∀ a vs, F a → H a = some (.lst vs) → H' a = some (.lst vs)
theorem Up.refl {F : Fz} {H : Hp} : Up F H F H := ⟨fun _ _ h => h, fun _ _ _ h => h, fun _ h => h, fun _ _ _ h => h⟩
theorem Up.of_same {F : Fz} {H H' : Hp} (h : Same H H') : Up F H F H' := ⟨fun _ _ e => h _ _ e, fun _ _ _ e => h _ _ e, fun _ h => h, fun _ _ _ e => h _ _ e⟩
section
variable {Z : Wo} {F F' : Fz} {H H' : Hp}
theorem Up.sqT {a : Addr} {vs : List V} (u : Up F H F' H') (h : SqT Z.K H a vs) : SqT Z.K H' a vs := by
  rcases h with (h | ⟨o, h⟩) | h
  · exact .inl (.inl (u.tups _ _ h))
  · exact .inl (.inr ⟨o, u.frzs _ _ _ h⟩)
  · exact .inr h
theorem Up.sl {a : Addr} {vs : List V} (u : Up F H F' H') (h : SL Z F H a vs) : SL Z F' H' a vs := by
  rcases h with ⟨f, h | ⟨o, h⟩⟩ | h
  · exact .inl ⟨u.fin _ f, .inl (u.fkeep _ _ f h)⟩
  · exact .inl ⟨u.fin _ f, .inr ⟨o, u.frzs _ _ _ h⟩⟩
  · exact .inr h
mutual
theorem Rp.up (u : Up F H F' H') : ∀ {x : D} {v : V}, Rp Z F H x v → Rp Z F' H' x v
  | .non, _, h => by simpa only [Rp] using h
  | .bl _, _, h => by simpa only [Rp] using h
  | .int _, _, h => by simpa only [Rp] using h
  | .str _, _, h => by simpa only [Rp] using h
  | .tup xs, v, h => by
    simp only [Rp] at h ⊢
    obtain ⟨a, vs, e, s, r⟩ := h
    exact ⟨a, vs, e, u.sqT s, Rps.up u r⟩
  | .lst xs, v, h => by
    simp only [Rp] at h ⊢
    obtain ⟨a, vs, e, s, r⟩ := h
    exact ⟨a, vs, e, u.sl s, Rps.up u r⟩
theorem Rps.up (u : Up F H F' H') : ∀ {xs : List D} {vs : List V}, Rps Z F H xs vs → Rps Z F' H' xs vs
  | [], _, h => by simpa only [Rps] using h
  | x :: xs, _, h => by
    simp only [Rps] at h ⊢
    obtain ⟨v, r, e, h1, h2⟩ := h
    exact ⟨v, r, e, Rp.up u h1, Rps.up u h2⟩
end
theorem Rps.nil : Rps Z F H [] [] := by simp only [Rps]
theorem Rps.cons {x : D} {v : V} {xs : List D} {vs : List V} (h : Rp Z F H x v) (t : Rps Z F H xs vs) : Rps Z F H (x :: xs) (v :: vs) := by
  simp only [Rps]
  exact ⟨v, vs, rfl, h, t⟩
theorem Rps.inv {x : D} {xs : List D} {vs : List V} (h : Rps Z F H (x :: xs) vs) : ∃ v r, vs = v :: r ∧ Rp Z F H x v ∧ Rps Z F H xs r := by simpa only [Rps] using h
theorem Rps.inv0 {vs : List V} (h : Rps Z F H [] vs) : vs = [] := by simpa only [Rps] using h
theorem Rps.len : ∀ {xs : List D} {vs : List V}, Rps Z F H xs vs → xs.length = vs.length
  | [], _, h => by rw [h.inv0]; rfl
  | x :: xs, _, h => by
    obtain ⟨v, r, e, h1, h2⟩ := h.inv
    rw [e, List.length_cons, List.length_cons, Rps.len h2]
theorem Rps.get : ∀ {xs : List D} {vs : List V} {i : Nat} {x : D}, Rps Z F H xs vs → xs[i]? = some x → ∃ v, vs[i]? = some v ∧ Rp Z F H x v
  | [], _, i, x, _, e => by simp at e
  | y :: xs, _, 0, x, h, e => by
    obtain ⟨v, r, e2, h1, h2⟩ := h.inv
    have : y = x := by simpa using e
    subst this
    exact ⟨v, by rw [e2]; rfl, h1⟩
  | y :: xs, _, i + 1, x, h, e => by
    obtain ⟨v, r, e2, h1, h2⟩ := h.inv
    obtain ⟨w, e3, h3⟩ := Rps.get (i := i) (x := x) h2 (by simpa using e)
    exact ⟨w, by rw [e2]; simpa using e3, h3⟩
theorem Rps.append : ∀ {xs ys : List D} {vs ws : List V}, Rps Z F H xs vs → Rps Z F H ys ws → Rps Z F H (xs ++ ys) (vs ++ ws)
  | [], _, _, _, h, t => by rw [h.inv0]; exact t
  | x :: xs, _, _, _, h, t => by
    obtain ⟨v, r, e, h1, h2⟩ := h.inv
    rw [e]
    exact .cons h1 (Rps.append h2 t)
theorem Rps.set {x : D} {v : V} (hx : Rp Z F H x v) : ∀ {xs : List D} {vs : List V} (i : Nat), Rps Z F H xs vs → Rps Z F H (xs.set i x) (vs.set i v)
  | [], _, i, h => by
    rw [h.inv0]
    exact .nil
  | y :: xs, _, 0, h => by
    obtain ⟨w, r, e, h1, h2⟩ := h.inv
    rw [e]
    exact .cons hx h2
  | y :: xs, _, i + 1, h => by
    obtain ⟨w, r, e, h1, h2⟩ := h.inv
    rw [e]
    exact .cons h1 (Rps.set hx i h2)
theorem Rps.take : ∀ {xs : List D} {vs : List V} (n : Nat), Rps Z F H xs vs → Rps Z F H (xs.take n) (vs.take n)
  | [], _, n, h => by
    rw [h.inv0]
    simpa using Rps.nil
  | x :: xs, _, 0, h => by simpa using Rps.nil
  | x :: xs, _, n + 1, h => by
    obtain ⟨w, r, e, h1, h2⟩ := h.inv
    rw [e]
    exact .cons h1 (Rps.take n h2)
theorem Rps.drop : ∀ {xs : List D} {vs : List V} (n : Nat), Rps Z F H xs vs → Rps Z F H (xs.drop n) (vs.drop n)
  | [], _, n, h => by
    rw [h.inv0]
    simpa using Rps.nil
  | x :: xs, _, 0, h => h
  | x :: xs, _, n + 1, h => by
    obtain ⟨w, r, e, h1, h2⟩ := h.inv
    rw [e]
    exact Rps.drop n h2
theorem Rps.reverse : ∀ {xs : List D} {vs : List V}, Rps Z F H xs vs → Rps Z F H xs.reverse vs.reverse
  | [], _, h => by
    rw [h.inv0]
    exact .nil
  | x :: xs, _, h => by
    obtain ⟨w, r, e, h1, h2⟩ := h.inv
    rw [e, List.reverse_cons, List.reverse_cons]
    exact (Rps.reverse h2).append (.cons h1 .nil)
end
/-! ### dicts -/
def keyD (Z : Wo) : Key → D → Prop
  | .inl i, x => x = .int i
  | .inr s, x => ∃ n, Z.ST[n]? = some s ∧ x = .str n
def DicK (Z : Wo) (F : Fz) (H : Hp) (p : Key × V) (q : D × D) : Prop := keyD Z p.1 q.1 ∧ Rp Z F H q.2 p.2
def DicT (Z : Wo) (F : Fz) (H : Hp) (p : List Key × V) (q : D × D) : Prop := (∃ ds, q.1 = .tup ds ∧ Paired (keyD Z) p.1 ds) ∧ Rp Z F H q.2 p.2
def Dic (Z : Wo) (F : Fz) (H : Hp) : Bool → Addr → List (D × D) → Prop
  | false, a, kvs => ∃ ps, H a = some (.dK ps) ∧ Paired (DicK Z F H) ps kvs
  | true, a, kvs => ∃ ps, H a = some (.dT ps) ∧ Paired (DicT Z F H) ps kvs
theorem Dic.up {Z : Wo} {F F' : Fz} {H H' : Hp} {t : Bool} {a : Addr} {kvs : List (D × D)} (u : Up F H F' H') (k : ∀ o, H a = some o → H' a = some o) (h : Dic Z F H t a kvs) : Dic Z F' H' t a kvs := by
  cases t with
  | false =>
    obtain ⟨ps, e, p⟩ := h
    exact ⟨ps, k _ e, L2.Paired.mapP p fun _ _ q => ⟨q.1, q.2.up u⟩⟩
  | true =>
    obtain ⟨ps, e, p⟩ := h
    exact ⟨ps, k _ e, L2.Paired.mapP p fun _ _ q => ⟨q.1, q.2.up u⟩⟩
/-- nothing there, but for a table of code objects -/
def NoO : Option HO → Prop
  | none => True
  | some (.tbl _) => True
  | some _ => False
theorem NoO.none {o : Option HO} (h : o = none) : NoO o := by
  rw [h]
  trivial
theorem NoO.tbl {u : HO} (h : NoO (some u)) : ∃ ps, u = .tbl ps := by
  cases u <;> first | exact ⟨_, rfl⟩ | exact h.elim
theorem NoO.of_not {o : Option HO} (h : ¬ ¬ NoO o) : NoO o := Classical.byContradiction h
/-! ### slots -/
def isOwn : W → Bool
  | .d _ => false
  | _ => true
def RpW (Z : Wo) (F : Fz) (H : Hp) : W → V → Prop
  | .d x, v => Rp Z F H x v
  | .L _ xs, v => ∃ a vs, v = .ref a ∧ H a = some (.lst vs) ∧ Rps Z F H xs vs ∧ ¬ F a
  | .M _ t kvs, v => ∃ a, v = .ref a ∧ Dic Z F H t a kvs ∧ ¬ F a
def Own (σ : L2.St) (ρ : Ev) (a : Addr) : Prop := ∃ (i : Nat) (w : W), ρ[i]? = some (some w) ∧ isOwn w = true ∧ σ[i]? = some (some (V.ref a))
structure Sta (Z : Wo) (F : Fz) (H : Hp) (σ : L2.St) (ρ : Ev) : Prop where
  len : ρ.length = σ.length
  rep : ∀ (i : Nat) (w : W), ρ[i]? = some (some w) → ∃ v, σ[i]? = some (some v) ∧ RpW Z F H w v
  inj : ∀ (i j : Nat) (wi wj : W) (a : Addr), ρ[i]? = some (some wi) → ρ[j]? = some (some wj) → isOwn wi = true → isOwn wj = true → σ[i]? = some (some (.ref a)) → σ[j]? = some (some (.ref a)) → i = j
  tabs : LamX.Tabs Z.TT H
  ft : ∀ a, F a → ¬ NoO (H a)
structure Stp (Z : Wo) (ow : Addr → Prop) (F : Fz) (H : Hp) (F' : Fz) (H' : Hp) : Prop where
  keep : ∀ b o, H b = some o → ¬ ow b → (∀ ps, o ≠ .tbl ps) → H' b = some o
  there : ∀ b, ¬ NoO (H b) → ¬ NoO (H' b)
  fin : ∀ b, F b → F' b
  fout : ∀ b, F' b → F b ∨ NoO (H b) ∨ ow b
section
variable {Z : Wo} {F F' F1 F2 : Fz} {H H' H1 H2 : Hp} {σ : L2.St} {ρ ρ' ρ1 ρ2 : Ev} {ow ow' : Addr → Prop}
theorem Stp.refl : Stp Z ow F H F H := ⟨fun _ _ h _ _ => h, fun _ h => h, fun _ h => h, fun _ h => .inl h⟩
theorem Stp.of_same (h : Same H H') : Stp Z ow F H F H' := ⟨fun _ _ e _ _ => h _ _ e, fun b n => by
  cases q : H b with
  | none => exact absurd (.none q) n
  | some o =>
    rw [h _ _ q, ← q]
    exact n, fun _ h => h, fun _ h => .inl h⟩
theorem Stp.trans (a : Stp Z ow F H F1 H1) (b : Stp Z ow' F1 H1 F2 H2) (o : ∀ x, ow' x → ow x ∨ NoO (H x)) : Stp Z ow F H F2 H2 := by
  refine ⟨fun x u e n t => ?_, fun x n => b.there _ (a.there _ n), fun x f => b.fin _ (a.fin _ f), fun x f => ?_⟩
  · refine b.keep x u (a.keep x u e n t) (fun z => ?_) t
    rcases o x z with z | z
    · exact n z
    · rw [e] at z
      obtain ⟨ps, z⟩ := z.tbl
      exact t ps z
  · rcases b.fout x f with z | z | z
    · exact a.fout x z
    · exact .inr (.inl (.of_not fun y => a.there x y z))
    · rcases o x z with z | z
      · exact .inr (.inr z)
      · exact .inr (.inl z)
theorem Sta.kind (s : Sta Z F H σ ρ) {a : Addr} (h : Own σ ρ a) : ((∃ vs, H a = some (.lst vs)) ∨ (∃ ps, H a = some (.dK ps)) ∨ ∃ ps, H a = some (.dT ps)) ∧ ¬ F a := by
  obtain ⟨i, w, e1, e2, e3⟩ := h
  obtain ⟨v, e4, r⟩ := s.rep i w e1
  rw [e3] at e4
  have e5 : v = .ref a := (Option.some.inj (Option.some.inj e4)).symm
  subst e5
  cases w with
  | d x => cases e2
  | L p xs =>
    obtain ⟨b, vs, e, h1, _, h2⟩ := r
    cases e
    exact ⟨.inl ⟨vs, h1⟩, h2⟩
  | M p t kvs =>
    obtain ⟨b, e, h1, h2⟩ := r
    cases e
    refine ⟨?_, h2⟩
    cases t with
    | false =>
      obtain ⟨ps, h1, _⟩ := h1
      exact .inr (.inl ⟨ps, h1⟩)
    | true =>
      obtain ⟨ps, h1, _⟩ := h1
      exact .inr (.inr ⟨ps, h1⟩)
theorem Sta.up (s : Sta Z F H σ ρ) (p : Stp Z (Own σ ρ) F H F' H') : Up F H F' H' := by
  refine ⟨fun a vs e => p.keep a _ e (fun z => ?_) (fun _ q => by cases q), fun a o u e => p.keep a _ e (fun z => ?_) (fun _ q => by cases q), p.fin, fun a vs f e => p.keep a _ e (fun z => (s.kind z).2 f) (fun _ q => by cases q)⟩
  · rcases (s.kind z).1 with ⟨_, q⟩ | ⟨_, q⟩ | ⟨_, q⟩ <;> · rw [e] at q; cases q
  · rcases (s.kind z).1 with ⟨_, q⟩ | ⟨_, q⟩ | ⟨_, q⟩ <;> · rw [e] at q; cases q
theorem RpW.up {w : W} {v : V} (u : Up F H F' H') (k : ∀ a, v = .ref a → isOwn w = true → (∀ o, H a = some o → H' a = some o) ∧ ¬ F' a) (h : RpW Z F H w v) : RpW Z F' H' w v := by
  cases w with
  | d x => exact Rp.up u h
  | L p xs =>
    obtain ⟨a, vs, e, h1, h2, h3⟩ := h
    obtain ⟨k1, k2⟩ := k a e rfl
    exact ⟨a, vs, e, k1 _ h1, h2.up u, k2⟩
  | M p t kvs =>
    obtain ⟨a, e, h1, h2⟩ := h
    obtain ⟨k1, k2⟩ := k a e rfl
    exact ⟨a, e, h1.up u k1, k2⟩
/-- new objects, or tables: the state as it is -/
theorem Sta.same (s : Sta Z F H σ ρ) (h : Same H H') : Sta Z F H' σ ρ := by
  refine ⟨s.len, fun i w e => ?_, s.inj, s.tabs.ext h, fun a f => (Stp.of_same (Z := Z) (ow := fun _ => False) (F := F) h).there a (s.ft a f)⟩
  obtain ⟨v, e2, r⟩ := s.rep i w e
  refine ⟨v, e2, r.up (.of_same h) fun a ea ho => ⟨fun o q => h _ _ q, ?_⟩⟩
  subst ea
  exact (s.kind ⟨i, w, e, ho, e2⟩).2
theorem own_of {i : Nat} {w : W} {a : Addr} (e : ρ[i]? = some (some w)) (o : isOwn w = true) (e2 : σ[i]? = some (some (.ref a))) : Own σ ρ a := ⟨i, w, e, o, e2⟩
end
/-! ### what an expression gives -/
def Out (Z : Wo) (F : Fz) (H : Hp) (σ : L2.St) (ρ : Ev) : O → V → Prop
  | .d x, v => Rp Z F H x v
  | .L xs, v => ∃ a vs, v = .ref a ∧ H a = some (.lst vs) ∧ Rps Z F H xs vs ∧ ¬ F a ∧ ¬ Own σ ρ a
  | .M t kvs, v => ∃ a, v = .ref a ∧ Dic Z F H t a kvs ∧ ¬ F a ∧ ¬ Own σ ρ a
  | .bor i, v => σ[i]? = some (some v)
def isNew : O → Bool
  | .L _ => true
  | .M _ _ => true
  | _ => false
/-- a new list or dict was not there -/
def Frs (H : Hp) (o : O) (v : V) : Prop := isNew o = true → ∀ a, v = .ref a → NoO (H a)
/-- a value as it stands -/
def Rv (Z : Wo) (F : Fz) (H : Hp) : O → V → Prop
  | .d x, v => Rp Z F H x v
  | .L xs, v => ∃ a vs, v = .ref a ∧ H a = some (.lst vs) ∧ Rps Z F H xs vs
  | .M t kvs, v => ∃ a, v = .ref a ∧ Dic Z F H t a kvs
  | .bor _, _ => True
section
variable {Z : Wo} {F F' F1 F2 : Fz} {H H' H1 H2 : Hp} {σ : L2.St} {ρ ρ' ρ1 ρ2 : Ev}
theorem Out.dp {x : D} {v : V} (h : Out Z F H σ ρ (.d x) v) : Rp Z F H x v := h
theorem Out.rv (s : Sta Z F H σ ρ) {o : O} {v : V} (h : Out Z F H σ ρ o v) : Rv Z F H (rs ρ o) v := by
  cases o with
  | d x => exact h
  | L xs =>
    obtain ⟨a, vs, e, h1, h2, _⟩ := h
    exact ⟨a, vs, e, h1, h2⟩
  | M t kvs =>
    obtain ⟨a, e, h1, _⟩ := h
    exact ⟨a, e, h1⟩
  | bor i =>
    have e : σ[i]? = some (some v) := h
    cases e2 : ρ[i]? with
    | none => simp only [rs, e2, Rv]
    | some x =>
      cases x with
      | none => simp only [rs, e2, Rv]
      | some w =>
        obtain ⟨v', e3, r⟩ := s.rep i w e2
        rw [e] at e3
        have e4 : v = v' := Option.some.inj (Option.some.inj e3)
        subst e4
        cases w with
        | d x => simp only [rs, e2, Rv]
        | L p xs =>
          obtain ⟨a, vs, e, h1, h2, _⟩ := r
          simp only [rs, e2, Rv]
          exact ⟨a, vs, e, h1, h2⟩
        | M p t kvs =>
          obtain ⟨a, e, h1, _⟩ := r
          simp only [rs, e2, Rv]
          exact ⟨a, e, h1⟩
/-- the caller's lists in the slots stay there -/
def isP : W → Bool
  | .L p _ => p
  | .M p _ _ => p
  | .d _ => false
def Pk (σ0 : L2.St) (ρ0 : Ev) (σ1 : L2.St) (ρ1 : Ev) : Prop := ∀ (i : Nat) (w : W), ρ1[i]? = some (some w) → isP w = true → (∃ w0, ρ0[i]? = some (some w0) ∧ isP w0 = true) ∧ σ1[i]? = σ0[i]?
theorem Pk.refl {σ : L2.St} {ρ : Ev} : Pk σ ρ σ ρ := fun i w h p => ⟨⟨w, h, p⟩, rfl⟩
theorem Pk.trans {σ0 σ1 σ2 : L2.St} {ρ0 ρ1 ρ2 : Ev} (a : Pk σ0 ρ0 σ1 ρ1) (b : Pk σ1 ρ1 σ2 ρ2) : Pk σ0 ρ0 σ2 ρ2 := fun i w h p => by
  obtain ⟨⟨w1, h1, p1⟩, e1⟩ := b i w h p
  obtain ⟨h0, e0⟩ := a i w1 h1 p1
  exact ⟨h0, e1.trans e0⟩
/-- from one state to a later one -/
structure Path (Z : Wo) (σ0 : L2.St) (F0 : Fz) (H0 : Hp) (ρ0 : Ev) (σ1 : L2.St) (F1 : Fz) (H1 : Hp) (ρ1 : Ev) : Prop where
  st : Sta Z F1 H1 σ1 ρ1
  sp : Stp Z (Own σ0 ρ0) F0 H0 F1 H1
  sub : ∀ b, Own σ1 ρ1 b → Own σ0 ρ0 b ∨ NoO (H0 b)
  pp : Pk σ0 ρ0 σ1 ρ1
theorem Path.refl (s : Sta Z F H σ ρ) : Path Z σ F H ρ σ F H ρ := ⟨s, .refl, fun _ h => .inl h, .refl⟩
theorem Path.trans {σ0 σ1 σ2 : L2.St} {F0 : Fz} {H0 : Hp} {ρ0 : Ev} (a : Path Z σ0 F0 H0 ρ0 σ1 F1 H1 ρ1) (b : Path Z σ1 F1 H1 ρ1 σ2 F2 H2 ρ2) : Path Z σ0 F0 H0 ρ0 σ2 F2 H2 ρ2 := by
  refine ⟨b.st, a.sp.trans b.sp a.sub, fun x h => ?_, a.pp.trans b.pp⟩
  rcases b.sub x h with z | z
  · exact a.sub x z
  · exact .inr (.of_not fun y => a.sp.there x y z)
theorem Path.same {σ0 σ1 : L2.St} {F0 : Fz} {H0 : Hp} {ρ0 : Ev} (a : Path Z σ0 F0 H0 ρ0 σ1 F1 H1 ρ1) (h : Same H1 H2) : Path Z σ0 F0 H0 ρ0 σ1 F1 H2 ρ1 :=
  a.trans ⟨a.st.same h, .of_same h, fun _ z => .inl z, .refl⟩
/-- a value kept over a further step -/
theorem Out.step {σ' : L2.St} (s : Sta Z F H σ ρ) (p : Path Z σ F H ρ σ' F' H' ρ') (e : ∀ (i : Nat) (v : V), σ[i]? = some (some v) → σ'[i]? = some (some v)) {o : O} {v : V} (h : Out Z F H σ ρ o v) : Out Z F' H' σ' ρ' o v := by
  have u := s.up p.sp
  have sp := p.sp
  cases o with
  | d x => exact Rp.up u h
  | L xs =>
    obtain ⟨a, vs, e, h1, h2, h3, h4⟩ := h
    refine ⟨a, vs, e, sp.keep _ _ h1 h4 (fun _ q => by cases q), h2.up u, fun z => ?_, fun z => ?_⟩
    · rcases sp.fout a z with z | z | z
      · exact h3 z
      · rw [h1] at z; cases z
      · exact h4 z
    · rcases p.sub _ z with z | z
      · exact h4 z
      · rw [h1] at z; cases z
  | M t kvs =>
    obtain ⟨a, e, h1, h3, h4⟩ := h
    have hk : ∃ o, H a = some o ∧ ∀ ps, o ≠ .tbl ps := by
      cases t with
      | false =>
        obtain ⟨ps, q, _⟩ := h1
        exact ⟨_, q, fun _ z => by cases z⟩
      | true =>
        obtain ⟨ps, q, _⟩ := h1
        exact ⟨_, q, fun _ z => by cases z⟩
    obtain ⟨o, ho, hn⟩ := hk
    refine ⟨a, e, h1.up u fun o' q => ?_, fun z => ?_, fun z => ?_⟩
    · rw [ho] at q
      cases q
      exact sp.keep _ _ ho h4 hn
    · rcases sp.fout a z with z | z | z
      · exact h3 z
      · rw [ho] at z; obtain ⟨ps, z⟩ := z.tbl; exact hn ps z
      · exact h4 z
    · rcases p.sub _ z with z | z
      · exact h4 z
      · rw [ho] at z; obtain ⟨ps, z⟩ := z.tbl; exact hn ps z
  | bor i => exact e i v h
theorem Frs.back {σ0 : L2.St} {F0 : Fz} {H0 : Hp} {ρ0 : Ev} (p : Path Z σ0 F0 H0 ρ0 σ F H ρ) {o : O} {v : V} (h : Frs H o v) : Frs H0 o v := fun n a e => by
  exact .of_not fun y => p.sp.there a y (h n a e)
end
/-! ### the lifted judgement: what is wanted of what the evaluator gives -/
section
variable {Z : Wo} {E : XK} {α β γ δ : Type}
/-- how a result stands: relation of the start's heap, the end's -/
abbrev Rel (α β : Type) := L2.St → Hp → Fz → Hp → Ev → α → β → Prop
def PostG (Z : Wo) (E : XK) (rel : Rel α β) (σ : L2.St) (F0 : Fz) (H0 : Hp) (ρ0 : Ev) (r : R α) (Q : β → Hp → Prop) : Prop := match r with
  | .ok a ρ' => ∀ b F' H', Path Z σ F0 H0 ρ0 σ F' H' ρ' → rel σ H0 F' H' ρ' a b → Q b H'
  | .exc c ρ' => ∀ F' H', Path Z σ F0 H0 ρ0 σ F' H' ρ' → E (Z.cls c) none H'
  | .stuck => False
def LG (Z : Wo) (E : XK) (rel : Rel α β) (f : Ev → R α) : L2.St → Hp → (β → Hp → Prop) → Prop := fun σ H Q =>
  ∃ F0 H0 ρ0 F ρ, Path Z σ F0 H0 ρ0 σ F H ρ ∧ PostG Z E rel σ F0 H0 ρ0 (f ρ) Q
/-- a part runs -/
theorem runE {rel : Rel α β} {rel' : Rel γ δ} {σ : L2.St} {F0 F1 : Fz} {H0 H1 : Hp} {ρ0 ρ1 : Ev} {g : Ev → R α} {k : α → Ev → R γ} {Q : δ → Hp → Prop} {Q2 : β → Hp → Prop}
    (p : Path Z σ F0 H0 ρ0 σ F1 H1 ρ1) (post : PostG Z E rel' σ F0 H0 ρ0 ((g ρ1).bind k) Q)
    (h : ∀ y ρ2 b F2 H2, g ρ1 = .ok y ρ2 → Path Z σ F1 H1 ρ1 σ F2 H2 ρ2 → Path Z σ F0 H0 ρ0 σ F2 H2 ρ2 → rel σ H1 F2 H2 ρ2 y b → PostG Z E rel' σ F0 H0 ρ0 (k y ρ2) Q → Q2 b H2) : LG Z E rel g σ H1 Q2 := by
  refine ⟨F1, H1, ρ1, F1, ρ1, .refl p.st, ?_⟩
  cases e : g ρ1 with
  | ok a ρ2 =>
    rw [e] at post
    exact fun b F' H' q r => h a ρ2 b F' H' e q (p.trans q) r post
  | exc c ρ2 =>
    rw [e] at post
    exact fun F' H' q => post F' H' (p.trans q)
  | stuck =>
    rw [e] at post
    exact post.elim
theorem run {rel : Rel α β} {rel' : Rel γ δ} {σ : L2.St} {F0 F1 : Fz} {H0 H1 : Hp} {ρ0 ρ1 : Ev} {g : Ev → R α} {k : α → Ev → R γ} {Q : δ → Hp → Prop} {Q2 : β → Hp → Prop}
    (p : Path Z σ F0 H0 ρ0 σ F1 H1 ρ1) (post : PostG Z E rel' σ F0 H0 ρ0 ((g ρ1).bind k) Q)
    (h : ∀ y ρ2 b F2 H2, Path Z σ F1 H1 ρ1 σ F2 H2 ρ2 → Path Z σ F0 H0 ρ0 σ F2 H2 ρ2 → rel σ H1 F2 H2 ρ2 y b → PostG Z E rel' σ F0 H0 ρ0 (k y ρ2) Q → Q2 b H2) : LG Z E rel g σ H1 Q2 :=
  runE p post fun y ρ2 b F2 H2 _ => h y ρ2 b F2 H2
/-- the relation of an expression's result, of a test's, of a slice's bound -/
def relE (Z : Wo) : Rel O V := fun σ H0 F H ρ o v => Out Z F H σ ρ o v ∧ Frs H0 o v
def relT : Rel Bool Bool := fun _ _ _ _ _ a b => b = a
abbrev LE (Z : Wo) (E : XK) (f : Ev → R O) : TE := LG Z E (relE Z) f
abbrev LT (Z : Wo) (E : XK) (f : Ev → R Bool) : TT := LG Z E relT f
/-- what a rule by values gives: nothing is changed, a new list or dict is new -/
def NewO (Z : Wo) (F : Fz) (H : Hp) : O → V → Hp → Prop
  | .d x, v, H' => Same H H' ∧ Rp Z F H' x v
  | .L xs, v, H' => Same H H' ∧ ∃ a vs, v = .ref a ∧ H a = none ∧ H' a = some (.lst vs) ∧ Rps Z F H' xs vs
  | .M t kvs, v, H' => Same H H' ∧ ∃ a, v = .ref a ∧ H a = none ∧ H' a ≠ none ∧ Dic Z F H' t a kvs
  | .bor _, _, _ => False
theorem NewO.here {F : Fz} {H : Hp} {x : D} {v : V} (h : Rp Z F H x v) : NewO Z F H (.d x) v H := ⟨.refl H, h⟩
theorem fin_new {σ : L2.St} {F0 F : Fz} {H0 H H' : Hp} {ρ0 ρ : Ev} {o : O} {v : V} {Q : VK} (p : Path Z σ F0 H0 ρ0 σ F H ρ) (post : PostG Z E (relE Z) σ F0 H0 ρ0 (.ok o ρ) Q) (n : NewO Z F H o v H') : Q v H' := by
  have nF : ∀ a, H a = none → ¬ F a := fun a e f => p.st.ft a f (.none e)
  have nO : ∀ a, H a = none → ¬ Own σ ρ a := fun a e z => by
    rcases (p.st.kind z).1 with ⟨_, q⟩ | ⟨_, q⟩ | ⟨_, q⟩ <;> · rw [e] at q; cases q
  have n0 : ∀ a, H a = none → NoO (H0 a) := fun a e => .of_not fun y => p.sp.there a y (.none e)
  cases o with
  | d x => exact post v F H' (p.same n.1) ⟨n.2, fun z => by cases z⟩
  | L xs =>
    obtain ⟨sm, a, vs, rfl, e, h1, h2⟩ := n
    exact post _ F H' (p.same sm) ⟨⟨a, vs, rfl, h1, h2, nF a e, nO a e⟩, fun _ b q => by cases q; exact n0 a e⟩
  | M t kvs =>
    obtain ⟨sm, a, rfl, e, _, h2⟩ := n
    exact post _ F H' (p.same sm) ⟨⟨a, rfl, h2, nF a e, nO a e⟩, fun _ b q => by cases q; exact n0 a e⟩
  | bor i => exact n.elim
end
end Ev
/-! Ev2: lists of results, lists that are kept, what a call hands over. -/
namespace Ev
open PySem PySem.Spec PyProof.Rows L2
section
variable {Z : Wo} {E : XK} {F F' F0 F1 F2 : Fz} {H H' H0 H1 H2 : Hp} {σ σ0 σ1 : L2.St} {ρ ρ' ρ0 ρ1 ρ2 : Ev}
/-- a new object is none of these -/
def Apart (a : Addr) : List O → List V → Prop
  | o :: os, v :: vs => (isNew o = true → v ≠ .ref a) ∧ Apart a os vs
  | _, _ => True
def OutL (Z : Wo) (H0 : Hp) (F : Fz) (H : Hp) (σ : L2.St) (ρ : Ev) : List O → List V → Prop
  | [], vs => vs = []
  | o :: os, vs => ∃ v r, vs = v :: r ∧ Out Z F H σ ρ o v ∧ Frs H0 o v ∧ (isNew o = true → ∀ a, v = .ref a → Apart a os r) ∧ OutL Z H0 F H σ ρ os r
def relL (Z : Wo) : Rel (List O) (List V) := fun σ H0 F H ρ os vs => OutL Z H0 F H σ ρ os vs
abbrev LA (Z : Wo) (E : XK) (f : Ev → R (List O)) : TA := LG Z E (relL Z) f
theorem OutL.len : ∀ {os : List O} {vs : List V}, OutL Z H0 F H σ ρ os vs → os.length = vs.length
  | [], _, h => by
    have e : _ = [] := h
    rw [e]; rfl
  | o :: os, _, h => by
    obtain ⟨v, r, e, _, _, _, t⟩ := h
    rw [e, List.length_cons, List.length_cons, OutL.len t]
theorem Apart.of_new {a : Addr} : ∀ {os : List O} {vs : List V}, ¬ NoO (H1 a) → OutL Z H1 F H σ ρ os vs → Apart a os vs
  | [], _, _, _ => by unfold Apart; trivial
  | o :: os, _, n, h => by
    obtain ⟨v, r, e, _, f, _, t⟩ := h
    rw [e]
    exact ⟨fun hn q => n (f hn a q), Apart.of_new n t⟩
theorem OutL.back {σ0 : L2.St} {F0 : Fz} {H0 : Hp} {ρ0 : Ev} (p : Path Z σ0 F0 H0 ρ0 σ1 F1 H1 ρ1) : ∀ {os : List O} {vs : List V}, OutL Z H1 F H σ ρ os vs → OutL Z H0 F H σ ρ os vs
  | [], _, h => h
  | o :: os, _, h => by
    obtain ⟨v, r, e, h1, f, a, t⟩ := h
    exact ⟨v, r, e, h1, f.back p, a, OutL.back p t⟩
theorem new_there {o : O} {v : V} {a : Addr} (h : Out Z F H σ ρ o v) (n : isNew o = true) (e : v = .ref a) : ¬ NoO (H a) := by
  cases o with
  | d x => cases n
  | L xs =>
    obtain ⟨b, vs, e2, h1, _⟩ := h
    rw [e] at e2
    cases e2
    rw [h1]; exact id
  | M t kvs =>
    obtain ⟨b, e2, h1, _⟩ := h
    rw [e] at e2
    cases e2
    cases t with
    | false =>
      obtain ⟨ps, q, _⟩ := h1
      rw [q]; exact id
    | true =>
      obtain ⟨ps, q, _⟩ := h1
      rw [q]; exact id
  | bor i => cases n
/-- what is frozen -/
def frz (F : Fz) (a : Addr) : Fz := fun b => F b ∨ b = a
theorem Up.frz {a : Addr} : Up F H (frz F a) H := ⟨fun _ _ h => h, fun _ _ _ h => h, fun _ h => .inl h, fun _ _ _ h => h⟩
theorem getset {ρ : Ev} {i j : Nat} {w : Option W} {x : Option W} (e : (ρ.set i w)[j]? = some x) : (j = i ∧ x = w ∧ i < ρ.length) ∨ (j ≠ i ∧ ρ[j]? = some x) := by
  by_cases h : j = i
  · subst h
    have hl : j < ρ.length := by
      have z := (List.getElem?_eq_some_iff.mp e).1
      rwa [List.length_set] at z
    rw [List.getElem?_set_self hl] at e
    exact .inl ⟨rfl, (Option.some.inj e).symm, hl⟩
  · rw [List.getElem?_set_ne (Ne.symm h)] at e
    exact .inr ⟨h, e⟩
/-- a slot that takes something that is not the caller's -/
theorem Pk.set_d {i : Nat} {w : W} {σ : L2.St} {ρ : Ev} (e : isP w = false) : Pk σ ρ σ (ρ.set i (some w)) := fun j u h p => by
  rcases getset h with ⟨_, z, _⟩ | ⟨_, z⟩
  · cases z
    rw [e] at p
    cases p
  · exact ⟨⟨u, z, p⟩, rfl⟩
/-- a new list stands still from now on -/
theorem frz_new {a : Addr} (p : Path Z σ0 F0 H0 ρ0 σ F H ρ) (h0 : NoO (H0 a)) (h1 : ¬ NoO (H a)) (nO : ¬ Own σ ρ a) : Path Z σ0 F0 H0 ρ0 σ (frz F a) H ρ := by
  refine ⟨⟨p.st.len, fun i w e => ?_, p.st.inj, p.st.tabs, fun b f => ?_⟩, ⟨p.sp.keep, p.sp.there, fun b f => .inl (p.sp.fin _ f), fun b f => ?_⟩, p.sub, p.pp⟩
  · obtain ⟨v, e2, r⟩ := p.st.rep i w e
    refine ⟨v, e2, r.up .frz fun b eb ho => ⟨fun _ q => q, fun f => ?_⟩⟩
    subst eb
    rcases f with f | f
    · exact (p.st.kind (own_of e ho e2)).2 f
    · subst f
      exact nO (own_of e ho e2)
  · rcases f with f | rfl
    · exact p.st.ft b f
    · exact h1
  · rcases f with f | rfl
    · exact p.sp.fout _ f
    · exact .inr (.inl h0)
/-- a slot's own list stands still from now on -/
theorem frz_own {i : Nat} {a : Addr} {xs : List D} {q : Bool} (p : Path Z σ0 F0 H0 ρ0 σ F H ρ) (e : ρ[i]? = some (some (.L q xs))) (e2 : σ[i]? = some (some (.ref a))) :
    Path Z σ0 F0 H0 ρ0 σ (frz F a) H (ρ.set i (some (.d (.lst xs)))) ∧ Rp Z (frz F a) H (.lst xs) (.ref a) := by
  obtain ⟨v, e3, b, vs, e4, h1, h2, h3⟩ := p.st.rep i _ e
  rw [e2] at e3
  have e5 := Option.some.inj (Option.some.inj e3)
  subst e4
  cases e5
  have ow : Own σ ρ a := own_of e rfl e2
  have rp : Rp Z (frz F a) H (.lst xs) (.ref a) := by
    simp only [Rp]
    exact ⟨a, vs, rfl, .inl ⟨.inr rfl, .inl h1⟩, h2.up .frz⟩
  have sub : ∀ b, Own σ (ρ.set i (some (.d (.lst xs)))) b → Own σ ρ b ∧ b ≠ a := fun b ⟨j, w, ej, ho, es⟩ => by
    rcases getset ej with ⟨rfl, z, _⟩ | ⟨hn, z⟩
    · cases z
      cases ho
    · refine ⟨own_of z ho es, fun q => hn ?_⟩
      subst q
      exact p.st.inj _ _ _ _ _ z e ho rfl es e2
  refine ⟨⟨⟨by rw [List.length_set]; exact p.st.len, fun j w ej => ?_, fun j k wj wk b ej ek hj hk sj sk => ?_, p.st.tabs, fun b f => ?_⟩, ⟨p.sp.keep, p.sp.there, fun b f => .inl (p.sp.fin _ f), fun b f => ?_⟩, fun b h => p.sub b (sub b h).1, p.pp.trans (Pk.set_d (e := rfl))⟩, rp⟩
  · rcases getset ej with ⟨rfl, z, _⟩ | ⟨hn, z⟩
    · cases z
      exact ⟨_, e2, rp⟩
    · obtain ⟨v, e6, r⟩ := p.st.rep j w z
      refine ⟨v, e6, r.up .frz fun b eb ho => ⟨fun _ q => q, fun f => ?_⟩⟩
      subst eb
      rcases f with f | f
      · exact (p.st.kind (own_of z ho e6)).2 f
      · subst f
        exact hn (p.st.inj _ _ _ _ _ z e ho rfl e6 e2)
  · rcases getset ej with ⟨rfl, z, _⟩ | ⟨_, z⟩
    · cases z
      cases hj
    · rcases getset ek with ⟨rfl, z2, _⟩ | ⟨_, z2⟩
      · cases z2
        cases hk
      · exact p.st.inj _ _ _ _ _ z z2 hj hk sj sk
  · rcases f with f | rfl
    · exact p.st.ft b f
    · rw [h1]; exact id
  · rcases f with f | rfl
    · exact p.sp.fout _ f
    · rcases p.sub _ ow with z | z
      · exact .inr (.inr z)
      · exact .inr (.inl z)
/-- what a value is frozen to -/
def FrE (F F2 : Fz) (o : O) (v : V) : Prop := ∀ b, F2 b → F b ∨ (v = .ref b ∧ (isNew o = true ∨ ∃ i, o = .bor i))
theorem keep_ok {o : O} {v : V} {x : D} (p : Path Z σ0 F0 H0 ρ0 σ F H ρ) (h : Out Z F H σ ρ o v) (f : Frs H0 o v) (e : keep ρ o = some (x, ρ2)) :
    ∃ F2, Path Z σ0 F0 H0 ρ0 σ F2 H ρ2 ∧ Rp Z F2 H x v ∧ Up F H F2 H ∧ (∀ b, F2 b → F b ∨ (v = .ref b ∧ (isNew o = true ∨ Own σ ρ b))) ∧ (∀ b, Own σ ρ2 b → Own σ ρ b) := by
  cases o with
  | d y =>
    simp only [keep, Option.some.injEq, Prod.mk.injEq] at e
    obtain ⟨rfl, rfl⟩ := e
    exact ⟨F, p, h, .refl, fun _ z => .inl z, fun _ z => z⟩
  | L xs =>
    simp only [keep, Option.some.injEq, Prod.mk.injEq] at e
    obtain ⟨rfl, rfl⟩ := e
    obtain ⟨a, vs, rfl, h1, h2, h3, h4⟩ := h
    refine ⟨_, frz_new p (f rfl a rfl) (by rw [h1]; exact id) h4, ?_, .frz, fun b z => ?_, fun _ z => z⟩
    · simp only [Rp]
      exact ⟨a, vs, rfl, .inl ⟨.inr rfl, .inl h1⟩, h2.up .frz⟩
    · rcases z with z | rfl
      · exact .inl z
      · exact .inr ⟨rfl, .inl rfl⟩
  | M t kvs => simp only [keep] at e; cases e
  | bor i =>
    have hs : σ[i]? = some (some v) := h
    simp only [keep] at e
    split at e
    · rename_i xs q
      simp only [Option.some.injEq, Prod.mk.injEq] at e
      obtain ⟨rfl, rfl⟩ := e
      obtain ⟨v', e3, a, vs, e4, _⟩ := p.st.rep i _ q
      rw [hs] at e3
      have e5 := Option.some.inj (Option.some.inj e3)
      subst e5 e4
      obtain ⟨p2, r⟩ := frz_own p q hs
      refine ⟨_, p2, r, .frz, fun b z => ?_, fun b ⟨j, w, ej, ho, es⟩ => ?_⟩
      · rcases z with z | rfl
        · exact .inl z
        · exact .inr ⟨rfl, .inr (own_of q rfl hs)⟩
      · rcases getset ej with ⟨rfl, z, _⟩ | ⟨hn, z⟩
        · cases z
          cases ho
        · exact own_of z ho es
    · cases e
/-- another value, when one is kept -/
theorem Out.kept {F2 : Fz} {o : O} {v : V} (h : Out Z F H σ ρ o v) (u : Up F H F2 H) (fr : isNew o = true → ∀ b, v = .ref b → F2 b → F b) (ow : ∀ b, Own σ ρ2 b → Own σ ρ b) : Out Z F2 H σ ρ2 o v := by
  cases o with
  | d x => exact Rp.up u h
  | L xs =>
    obtain ⟨a, vs, rfl, h1, h2, h3, h4⟩ := h
    exact ⟨a, vs, rfl, h1, h2.up u, fun z => h3 (fr rfl a rfl z), fun z => h4 (ow a z)⟩
  | M t kvs =>
    obtain ⟨a, rfl, h1, h3, h4⟩ := h
    exact ⟨a, rfl, h1.up u fun _ q => q, fun z => h3 (fr rfl a rfl z), fun z => h4 (ow a z)⟩
  | bor i => exact h
theorem Out.newNotOwn {o : O} {a : Addr} (h : Out Z F H σ ρ o (.ref a)) (n : isNew o = true) : ¬ Own σ ρ a := by
  cases o with
  | d x => cases n
  | L xs =>
    obtain ⟨b, vs, e, _, _, _, h4⟩ := h
    cases e
    exact h4
  | M t kvs =>
    obtain ⟨b, e, _, _, h4⟩ := h
    cases e
    exact h4
  | bor i => cases n
theorem OutL.kept {F2 : Fz} {ow : ∀ b, Own σ ρ2 b → Own σ ρ b} (u : Up F H F2 H) {o : O} {v : V} (fr : ∀ b, F2 b → F b ∨ (v = .ref b ∧ (isNew o = true ∨ Own σ ρ b))) : ∀ {os : List O} {vs : List V},
    (isNew o = true → ∀ a, v = .ref a → Apart a os vs) → OutL Z H0 F H σ ρ os vs → OutL Z H0 F2 H σ ρ2 os vs
  | [], _, _, h => h
  | p :: os, _, ap, h => by
    obtain ⟨w, r, rfl, h1, f, a, t⟩ := h
    refine ⟨w, r, rfl, h1.kept u (fun n b eb z => ?_) ow, f, a, OutL.kept (ow := ow) u fr (fun n a e => (ap n a e).2) t⟩
    rcases fr b z with z | ⟨z1, z2⟩
    · exact z
    · rcases z2 with z2 | z2
      · exact absurd eb ((ap z2 b z1).1 n)
      · subst eb
        exact absurd z2 (h1.newNotOwn n)
theorem keeps_ok : ∀ {os : List O} {vs : List V} {xs : List D} {F : Fz} {ρ ρ2 : Ev}, Path Z σ0 F0 H0 ρ0 σ F H ρ → OutL Z H0 F H σ ρ os vs → keeps ρ os = some (xs, ρ2) →
    ∃ F2, Path Z σ0 F0 H0 ρ0 σ F2 H ρ2 ∧ Rps Z F2 H xs vs ∧ Up F H F2 H
  | [], _, xs, F, ρ, ρ2, p, h, e => by
    simp only [keeps, Option.some.injEq, Prod.mk.injEq] at e
    obtain ⟨rfl, rfl⟩ := e
    have e2 : _ = [] := h
    rw [e2]
    exact ⟨F, p, .nil, .refl⟩
  | o :: os, _, xs, F, ρ, ρ2, p, h, e => by
    obtain ⟨v, r, rfl, h1, f, ap, t⟩ := h
    simp only [keeps] at e
    cases ek : keep ρ o with
    | none => rw [ek] at e; cases e
    | some q =>
      obtain ⟨x, ρ3⟩ := q
      rw [ek] at e
      simp only at e
      obtain ⟨F3, p3, r3, u3, fr3, ow3⟩ := keep_ok p h1 f ek
      cases es : keeps ρ3 os with
      | none => rw [es] at e; cases e
      | some q =>
        obtain ⟨ys, ρ4⟩ := q
        rw [es] at e
        simp only [Option.some.injEq, Prod.mk.injEq] at e
        obtain ⟨rfl, rfl⟩ := e
        obtain ⟨F4, p4, r4, u4⟩ := keeps_ok p3 (OutL.kept (ow := ow3) u3 fr3 ap t) es
        exact ⟨F4, p4, .cons (r3.up u4) r4, ⟨fun _ _ q => q, fun _ _ _ q => q, fun a z => u4.fin _ (u3.fin _ z), fun _ _ _ q => q⟩⟩
end
end Ev
/-! Ev3: operators, comparisons, built-ins by values. -/
namespace Ev
open PySem PySem.Spec PyProof.Rows L2
/-- the texts are unlike, none is long -/
structure StOk (Z : Wo) : Prop where
  nd : Z.ST.Nodup
  ok : ∀ x ∈ Z.ST, PyData.canLay0 (.str x) = true
  e0 : ∀ x, Z.ST[0]? = some x → x = ("" : Str)
  len : ∀ x ∈ Z.ST, x.length ≤ 1000
section
variable {Z : Wo} {F F' : Fz} {H H' : Hp}
/-! ### data as the library tells them -/
mutual
def toPy (Z : Wo) : D → PyData
  | .non => .none
  | .bl b => .bool b
  | .int i => .int i
  | .str n => .str (Z.ST.getD n ⟨#[]⟩)
  | .tup xs => .tuple (toPys Z xs)
  | .lst xs => .list (toPys Z xs)
def toPys (Z : Wo) : List D → List PyData
  | [] => []
  | x :: xs => toPy Z x :: toPys Z xs
end
theorem getD_of {n : Nat} {x : Str} (h : Z.ST[n]? = some x) : Z.ST.getD n ⟨#[]⟩ = x := by
  rw [List.getD_eq_getElem?_getD, h]; rfl
mutual
theorem Rp.dp : ∀ {x : D} {v : V}, Rp Z F H x v → Dp Z.K H v (toPy Z x)
  | .non, _, h => by
    simp only [Rp] at h
    subst h
    simp only [toPy]
    exact .non
  | .bl b, _, h => by
    simp only [Rp] at h
    subst h
    simp only [toPy]
    exact .bl b
  | .int i, _, h => by
    simp only [Rp] at h
    subst h
    simp only [toPy]
    exact .int i
  | .str n, _, h => by
    simp only [Rp] at h
    obtain ⟨x, e, rfl⟩ := h
    simp only [toPy]
    rw [getD_of e]
    exact .str x
  | .tup xs, _, h => by
    simp only [Rp] at h
    obtain ⟨a, vs, rfl, s, r⟩ := h
    simp only [toPy]
    exact .tup s (Rps.dp r)
  | .lst xs, _, h => by
    simp only [Rp] at h
    obtain ⟨a, vs, rfl, s, r⟩ := h
    simp only [toPy]
    exact .lst s.sq (Rps.dp r)
theorem Rps.dp : ∀ {xs : List D} {vs : List V}, Rps Z F H xs vs → DpAll Z.K H vs (toPys Z xs)
  | [], _, h => by
    rw [h.inv0]
    simp only [toPys]
    exact .nil
  | x :: xs, _, h => by
    obtain ⟨v, r, e, h1, h2⟩ := h.inv
    rw [e]
    simp only [toPys]
    exact .cons (Rp.dp h1) (Rps.dp h2)
end
theorem str_eq (hs : StOk Z) {a b : Nat} {x y : Str} (h1 : Z.ST[a]? = some x) (h2 : Z.ST[b]? = some y) : (x == y) = (a == b) := by
  by_cases e : a = b
  · subst e
    rw [h1] at h2
    cases h2
    simp
  · have n : x ≠ y := fun q => by
      subst q
      obtain ⟨l1, e1⟩ := List.getElem?_eq_some_iff.mp h1
      obtain ⟨l2, e2⟩ := List.getElem?_eq_some_iff.mp h2
      exact e ((List.getElem_inj hs.nd).mp (e1.trans e2.symm))
    have z1 : (x == y) = false := by simpa using n
    have z2 : (a == b) = false := by simpa using e
    rw [z1, z2]
mutual
theorem eqv_eqb (hs : StOk Z) : ∀ {x y : D} {v w : V} {G : Fz} {L : Hp}, Rp Z F H x v → Rp Z G L y w → PyData.eqv (toPy Z x) (toPy Z y) = eqb x y
  | .non, y, _, _, _, _, _, _ => by cases y <;> simp only [toPy, eqb, PyData.eqv]
  | .bl a, y, _, _, _, _, _, _ => by cases y <;> simp only [toPy, eqb, PyData.eqv]
  | .int a, y, _, _, _, _, _, _ => by cases y <;> simp only [toPy, eqb, PyData.eqv]
  | .str a, y, _, _, _, _, h, g => by
    cases y with
    | str b =>
      simp only [Rp] at h g
      obtain ⟨x, e, _⟩ := h
      obtain ⟨x', e', _⟩ := g
      simp only [toPy, eqb, PyData.eqv]
      rw [getD_of e, getD_of e']
      exact str_eq hs e e'
    | _ => simp only [toPy, eqb, PyData.eqv]
  | .tup xs, y, _, _, _, _, h, g => by
    cases y with
    | tup ys =>
      simp only [Rp] at h g
      obtain ⟨_, _, _, _, r⟩ := h
      obtain ⟨_, _, _, _, r'⟩ := g
      simp only [toPy, eqb, PyData.eqv]
      exact eqvs_eqb hs r r'
    | _ => simp only [toPy, eqb, PyData.eqv]
  | .lst xs, y, _, _, _, _, h, g => by
    cases y with
    | lst ys =>
      simp only [Rp] at h g
      obtain ⟨_, _, _, _, r⟩ := h
      obtain ⟨_, _, _, _, r'⟩ := g
      simp only [toPy, eqb, PyData.eqv]
      exact eqvs_eqb hs r r'
    | _ => simp only [toPy, eqb, PyData.eqv]
theorem eqvs_eqb (hs : StOk Z) : ∀ {xs ys : List D} {vs ws : List V} {G : Fz} {L : Hp}, Rps Z F H xs vs → Rps Z G L ys ws → PyData.eqvAll (toPys Z xs) (toPys Z ys) = eqbs xs ys
  | [], ys, _, _, _, _, _, _ => by cases ys <;> simp only [toPys, eqbs, PyData.eqvAll]
  | x :: xs, ys, _, _, _, _, h, g => by
    cases ys with
    | nil => simp only [toPys, eqbs, PyData.eqvAll]
    | cons y ys =>
      obtain ⟨_, _, _, h1, h2⟩ := h.inv
      obtain ⟨_, _, _, g1, g2⟩ := g.inv
      simp only [toPys, eqbs, PyData.eqvAll]
      rw [eqv_eqb hs h1 g1, eqvs_eqb hs h2 g2]
end
mutual
theorem lay_of (hs : StOk Z) : ∀ {x : D} {v : V}, Rp Z F H x v → PyData.canLay0 (toPy Z x) = true
  | .non, _, _ => by simp only [toPy, PyData.canLay0]
  | .bl _, _, _ => by simp only [toPy, PyData.canLay0]
  | .int _, _, _ => by simp only [toPy, PyData.canLay0]
  | .str n, _, h => by
    simp only [Rp] at h
    obtain ⟨x, e, _⟩ := h
    simp only [toPy]
    rw [getD_of e]
    exact hs.ok x (List.mem_of_getElem? e)
  | .tup xs, _, h => by
    simp only [Rp] at h
    obtain ⟨_, _, _, _, r⟩ := h
    simp only [toPy, PyData.canLay0]
    exact lays_of hs r
  | .lst xs, _, h => by
    simp only [Rp] at h
    obtain ⟨_, _, _, _, r⟩ := h
    simp only [toPy, PyData.canLay0]
    exact lays_of hs r
theorem lays_of (hs : StOk Z) : ∀ {xs : List D} {vs : List V}, Rps Z F H xs vs → PyData.canLayAll0 (toPys Z xs) = true
  | [], _, _ => by simp only [toPys, PyData.canLayAll0]
  | x :: xs, _, h => by
    obtain ⟨_, _, _, h1, h2⟩ := h.inv
    simp only [toPys, PyData.canLayAll0]
    rw [lay_of hs h1, lays_of hs h2] <;> rfl
end
mutual
theorem lim_depth : ∀ {x : D} {n : Nat}, lim x n = true → (toPy Z x).depth ≤ n
  | .non, _, _ => by simp only [toPy, PyData.depth]; omega
  | .bl _, _, _ => by simp only [toPy, PyData.depth]; omega
  | .int _, _, _ => by simp only [toPy, PyData.depth]; omega
  | .str _, _, _ => by simp only [toPy, PyData.depth]; omega
  | .tup xs, 0, h => by simp only [lim] at h; cases h
  | .tup xs, n + 1, h => by
    simp only [lim] at h
    simp only [toPy, PyData.depth]
    have := limL_depth (xs := xs) h
    omega
  | .lst xs, 0, h => by simp only [lim] at h; cases h
  | .lst xs, n + 1, h => by
    simp only [lim] at h
    simp only [toPy, PyData.depth]
    have := limL_depth (xs := xs) h
    omega
theorem limL_depth : ∀ {xs : List D} {n : Nat}, limL xs n = true → PyData.depthAll (toPys Z xs) ≤ n
  | [], _, _ => by simp only [toPys, PyData.depthAll]; omega
  | x :: xs, n, h => by
    simp only [limL, Bool.and_eq_true] at h
    simp only [toPys, PyData.depthAll]
    have h1 := lim_depth (x := x) h.1
    have h2 := limL_depth (xs := xs) h.2
    omega
end
theorem shaped_of (hs : StOk Z) {x : D} {v : V} (h : Rp Z F H x v) (l : lim x limit = true) : SeqAt.shaped (toPy Z x) = true := by
  unfold SeqAt.shaped
  rw [lay_of hs h, Bool.true_and]
  refine decide_eq_true ?_
  have := lim_depth (Z := Z) l
  unfold limit at this
  omega
theorem Rv.d {x : D} {v : V} (h : Rv Z F H (.d x) v) : Rp Z F H x v := h
theorem Rv.l {xs : List D} {v : V} (h : Rv Z F H (.L xs) v) : ∃ a vs, v = .ref a ∧ H a = some (.lst vs) ∧ Rps Z F H xs vs := h
/-! ### operators -/
def rN (Z : Wo) (g : O → O → Option O) : R2 := fun x y H Q => ∃ F a b o, Rv Z F H a x ∧ Rv Z F H b y ∧ g a b = some o ∧ ∀ v H', NewO Z F H o v H' → Q v H'
def rNb (Z : Wo) (g : O → O → Option Bool) : R2 := fun x y H Q => ∃ F a b o, Rv Z F H a x ∧ Rv Z F H b y ∧ g a b = some o ∧ Q (.bl o) H
theorem opImp {X : Cx} {f : Value → Value → Sem Value} {r r' : R2} (h : OpR X f r) (i : ∀ x y H Q, r' x y H Q → r x y H Q) : OpR X f r' :=
  fun pins s σ H x y v u Q I rx ry q => h pins s σ H x y v u Q I rx ry (i x y H Q q)
theorem same_upd {H : Hp} {p : Addr} {o : HO} (h : H p = none) : Same H (upd H p o) := fun b x e => by
  rw [upd_ne (ne_of_none e h)]
  exact e
theorem new_tup {p : Addr} {xs : List D} {vs : List V} (h : H p = none) (r : Rps Z F H xs vs) : NewO Z F H (.d (.tup xs)) (.ref p) (upd H p (.tup vs)) := by
  refine ⟨same_upd h, ?_⟩
  simp only [Rp]
  exact ⟨p, vs, rfl, .inl (.inl upd_same), r.up (.of_same (same_upd h))⟩
theorem new_lst {p : Addr} {xs : List D} {vs : List V} (h : H p = none) (r : Rps Z F H xs vs) : NewO Z F H (.L xs) (.ref p) (upd H p (.lst vs)) :=
  ⟨same_upd h, p, vs, rfl, h, upd_same, r.up (.of_same (same_upd h))⟩
theorem new_int (i : Int) : NewO Z F H (.d (.int i)) (.int i) H := .here (by simp only [Rp])
theorem new_bl (b : Bool) : NewO Z F H (.d (.bl b)) (.bl b) H := .here (by simp only [Rp])
theorem Rp.inv_int {i : Int} {v : V} (h : Rp Z F H (.int i) v) : v = .int i := by simpa only [Rp] using h
theorem Rp.inv_bl {b : Bool} {v : V} (h : Rp Z F H (.bl b) v) : v = .bl b := by simpa only [Rp] using h
theorem Rp.inv_non {v : V} (h : Rp Z F H .non v) : v = .non := by simpa only [Rp] using h
theorem Rp.inv_tup {xs : List D} {v : V} (h : Rp Z F H (.tup xs) v) : ∃ a vs, v = .ref a ∧ SqT Z.K H a vs ∧ Rps Z F H xs vs := by simpa only [Rp] using h
theorem Rp.inv_lst {xs : List D} {v : V} (h : Rp Z F H (.lst xs) v) : ∃ a vs, v = .ref a ∧ SL Z F H a vs ∧ Rps Z F H xs vs := by simpa only [Rp] using h
theorem Rps.rep {xs : List D} {vs : List V} (h : Rps Z F H xs vs) : ∀ n : Nat, Rps Z F H (List.replicate n xs).flatten (List.replicate n vs).flatten
  | 0 => by simpa using Rps.nil
  | n + 1 => by
    rw [List.replicate_succ, List.replicate_succ, List.flatten_cons, List.flatten_cons]
    exact h.append (Rps.rep h n)
end
section
variable {X : Cx} {Z : Wo}
theorem nil_cat (j : Str) : ("" : Str) ++ j = j := by
  show (⟨#[] ++ j.cps⟩ : Str) = j
  rw [Array.empty_append]
theorem op_addO (hK : X.K = Z.K) (hs : StOk Z) : OpR X (binaryOp .Add) (rN Z addO) := by
  refine opImp (((op_add.or op_catA).or op_cat).or op_add_str) fun x y H Q ⟨F, a, b, o, ra, rb, e, q⟩ => ?_
  unfold addO at e
  split at e
  · cases e
    have e1 := Rp.inv_int (Rv.d ra)
    have e2 := Rp.inv_int (Rv.d rb)
    exact .inl (.inl (.inl ⟨_, _, e1, e2, q _ _ (new_int _)⟩))
  · rename_i xs ys
    split at e
    · rename_i hc
      cases e
      obtain ⟨a, vs, e1, s1, r1⟩ := Rp.inv_tup (Rv.d ra)
      obtain ⟨b, ws, e2, s2, r2⟩ := Rp.inv_tup (Rv.d rb)
      refine .inl (.inl (.inr ⟨a, b, vs, ws, e1, e2, by rw [hK]; exact s1, by rw [hK]; exact s2, ?_, fun z => ?_, fun _ z => ?_, fun _ _ p hp => q _ _ (new_tup hp (r1.append r2))⟩))
      · rw [← r1.len, ← r2.len, sizeLine_eq]; exact hc
      · have e3 : xs = [] := List.length_eq_zero_iff.mp (by rw [r1.len, z]; rfl)
        subst e3
        refine q _ _ (.here ?_)
        rw [List.nil_append, ← e2]
        exact Rv.d rb
      · have e3 : ys = [] := List.length_eq_zero_iff.mp (by rw [r2.len, z]; rfl)
        subst e3
        refine q _ _ (.here ?_)
        rw [List.append_nil, ← e1]
        exact Rv.d ra
    · cases e
  · rename_i xs ys
    split at e
    · rename_i hc
      cases e
      obtain ⟨a, vs, e1, s1, r1⟩ := Rv.l ra
      obtain ⟨b, ws, e2, s2, r2⟩ := Rv.l rb
      exact .inl (.inr ⟨a, b, vs, ws, e1, e2, s1, s2, by rw [← r1.len, ← r2.len, sizeLine_eq]; exact hc, fun p hp => q _ _ (new_lst hp (r1.append r2))⟩)
    · cases e
  · split at e
    · rename_i k n hk
      subst hk
      cases e
      have r1 := Rv.d ra
      have r2 := Rv.d rb
      simp only [Rp] at r1 r2
      obtain ⟨z, ez, rfl⟩ := r1
      obtain ⟨y, ey, rfl⟩ := r2
      have e0 := hs.e0 z ez
      subst e0
      refine .inr ⟨_, _, rfl, rfl, ?_, q _ _ (.here ?_)⟩
      · have := hs.len y (List.mem_of_getElem? ey)
        have z0 : ("" : Str).length = 0 := rfl
        rw [z0, sizeLine_eq]
        omega
      · rw [nil_cat]
        simp only [Rp]
        exact ⟨y, ey, rfl⟩
    · cases e
  · cases e
theorem op_subO : OpR X (binaryOp .Sub) (rN Z subO) := by
  refine opImp op_sub fun x y H Q ⟨F, a, b, o, ra, rb, e, q⟩ => ?_
  unfold subO at e
  split at e
  · cases e
    exact ⟨_, _, Rp.inv_int (Rv.d ra), Rp.inv_int (Rv.d rb), q _ _ (new_int _)⟩
  · cases e
theorem sml_of {i : Int} (h : sml i = true) : -(2 ^ 64) < i ∧ i < 2 ^ 64 := by
  unfold sml at h
  simp only [Bool.and_eq_true, decide_eq_true_eq] at h
  exact h
theorem op_mulO (hK : X.K = Z.K) : OpR X (binaryOp .Mult) (rN Z mulO) := by
  refine opImp ((op_mul.or op_repT).or op_rep) fun x y H Q ⟨F, a, b, o, ra, rb, e, q⟩ => ?_
  unfold mulO at e
  split at e
  · split at e
    · rename_i hc
      cases e
      refine .inl (.inl ⟨_, _, Rp.inv_int (Rv.d ra), Rp.inv_int (Rv.d rb), ?_, q _ _ (new_int _)⟩)
      rw [Bool.or_eq_true] at hc
      exact hc.elim (fun z => .inl (sml_of z)) fun z => .inr (sml_of z)
    · cases e
  · split at e
    · rename_i hc
      cases e
      obtain ⟨a, vs, e1, s1, r1⟩ := Rp.inv_tup (Rv.d ra)
      obtain ⟨h1, h2, h3, h4⟩ := hc
      refine .inl (.inr ⟨a, _, vs, e1, Rp.inv_int (Rv.d rb), by rw [hK]; exact s1, fun z => ?_, h3, h4, by rw [← r1.len]; exact h2, fun p hp => q _ _ (new_tup hp (r1.rep _))⟩)
      have h5 := r1.len
      rw [z, List.length_nil] at h5
      omega
    · cases e
  · split at e
    · rename_i hc
      cases e
      obtain ⟨a, vs, e1, s1, r1⟩ := Rv.l ra
      exact .inr ⟨a, _, vs, e1, Rp.inv_int (Rv.d rb), s1, hc.1, hc.2.1, by rw [← r1.len, sizeLine_eq]; exact hc.2.2, fun p hp => q _ _ (new_lst hp (r1.rep _))⟩
    · cases e
  · cases e
theorem op_fdivO : OpR X (binaryOp .FloorDiv) (rN Z fdivO) := by
  refine opImp op_fdiv fun x y H Q ⟨F, a, b, o, ra, rb, e, q⟩ => ?_
  unfold fdivO at e
  split at e
  · split at e
    · rename_i hc
      cases e
      exact ⟨_, _, Rp.inv_int (Rv.d ra), Rp.inv_int (Rv.d rb), hc, q _ _ (new_int _)⟩
    · cases e
  · cases e
theorem op_modO : OpR X (binaryOp .Mod) (rN Z modO) := by
  refine opImp op_mod fun x y H Q ⟨F, a, b, o, ra, rb, e, q⟩ => ?_
  unfold modO at e
  split at e
  · split at e
    · rename_i hc
      cases e
      exact ⟨_, _, Rp.inv_int (Rv.d ra), Rp.inv_int (Rv.d rb), hc, q _ _ (new_int _)⟩
    · cases e
  · cases e
def bopOf : Bop → Operator
  | .add => .Add | .sub => .Sub | .mul => .Mult | .fdiv => .FloorDiv | .mod => .Mod
theorem op_bin (hK : X.K = Z.K) (hs : StOk Z) (op : Bop) : OpR X (binaryOp (bopOf op)) (rN Z (bin op)) := by
  cases op with
  | add => exact op_addO hK hs
  | sub => exact op_subO
  | mul => exact op_mulO hK
  | fdiv => exact op_fdivO
  | mod => exact op_modO
/-! ### comparisons -/
theorem look_dp {F : Fz} {H : Hp} {o : O} {v : V} {x : D} (r : Rv Z F H o v) (e : look o = some x) : ∃ (G : Fz), Rp Z G H x v := by
  cases o with
  | d y =>
    cases e
    exact ⟨F, Rv.d r⟩
  | L xs =>
    cases e
    obtain ⟨a, vs, rfl, h1, h2⟩ := Rv.l r
    refine ⟨frz F a, ?_⟩
    simp only [Rp]
    exact ⟨a, vs, rfl, .inl ⟨.inr rfl, .inl h1⟩, h2.up .frz⟩
  | M t kvs => cases e
  | bor i => cases e
theorem same_ok {x y : D} {b : Bool} (h : same x y = some b) : lim x limit = true ∧ lim y limit = true ∧ b = eqb x y := by
  unfold same at h
  split at h
  · rename_i hc
    rw [Bool.and_eq_true] at hc
    cases h
    exact ⟨hc.1, hc.2, rfl⟩
  · cases h
theorem op_eqO (hK : X.K = Z.K) (hs : StOk Z) (hu : X.A.units + 64 < cLine) : OpR X (compareOp .Eq) (rNb Z eqO) := by
  refine opImp (op_eqD hu) fun x y H Q ⟨F, a, b, o, ra, rb, e, q⟩ => ?_
  unfold eqO at e
  cases ea : look a with
  | none => rw [ea] at e; cases e
  | some d =>
    cases eb : look b with
    | none => rw [ea, eb] at e; cases e
    | some d' =>
      rw [ea, eb] at e
      obtain ⟨G1, r1⟩ := look_dp ra ea
      obtain ⟨G2, r2⟩ := look_dp rb eb
      obtain ⟨h1, h2, rfl⟩ := same_ok e
      refine ⟨toPy Z d, toPy Z d', ?_, ?_, shaped_of hs r1 h1, shaped_of hs r2 h2, ?_⟩
      · rw [hK]; exact r1.dp
      · rw [hK]; exact r2.dp
      · rw [eqv_eqb hs r1 r2]; exact q
theorem op_neO (hK : X.K = Z.K) (hs : StOk Z) (hu : X.A.units + 64 < cLine) : OpR X (compareOp .NotEq) (rNb Z fun a b => (eqO a b).map (!·)) := by
  refine opImp (op_neD hu) fun x y H Q ⟨F, a, b, o, ra, rb, e, q⟩ => ?_
  have e : (eqO a b).map (!·) = some o := e
  unfold eqO at e
  cases ea : look a with
  | none => rw [ea] at e; cases e
  | some d =>
    cases eb : look b with
    | none => rw [ea, eb] at e; cases e
    | some d' =>
      rw [ea, eb] at e
      obtain ⟨k, ek, rfl⟩ := Option.map_eq_some_iff.mp e
      obtain ⟨G1, r1⟩ := look_dp ra ea
      obtain ⟨G2, r2⟩ := look_dp rb eb
      obtain ⟨h1, h2, rfl⟩ := same_ok ek
      refine ⟨toPy Z d, toPy Z d', ?_, ?_, shaped_of hs r1 h1, shaped_of hs r2 h2, ?_⟩
      · rw [hK]; exact r1.dp
      · rw [hK]; exact r2.dp
      · rw [eqv_eqb hs r1 r2]; exact q
theorem lexI_eq : ∀ xs ys : List Int, lexI xs ys = HT.lexLt xs ys
  | [], [] => rfl
  | [], _ :: _ => rfl
  | _ :: _, [] => rfl
  | x :: xs, y :: ys => by
    simp only [lexI, HT.lexLt]
    rw [lexI_eq xs ys]
theorem ints_of {F : Fz} {H : Hp} : ∀ {xs : List D} {ns : List Int} {vs : List V}, intsOf xs = some ns → Rps Z F H xs vs → vs = ns.map V.int ∧ xs = ns.map D.int
  | [], ns, vs, e, r => by
    simp only [intsOf, Option.some.injEq] at e
    subst e
    rw [r.inv0]
    exact ⟨rfl, rfl⟩
  | x :: xs, ns, vs, e, r => by
    cases x with
    | int i =>
      simp only [intsOf] at e
      obtain ⟨ms, e1, rfl⟩ := Option.map_eq_some_iff.mp e
      obtain ⟨v, r', rfl, h1, h2⟩ := r.inv
      obtain ⟨e2, e3⟩ := ints_of e1 h2
      rw [e2, e3, Rp.inv_int h1]
      exact ⟨rfl, rfl⟩
    | _ => simp only [intsOf] at e; cases e
theorem op_ltO (hK : X.K = Z.K) (hu : X.A.units < cLine) : OpR X (compareOp .Lt) (rNb Z ltO) := by
  refine opImp (op_lt.or (op_ltT hu)) fun x y H Q ⟨F, a, b, o, ra, rb, e, q⟩ => ?_
  unfold ltO at e
  split at e
  · cases e
    exact .inl ⟨_, _, Rp.inv_int (Rv.d ra), Rp.inv_int (Rv.d rb), q⟩
  · rename_i xs ys
    cases e1 : intsOf xs with
    | none => rw [e1] at e; cases e
    | some ns =>
      cases e2 : intsOf ys with
      | none => rw [e1, e2] at e; cases e
      | some ms =>
        rw [e1, e2] at e
        cases e
        obtain ⟨a, vs, rfl, s1, r1⟩ := Rp.inv_tup (Rv.d ra)
        obtain ⟨b, ws, rfl, s2, r2⟩ := Rp.inv_tup (Rv.d rb)
        obtain ⟨rfl, _⟩ := ints_of e1 r1
        obtain ⟨rfl, _⟩ := ints_of e2 r2
        refine .inr ⟨a, b, ns, ms, rfl, rfl, by rw [hK]; exact s1, by rw [hK]; exact s2, ?_⟩
        rw [← lexI_eq]
        exact q
  · cases e
theorem op_leO : OpR X (compareOp .LtE) (rNb Z leO) := by
  refine opImp op_le fun x y H Q ⟨F, a, b, o, ra, rb, e, q⟩ => ?_
  unfold leO at e
  split at e
  · cases e
    exact ⟨_, _, Rp.inv_int (Rv.d ra), Rp.inv_int (Rv.d rb), q⟩
  · cases e
theorem op_gtO : OpR X (compareOp .Gt) (rNb Z gtO) := by
  refine opImp op_gt fun x y H Q ⟨F, a, b, o, ra, rb, e, q⟩ => ?_
  unfold gtO at e
  split at e
  · cases e
    exact ⟨_, _, Rp.inv_int (Rv.d ra), Rp.inv_int (Rv.d rb), q⟩
  · cases e
theorem op_geO : OpR X (compareOp .GtE) (rNb Z geO) := by
  refine opImp op_ge fun x y H Q ⟨F, a, b, o, ra, rb, e, q⟩ => ?_
  unfold geO at e
  split at e
  · cases e
    exact ⟨_, _, Rp.inv_int (Rv.d ra), Rp.inv_int (Rv.d rb), q⟩
  · cases e
theorem isNon_ok {F : Fz} {H : Hp} {x : D} {v : V} (h : Rp Z F H x v) : decide (v = V.non) = isNon x := by
  cases x with
  | non => rw [Rp.inv_non h]; rfl
  | bl b => rw [Rp.inv_bl h]; rfl
  | int i => rw [Rp.inv_int h]; rfl
  | str n =>
    simp only [Rp] at h
    obtain ⟨x, _, rfl⟩ := h
    rfl
  | tup xs =>
    obtain ⟨a, vs, rfl, _⟩ := Rp.inv_tup h
    rfl
  | lst xs =>
    obtain ⟨a, vs, rfl, _⟩ := Rp.inv_lst h
    rfl
/-- is of a bool: told by the value -/
theorem isBl_ok {F : Fz} {H : Hp} {x : D} {v : V} {u : Value} {c : Bool} (h : Rp Z F H x v) (r : RelV v u) : plainIs u (.bool c) = true ∧ (u == Value.bool c) = isBl c x := by
  cases x with
  | non =>
    rw [Rp.inv_non h] at r
    cases (show u = Value.none from r)
    exact ⟨rfl, rfl⟩
  | bl b =>
    rw [Rp.inv_bl h] at r
    cases (show u = Value.bool b from r)
    exact ⟨rfl, by cases b <;> cases c <;> rfl⟩
  | int i =>
    rw [Rp.inv_int h] at r
    obtain ⟨t, rfl⟩ := r
    exact ⟨rfl, rfl⟩
  | str n =>
    simp only [Rp] at h
    obtain ⟨x, _, rfl⟩ := h
    obtain ⟨t, rfl⟩ := r
    exact ⟨rfl, rfl⟩
  | tup xs =>
    obtain ⟨a, vs, rfl, _⟩ := Rp.inv_tup h
    cases (show u = Value.ref a from r)
    exact ⟨rfl, rfl⟩
  | lst xs =>
    obtain ⟨a, vs, rfl, _⟩ := Rp.inv_lst h
    cases (show u = Value.ref a from r)
    exact ⟨rfl, rfl⟩
theorem op_isB : OpR X (compareOp .Is) (fun x y H Q => ∃ (F : Fz) (d : D) (c : Bool), Rp Z F H d x ∧ y = .bl c ∧ Q (.bl (isBl c d)) H) := by
  intro pins s σ H x y v u Q I rx ry ⟨F, d, c, r, ey, q⟩
  subst ey
  cases (show u = Value.bool c from ry)
  obtain ⟨h1, h2⟩ := isBl_ok (c := c) r rx
  exact wpAny_is_plain h1 ⟨.bl (isBl c d), H, I, by rw [h2]; rfl, q⟩
theorem op_isnotB : OpR X (compareOp .IsNot) (fun x y H Q => ∃ (F : Fz) (d : D) (c : Bool), Rp Z F H d x ∧ y = .bl c ∧ Q (.bl (!isBl c d)) H) := by
  intro pins s σ H x y v u Q I rx ry ⟨F, d, c, r, ey, q⟩
  subst ey
  cases (show u = Value.bool c from ry)
  obtain ⟨h1, h2⟩ := isBl_ok (c := c) r rx
  exact wpAny_isNot_plain h1 ⟨.bl (!isBl c d), H, I, by rw [h2]; rfl, q⟩
theorem op_isO : OpR X (compareOp .Is) (rNb Z isO) := by
  refine opImp (op_isN.or (op_isB (Z := Z))) fun x y H Q ⟨F, a, b, o, ra, rb, e, q⟩ => ?_
  unfold isO at e
  split at e
  · obtain ⟨d, ed, rfl⟩ := Option.map_eq_some_iff.mp e
    obtain ⟨G, rd⟩ := look_dp ra ed
    refine .inl ⟨Rp.inv_non (Rv.d rb), ?_⟩
    rw [isNon_ok rd]
    exact q
  · obtain ⟨d, ed, rfl⟩ := Option.map_eq_some_iff.mp e
    obtain ⟨G, rd⟩ := look_dp ra ed
    exact .inr ⟨G, d, _, rd, Rp.inv_bl (Rv.d rb), q⟩
  · cases e
theorem op_isnotO : OpR X (compareOp .IsNot) (rNb Z fun a b => (isO a b).map (!·)) := by
  refine opImp (op_notN.or (op_isnotB (Z := Z))) fun x y H Q ⟨F, a, b, o, ra, rb, e, q⟩ => ?_
  obtain ⟨k, ek, rfl⟩ := Option.map_eq_some_iff.mp (show (isO a b).map (!·) = some o from e)
  unfold isO at ek
  split at ek
  · obtain ⟨d, ed, rfl⟩ := Option.map_eq_some_iff.mp ek
    obtain ⟨G, rd⟩ := look_dp ra ed
    refine .inl ⟨Rp.inv_non (Rv.d rb), ?_⟩
    rw [isNon_ok rd]
    exact q
  · obtain ⟨d, ed, rfl⟩ := Option.map_eq_some_iff.mp ek
    obtain ⟨G, rd⟩ := look_dp ra ed
    exact .inr ⟨G, d, _, rd, Rp.inv_bl (Rv.d rb), q⟩
  · cases ek
end
end Ev
/-! Ev4: in, truth, subscripts, slices, built-ins by values. -/
namespace Ev
open PySem PySem.Spec PyProof.Rows L2
section
variable {X : Cx} {Z : Wo} {F : Fz} {H : Hp}
/-- the items, where they stand -/
theorem items_sq {o : O} {v : V} {xs : List D} (r : Rv Z F H o v) (e : items o = some xs) : ∃ a vs, v = .ref a ∧ (SqL Z.K H a vs ∨ SqT Z.K H a vs) ∧ Rps Z F H xs vs := by
  unfold items at e
  split at e
  · cases e
    obtain ⟨a, vs, rfl, s, h⟩ := Rp.inv_tup (Rv.d r)
    exact ⟨a, vs, rfl, .inr s, h⟩
  · cases e
    obtain ⟨a, vs, rfl, s, h⟩ := Rp.inv_lst (Rv.d r)
    exact ⟨a, vs, rfl, .inl s.sq, h⟩
  · cases e
    obtain ⟨a, vs, rfl, s, h⟩ := Rv.l r
    exact ⟨a, vs, rfl, .inl (SqL.of s), h⟩
  · cases e
theorem any_eq (hs : StOk Z) {x : D} {v : V} (hx : Rp Z F H x v) : ∀ {ys : List D} {ws : List V} {G : Fz} {L : Hp}, Rps Z G L ys ws → ((toPys Z ys).any fun z => PyData.eqv z (toPy Z x)) = ys.any fun y => eqb y x
  | [], _, _, _, _ => by simp only [toPys, List.any_nil]
  | y :: ys, _, _, _, h => by
    obtain ⟨_, _, _, h1, h2⟩ := h.inv
    simp only [toPys, List.any_cons]
    rw [any_eq hs hx h2, eqv_eqb hs h1 hx]
theorem op_inSeq (hK : X.K = Z.K) (hs : StOk Z) (hu : X.A.units + 65 < cLine) : OpR X (compareOp .In) (rNb Z inSeq) := by
  intro pins s σ H x y v u Q I rx ry ⟨F, a, b, o, ra, rb, e, q⟩
  unfold inSeq at e
  cases ea : look a with
  | none => rw [ea] at e; cases e
  | some d =>
    cases eb : items b with
    | none => rw [ea, eb] at e; cases e
    | some ys =>
      rw [ea, eb] at e
      simp only [among] at e
      split at e
      · rename_i hl
        cases e
        obtain ⟨G, rd⟩ := look_dp ra ea
        obtain ⟨as, r1⟩ := Dp.reads I (toPy Z d) x v (by rw [hK]; exact rd.dp) rx
        have sd := shaped_of hs rd hl
        unfold items at eb
        split at eb
        · cases eb
          have rt := Rv.d rb
          obtain ⟨_, _, _, _, rs'⟩ := Rp.inv_tup rt
          obtain ⟨bs, r2⟩ := Dp.reads I _ y u (by rw [hK]; exact rt.dp) ry
          simp only [toPy] at r2
          refine SeqAt.in_tuple_reads r2 r1 (lays_of hs rs') (lay_of hs rd) (room_in_shaped sd hu) ⟨.bl _, H, I, rfl, ?_⟩
          rw [any_eq hs rd rs']
          exact q
        · cases eb
          have rt := Rv.d rb
          obtain ⟨_, _, _, _, rs'⟩ := Rp.inv_lst rt
          obtain ⟨bs, r2⟩ := Dp.reads I _ y u (by rw [hK]; exact rt.dp) ry
          simp only [toPy] at r2
          refine SeqAt.in_list_reads r2 r1 (lays_of hs rs') (lay_of hs rd) (room_in_shaped sd hu) ⟨.bl _, H, I, rfl, ?_⟩
          rw [any_eq hs rd rs']
          exact q
        · cases eb
          obtain ⟨G', rt⟩ := look_dp rb rfl
          obtain ⟨_, _, _, _, rs'⟩ := Rp.inv_lst rt
          obtain ⟨bs, r2⟩ := Dp.reads I _ y u (by rw [hK]; exact rt.dp) ry
          simp only [toPy] at r2
          refine SeqAt.in_list_reads r2 r1 (lays_of hs rs') (lay_of hs rd) (room_in_shaped sd hu) ⟨.bl _, H, I, rfl, ?_⟩
          rw [any_eq hs rd rs']
          exact q
        · cases eb
      · cases e
theorem op_notinSeq (hK : X.K = Z.K) (hs : StOk Z) (hu : X.A.units + 65 < cLine) : OpR X (compareOp .NotIn) (rNb Z fun a b => (inSeq a b).map (!·)) := by
  intro pins s σ H x y v u Q I rx ry ⟨F, a, b, o, ra, rb, e, q⟩
  obtain ⟨k, e', rfl⟩ := Option.map_eq_some_iff.mp (show (inSeq a b).map (!·) = some o from e)
  clear e
  have e := e'
  clear e'
  unfold inSeq at e
  cases ea : look a with
  | none => rw [ea] at e; cases e
  | some d =>
    cases eb : items b with
    | none => rw [ea, eb] at e; cases e
    | some ys =>
      rw [ea, eb] at e
      simp only [among] at e
      split at e
      · rename_i hl
        cases e
        obtain ⟨G, rd⟩ := look_dp ra ea
        obtain ⟨as, r1⟩ := Dp.reads I (toPy Z d) x v (by rw [hK]; exact rd.dp) rx
        have sd := shaped_of hs rd hl
        unfold items at eb
        split at eb
        · cases eb
          have rt := Rv.d rb
          obtain ⟨_, _, _, _, rs'⟩ := Rp.inv_tup rt
          obtain ⟨bs, r2⟩ := Dp.reads I _ y u (by rw [hK]; exact rt.dp) ry
          simp only [toPy] at r2
          refine SeqAt.notIn_tuple_reads r2 r1 (lays_of hs rs') (lay_of hs rd) (room_in_shaped sd hu) ⟨.bl _, H, I, rfl, ?_⟩
          rw [any_eq hs rd rs']
          exact q
        · cases eb
          have rt := Rv.d rb
          obtain ⟨_, _, _, _, rs'⟩ := Rp.inv_lst rt
          obtain ⟨bs, r2⟩ := Dp.reads I _ y u (by rw [hK]; exact rt.dp) ry
          simp only [toPy] at r2
          refine SeqAt.notIn_list_reads r2 r1 (lays_of hs rs') (lay_of hs rd) (room_in_shaped sd hu) ⟨.bl _, H, I, rfl, ?_⟩
          rw [any_eq hs rd rs']
          exact q
        · cases eb
          obtain ⟨G', rt⟩ := look_dp rb rfl
          obtain ⟨_, _, _, _, rs'⟩ := Rp.inv_lst rt
          obtain ⟨bs, r2⟩ := Dp.reads I _ y u (by rw [hK]; exact rt.dp) ry
          simp only [toPy] at r2
          refine SeqAt.notIn_list_reads r2 r1 (lays_of hs rs') (lay_of hs rd) (room_in_shaped sd hu) ⟨.bl _, H, I, rfl, ?_⟩
          rw [any_eq hs rd rs']
          exact q
        · cases eb
      · cases e
/-! ### truth -/
theorem tru_O {o : O} {v : V} {b : Bool} (r : Rv Z F H o v) (e : truth o = some b) : TruV Z.K v H b := by
  have emp : ∀ {xs : List D} {vs : List V}, Rps Z F H xs vs → (!xs.isEmpty) = !vs.isEmpty := fun {xs vs} h => by
    cases xs with
    | nil => rw [h.inv0]; rfl
    | cons x xs =>
      obtain ⟨w, r, rfl, _⟩ := h.inv
      rfl
  unfold truth at e
  split at e
  · cases e
    rw [Rp.inv_non (Rv.d r)]
    exact rfl
  · cases e
    rw [Rp.inv_bl (Rv.d r)]
    exact rfl
  · cases e
    rw [Rp.inv_int (Rv.d r)]
    exact rfl
  · cases e
    obtain ⟨a, vs, rfl, s, h⟩ := Rp.inv_tup (Rv.d r)
    exact .inr (.inl ⟨vs, s, emp h⟩)
  · cases e
    obtain ⟨a, vs, rfl, s, h⟩ := Rp.inv_lst (Rv.d r)
    exact .inl ⟨vs, s.sq, emp h⟩
  · cases e
    obtain ⟨a, vs, rfl, s, h⟩ := Rv.l r
    exact .inl ⟨vs, SqL.of s, emp h⟩
  · cases e
/-! ### subscripts -/
theorem place_eq (n : Nat) (i : Int) : place n i = ixN n i := by
  unfold place ixN
  split
  · rfl
  · split
    · rw [Int.add_comm]
    · rfl
theorem at_ok {xs : List D} {vs : List V} {i : Int} {x : D} (r : Rps Z F H xs vs) (e : at_ xs i = some x) : ∃ v, atI vs i = some v ∧ Rp Z F H x v := by
  unfold at_ at e
  rw [place_eq] at e
  unfold atI
  rw [← r.len]
  cases h : ixN xs.length i with
  | none => rw [h] at e; cases e
  | some j =>
    rw [h] at e
    obtain ⟨v, e1, r1⟩ := r.get (show xs[j]? = some x from e)
    exact ⟨v, e1, r1⟩
def rIxO (Z : Wo) (g : O → O → Option D) : R2 := fun x y H Q => ∃ F a b d, Rv Z F H a x ∧ Rv Z F H b y ∧ g a b = some d ∧ ∀ v, Rp Z F H d v → Q v H
theorem ixImp {r r' : R2} (h : IxR X r) (i : ∀ x y H Q, r' x y H Q → r x y H Q) : IxR X r' :=
  fun a b pins s σ H x y v u Q I rx ry q hs => h a b pins s σ H x y v u Q I rx ry (i x y H Q q) hs
theorem ix_seqO (hK : X.K = Z.K) : IxR X (rIxO Z ixSeq) := by
  refine ixImp (ix_list.or ix_tup) fun x y H Q ⟨F, a, b, d, ra, rb, e, q⟩ => ?_
  unfold ixSeq at e
  split at e
  · rename_i xs i ei
    obtain ⟨p, vs, rfl, s, r⟩ := items_sq ra ei
    obtain ⟨v, e1, r1⟩ := at_ok r e
    rcases s with s | s
    · exact .inl ⟨p, vs, _, v, rfl, Rp.inv_int (Rv.d rb), by rw [hK]; exact s, e1, q v r1⟩
    · exact .inr ⟨p, vs, _, v, rfl, Rp.inv_int (Rv.d rb), by rw [hK]; exact s, e1, q v r1⟩
  · cases e
/-! ### slices -/
theorem cut_ok {xs : List D} {vs : List V} (lo hi : Option Int) (r : Rps Z F H xs vs) : Rps Z F H (cut xs lo hi) (cutV vs lo hi) := by
  have e : ∀ n d o, sIx n d o = HT.sIx n d o := fun n d o => by cases o <;> rfl
  unfold cut cutV
  rw [e, e, ← r.len]
  exact (r.drop _).take _
theorem slImp {r r' : V → Option Int → Option Int → Hp → VK → Prop} (h : SlR X r) (i : ∀ x lo hi H Q, r' x lo hi H Q → r x lo hi H Q) : SlR X r' :=
  fun pins s σ H x v vl vu lo hi sl Q I rx hs pl pu q => h pins s σ H x v vl vu lo hi sl Q I rx hs pl pu (i x lo hi H Q q)
def rSlO (Z : Wo) : V → Option Int → Option Int → Hp → VK → Prop := fun x lo hi H Q => ∃ F a o, Rv Z F H a x ∧ slice a lo hi = some o ∧ ∀ v H', NewO Z F H o v H' → Q v H'
theorem sl_O (hK : X.K = Z.K) : SlR X (rSlO Z) := by
  refine slImp (sl_tupA.or sl_list) fun x lo hi H Q ⟨F, a, o, ra, e, q⟩ => ?_
  unfold slice at e
  split at e
  · rename_i xs
    cases e
    obtain ⟨p, vs, rfl, s, r⟩ := Rp.inv_tup (Rv.d ra)
    have rc := cut_ok lo hi r
    refine .inl ⟨p, vs, rfl, by rw [hK]; exact s, fun hw => q _ _ (.here ?_), fun _ a ha => q _ _ (new_tup ha rc)⟩
    have ec : cutV vs lo hi = vs := by
      unfold cutV
      rw [hw.1, hw.2, List.drop_zero, Nat.sub_zero, List.take_length]
    rw [ec] at rc
    simp only [Rp]
    exact ⟨p, vs, rfl, s, rc⟩
  · rename_i nt
    obtain ⟨xs, ei, rfl⟩ := Option.map_eq_some_iff.mp e
    have hL : ∃ p vs, x = .ref p ∧ SqL Z.K H p vs ∧ Rps Z F H xs vs := by
      unfold items at ei
      split at ei
      · exact absurd rfl (nt _)
      · cases ei
        obtain ⟨a, vs, rfl, s, h⟩ := Rp.inv_lst (Rv.d ra)
        exact ⟨a, vs, rfl, s.sq, h⟩
      · cases ei
        obtain ⟨a, vs, rfl, s, h⟩ := Rv.l ra
        exact ⟨a, vs, rfl, SqL.of s, h⟩
      · cases ei
    obtain ⟨p, vs, rfl, s, r⟩ := hL
    exact .inr ⟨p, vs, rfl, by rw [hK]; exact s, fun a ha => q _ _ (new_lst ha (cut_ok lo hi r))⟩
/-! ### built-ins -/
def RvL (Z : Wo) (F : Fz) (H : Hp) : List O → List V → Prop
  | [], vs => vs = []
  | o :: os, vs => ∃ v r, vs = v :: r ∧ Rv Z F H o v ∧ RvL Z F H os r
def rC (Z : Wo) (g : List O → Option O) : List V → Hp → VK → Prop := fun vs H Q => ∃ F os o, RvL Z F H os vs ∧ g os = some o ∧ ∀ v H', NewO Z F H o v H' → Q v H'
theorem callImp {f : Value} {r r' : List V → Hp → VK → Prop} (h : CallR X f r) (i : ∀ vs H Q, r' vs H Q → r vs H Q) : CallR X f r' :=
  fun pins s σ H xs us Q I rs q => h pins s σ H xs us Q I rs (i xs H Q q)
theorem RvL.one {o : O} {vs : List V} (h : RvL Z F H [o] vs) : ∃ v, vs = [v] ∧ Rv Z F H o v := by
  obtain ⟨v, r, rfl, h1, h2⟩ := h
  have e : r = [] := h2
  rw [e]
  exact ⟨v, rfl, h1⟩
theorem RvL.two {o p : O} {vs : List V} (h : RvL Z F H [o, p] vs) : ∃ v w, vs = [v, w] ∧ Rv Z F H o v ∧ Rv Z F H p w := by
  obtain ⟨v, r, rfl, h1, h2⟩ := h
  obtain ⟨w, rfl, h3⟩ := RvL.one h2
  exact ⟨v, w, rfl, h1, h3⟩
theorem cr_len (hK : X.K = Z.K) : CallR X (.builtin "len") (rC Z lenF) := by
  refine callImp call_len_seq fun vs H Q ⟨F, os, o, r, e, q⟩ => ?_
  unfold lenF seqF at e
  split at e
  · obtain ⟨xs, ei, e2⟩ := Option.bind_eq_some_iff.mp e
    cases e2
    obtain ⟨v, rfl, rv⟩ := r.one
    obtain ⟨p, vs, rfl, s, h⟩ := items_sq rv ei
    refine ⟨p, vs, rfl, by rw [hK]; exact s, ?_⟩
    rw [← h.len]
    exact q _ _ (new_int _)
  · cases e
theorem cr_abs : CallR X (.builtin "abs") (rC Z absF) := by
  refine callImp call_abs fun vs H Q ⟨F, os, o, r, e, q⟩ => ?_
  unfold absF at e
  split at e
  · cases e
    obtain ⟨v, rfl, rv⟩ := r.one
    rw [Rp.inv_int (Rv.d rv)]
    exact ⟨_, rfl, q _ _ (new_int _)⟩
  · cases e
theorem cr_int : CallR X (.type "int") (rC Z intF) := by
  refine callImp call_int1 fun vs H Q ⟨F, os, o, r, e, q⟩ => ?_
  unfold intF at e
  split at e
  · cases e
    obtain ⟨v, rfl, rv⟩ := r.one
    rw [Rp.inv_int (Rv.d rv)]
    exact .inl ⟨_, rfl, q _ _ (new_int _)⟩
  · cases e
    obtain ⟨v, rfl, rv⟩ := r.one
    rw [Rp.inv_bl (Rv.d rv)]
    exact .inr ⟨_, rfl, q _ _ (new_int _)⟩
  · cases e
theorem cr_tuple (hK : X.K = Z.K) : CallR X (.type "tuple") (rC Z tupleF) := by
  refine callImp call_tuple_of fun vs H Q ⟨F, os, o, r, e, q⟩ => ?_
  unfold tupleF seqF at e
  split at e
  · obtain ⟨xs, ei, e2⟩ := Option.bind_eq_some_iff.mp e
    cases e2
    obtain ⟨v, rfl, rv⟩ := r.one
    obtain ⟨p, vs, rfl, s, h⟩ := items_sq rv ei
    rcases s with s | s
    · exact ⟨p, vs, rfl, .inl ⟨by rw [hK]; exact s, fun l hl => q _ _ (new_tup hl h)⟩⟩
    · refine ⟨p, vs, rfl, .inr ⟨by rw [hK]; exact s, q _ _ (.here ?_)⟩⟩
      simp only [Rp]
      exact ⟨p, vs, rfl, s, h⟩
  · cases e
theorem cr_list (hK : X.K = Z.K) : CallR X (.type "list") (rC Z listF) := by
  refine callImp call_list_of fun vs H Q ⟨F, os, o, r, e, q⟩ => ?_
  unfold listF seqF at e
  split at e
  · obtain ⟨xs, ei, e2⟩ := Option.bind_eq_some_iff.mp e
    cases e2
    obtain ⟨v, rfl, rv⟩ := r.one
    obtain ⟨p, vs, rfl, s, h⟩ := items_sq rv ei
    exact ⟨p, vs, rfl, by rw [hK]; exact s, fun l hl => q _ _ (new_lst hl h)⟩
  · cases e
theorem itemsL_sq {o : O} {v : V} {xs : List D} (r : Rv Z F H o v) (e : itemsL o = some xs) : ∃ a vs, v = .ref a ∧ SqL Z.K H a vs ∧ Rps Z F H xs vs := by
  unfold itemsL at e
  split at e
  · cases e
    obtain ⟨a, vs, rfl, s, h⟩ := Rp.inv_lst (Rv.d r)
    exact ⟨a, vs, rfl, s.sq, h⟩
  · cases e
    obtain ⟨a, vs, rfl, s, h⟩ := Rv.l r
    exact ⟨a, vs, rfl, SqL.of s, h⟩
  · cases e
theorem intsF_ok {f : List Int → Option O} {os : List O} {vs : List V} {o : O} (r : RvL Z F H os vs) (e : intsF f os = some o) : ∃ a ns, vs = [V.ref a] ∧ SqL Z.K H a (ns.map V.int) ∧ f ns = some o := by
  unfold intsF at e
  split at e
  · obtain ⟨xs, ei, e2⟩ := Option.bind_eq_some_iff.mp e
    obtain ⟨ns, en, e3⟩ := Option.bind_eq_some_iff.mp e2
    obtain ⟨v, rfl, rv⟩ := r.one
    obtain ⟨p, vs, rfl, s, h⟩ := itemsL_sq rv ei
    obtain ⟨rfl, _⟩ := ints_of en h
    exact ⟨p, ns, rfl, s, e3⟩
  · cases e
theorem cr_sumO (hK : X.K = Z.K) (hc : X.calm = true) : CallR X (.builtin "sum") (rC Z sumF) := by
  refine callImp (cr_sum hc) fun vs H Q ⟨F, os, o, r, e, q⟩ => ?_
  obtain ⟨a, ns, rfl, s, e⟩ := intsF_ok r e
  cases e
  exact ⟨a, ns, rfl, by rw [hK]; exact s, q _ _ (new_int _)⟩
theorem maxL_mem : ∀ (m : Int) (r : List Int), maxL m r ∈ m :: r
  | m, [] => by simp only [maxL]; exact List.mem_cons_self
  | m, x :: r => by
    simp only [maxL]
    have h := maxL_mem (if x > m then x else m) r
    rcases List.mem_cons.mp h with h | h
    · rw [h]
      split
      · exact List.mem_cons_of_mem _ List.mem_cons_self
      · exact List.mem_cons_self
    · exact List.mem_cons_of_mem _ (List.mem_cons_of_mem _ h)
theorem maxL_ge : ∀ (m : Int) (r : List Int), ∀ y ∈ m :: r, y ≤ maxL m r
  | m, [], y, h => by
    simp only [maxL]
    rcases List.mem_cons.mp h with h | h
    · omega
    · cases h
  | m, x :: r, y, h => by
    simp only [maxL]
    have ih := maxL_ge (if x > m then x else m) r
    have h0 := ih _ List.mem_cons_self
    rcases List.mem_cons.mp h with h | h
    · subst h
      split at h0 <;> split <;> omega
    · rcases List.mem_cons.mp h with h | h
      · subst h
        split at h0 <;> split <;> omega
      · exact ih y (List.mem_cons_of_mem _ h)
theorem minL_mem : ∀ (m : Int) (r : List Int), minL m r ∈ m :: r
  | m, [] => by simp only [minL]; exact List.mem_cons_self
  | m, x :: r => by
    simp only [minL]
    have h := minL_mem (if x < m then x else m) r
    rcases List.mem_cons.mp h with h | h
    · rw [h]
      split
      · exact List.mem_cons_of_mem _ List.mem_cons_self
      · exact List.mem_cons_self
    · exact List.mem_cons_of_mem _ (List.mem_cons_of_mem _ h)
theorem minL_le : ∀ (m : Int) (r : List Int), ∀ y ∈ m :: r, minL m r ≤ y
  | m, [], y, h => by
    simp only [minL]
    rcases List.mem_cons.mp h with h | h
    · omega
    · cases h
  | m, x :: r, y, h => by
    simp only [minL]
    have ih := minL_le (if x < m then x else m) r
    have h0 := ih _ List.mem_cons_self
    rcases List.mem_cons.mp h with h | h
    · subst h
      split at h0 <;> split <;> omega
    · rcases List.mem_cons.mp h with h | h
      · subst h
        split at h0 <;> split <;> omega
      · exact ih y (List.mem_cons_of_mem _ h)
theorem cr_maxO (hK : X.K = Z.K) (hc : X.calm = true) : CallR X (.builtin "max") (rC Z (bestF maxL)) := by
  refine callImp (cr_max hc) fun vs H Q ⟨F, os, o, r, e, q⟩ => ?_
  obtain ⟨a, ns, rfl, s, e⟩ := intsF_ok r e
  cases ns with
  | nil => cases e
  | cons m r =>
    cases e
    refine ⟨a, _, rfl, by rw [hK]; exact s, by simp, fun z h1 h2 => ?_⟩
    have e : z = maxL m r := Int.le_antisymm (maxL_ge m r z h1) (h2 _ (maxL_mem m r))
    rw [e]
    exact q _ _ (new_int _)
theorem cr_minO (hK : X.K = Z.K) (hc : X.calm = true) : CallR X (.builtin "min") (rC Z (bestF minL)) := by
  refine callImp (cr_min hc) fun vs H Q ⟨F, os, o, r, e, q⟩ => ?_
  obtain ⟨a, ns, rfl, s, e⟩ := intsF_ok r e
  cases ns with
  | nil => cases e
  | cons m r =>
    cases e
    refine ⟨a, _, rfl, by rw [hK]; exact s, by simp, fun z h1 h2 => ?_⟩
    have e : z = minL m r := Int.le_antisymm (h2 _ (minL_mem m r)) (minL_le m r z h1)
    rw [e]
    exact q _ _ (new_int _)
theorem cr_max2 (hc : X.calm = true) : CallR X (.builtin "max") (rC Z max2F) := by
  refine callImp (call_max2 hc) fun vs H Q ⟨F, os, o, r, e, q⟩ => ?_
  unfold max2F at e
  split at e
  · cases e
    obtain ⟨v, w, rfl, rv, rw'⟩ := r.two
    rw [Rp.inv_int (Rv.d rv), Rp.inv_int (Rv.d rw')]
    exact ⟨_, _, rfl, q _ _ (new_int _)⟩
  · cases e
theorem cr_min2 (hc : X.calm = true) : CallR X (.builtin "min") (rC Z min2F) := by
  refine callImp (call_min2 hc) fun vs H Q ⟨F, os, o, r, e, q⟩ => ?_
  unfold min2F at e
  split at e
  · cases e
    obtain ⟨v, w, rfl, rv, rw'⟩ := r.two
    rw [Rp.inv_int (Rv.d rv), Rp.inv_int (Rv.d rw')]
    exact ⟨_, _, rfl, q _ _ (new_int _)⟩
  · cases e
theorem bols_of : ∀ {xs : List D} {bs : List Bool} {vs : List V}, bolsOf xs = some bs → Rps Z F H xs vs → vs = bs.map V.bl
  | [], bs, vs, e, r => by
    simp only [bolsOf, Option.some.injEq] at e
    subst e
    rw [r.inv0]
    rfl
  | x :: xs, bs, vs, e, r => by
    cases x with
    | bl i =>
      simp only [bolsOf] at e
      obtain ⟨ms, e1, rfl⟩ := Option.map_eq_some_iff.mp e
      obtain ⟨v, r', rfl, h1, h2⟩ := r.inv
      rw [bols_of e1 h2, Rp.inv_bl h1]
      rfl
    | _ => simp only [bolsOf] at e; cases e
theorem bolsF_ok {f : List Bool → Bool} {os : List O} {vs : List V} {o : O} (r : RvL Z F H os vs) (e : bolsF f os = some o) : ∃ a bs, vs = [V.ref a] ∧ SqL Z.K H a (bs.map V.bl) ∧ o = .d (.bl (f bs)) := by
  unfold bolsF at e
  split at e
  · obtain ⟨xs, ei, e2⟩ := Option.bind_eq_some_iff.mp e
    obtain ⟨bs, en, rfl⟩ := Option.map_eq_some_iff.mp e2
    obtain ⟨v, rfl, rv⟩ := r.one
    obtain ⟨p, vs, rfl, s, h⟩ := itemsL_sq rv ei
    rw [bols_of en h] at s
    exact ⟨p, bs, rfl, s, rfl⟩
  · cases e
theorem cr_allO (hK : X.K = Z.K) (hc : X.calm = true) : CallR X (.builtin "all") (rC Z (bolsF fun bs => bs.all id)) := by
  refine callImp (cr_all hc) fun vs H Q ⟨F, os, o, r, e, q⟩ => ?_
  obtain ⟨a, bs, rfl, s, rfl⟩ := bolsF_ok r e
  exact ⟨a, bs, rfl, by rw [hK]; exact s, q _ _ (new_bl _)⟩
theorem cr_anyO (hK : X.K = Z.K) (hc : X.calm = true) : CallR X (.builtin "any") (rC Z (bolsF fun bs => bs.any id)) := by
  refine callImp (cr_any hc) fun vs H Q ⟨F, os, o, r, e, q⟩ => ?_
  obtain ⟨a, bs, rfl, s, rfl⟩ := bolsF_ok r e
  exact ⟨a, bs, rfl, by rw [hK]; exact s, q _ _ (new_bl _)⟩
/-! ### sorted, of ints -/
theorem insI_perm (x : Int) : ∀ l : List Int, (insI x l).Perm (x :: l)
  | [] => List.Perm.refl _
  | y :: r => by
    simp only [insI]
    split
    · exact List.Perm.refl _
    · exact (List.Perm.cons y (insI_perm x r)).trans (List.Perm.swap x y r)
theorem sortI_perm : ∀ l : List Int, (sortI l).Perm l
  | [] => List.Perm.refl _
  | x :: r => by
    simp only [sortI]
    exact (insI_perm x _).trans (List.Perm.cons x (sortI_perm r))
theorem insI_sorted (x : Int) : ∀ l : List Int, l.Pairwise (· ≤ ·) → (insI x l).Pairwise (· ≤ ·)
  | [], _ => by simp only [insI]; exact List.pairwise_singleton _ _
  | y :: r, h => by
    simp only [insI]
    obtain ⟨h1, h2⟩ := List.pairwise_cons.mp h
    split
    · refine List.pairwise_cons.mpr ⟨fun z hz => ?_, h⟩
      rcases List.mem_cons.mp hz with e | hz
      · omega
      · have := h1 z hz
        omega
    · refine List.pairwise_cons.mpr ⟨fun z hz => ?_, insI_sorted x r h2⟩
      rcases List.mem_cons.mp ((insI_perm x r).mem_iff.mp hz) with e | hz
      · omega
      · exact h1 z hz
theorem sortI_sorted : ∀ l : List Int, (sortI l).Pairwise (· ≤ ·)
  | [] => List.Pairwise.nil
  | x :: r => by
    simp only [sortI]
    exact insI_sorted x _ (sortI_sorted r)
theorem sorted_one {l m : List Int} (p : l.Perm m) (h1 : l.Pairwise (· ≤ ·)) (h2 : m.Pairwise (· ≤ ·)) : l = m :=
  List.Perm.eq_of_pairwise (fun a b _ _ h3 h4 => Int.le_antisymm h3 h4) h1 h2 p
theorem Rps.ints : ∀ ns : List Int, Rps Z F H (ns.map D.int) (ns.map V.int)
  | [] => .nil
  | n :: ns => .cons (by simp only [Rp]) (Rps.ints ns)
theorem cr_sortO (hK : X.K = Z.K) : CallR X (.builtin "sorted") (rC Z sortF) := by
  refine callImp cr_sortedI fun vs H Q ⟨F, os, o, r, e, q⟩ => ?_
  obtain ⟨a, ns, rfl, s, e⟩ := intsF_ok r e
  cases e
  refine ⟨a, ns, rfl, by rw [hK]; exact s, fun ns' p hp hs hn => ?_⟩
  have e : ns' = sortI ns := sorted_one (hp.trans (sortI_perm ns).symm) hs (sortI_sorted ns)
  rw [e]
  exact q _ _ (new_lst hn (Rps.ints _))
end
end Ev
/-! Ev24: sorted(set(a list of ints)). -/
namespace Ev
open PySem PySem.Spec PyProof.Rows L2
/-- the set just made -/
abbrev set0 (w : World) : Obj := { cls := .type "set", dict := none, data := .set #[] 0 (.fresh 0 0 (!w.params.followText "set-order")) }
section
variable {P : Program} {w : World} {A : Around} {E : Value → Shared → Prop} {s : Shared}
set_option maxHeartbeats 3200000 in
theorem set_of_list {l : Addr} {its : Array Value} (ns : List Int) {Q : Value → Shared → Prop} (hh : A.handled = none) (hl : s.heap.IsList l its) (hit : IntsAre its.toList ns) (hb : ns.length + 1 < scanBound)
    (h : ∀ (h2 : Heap) (tk k : Nat), SetR w h2 s.heap.objs.size (fun j => decide (j ∈ ns)) k → k ≤ ns.length → (∀ b o, s.heap.get? b = some o → h2.get? b = some o) → Q (.ref s.heap.objs.size) { s with heap := h2, toks := tk }) :
    wpAny (model P w) A (PySem.call (.type "set") [.ref l]) Q E s := by
  have sz : its.size = ns.length := by
    rw [← Array.length_toList]
    exact IntsAre.length hit
  obtain ⟨c0, tl0, hm0⟩ := F.called_set.mro
  have made0 := F.called_set.made
  have sub0 := F.called_set.sub
  refine wpAny_call <| codeAny_of_tree ?_
  show wpAny _ _ (callAny (.type "set") ⟨[.ref l], []⟩) _ _ _
  refine wpAny_pure (And.intro (Code.quiet_builtin _ (by decide +kernel)) (codeAny_builtin F.entry_type_call ?_))
  rw [Around.under_plain (weight_type_call_type "set" [Value.ref l] []) (by rfl)]
  have g1 := F.called_set.notType
  have g2 := F.called_set.canCreate
  have g3 := F.typeCall_set_1 (Value.ref l)
  repeat (any_goals first | assumption | wp_step)
  refine codeAny_mono
    (code_set_led1 (.ref l) (E := E) (Q₁ := fun ob t => ob = .ref s.heap.objs.size ∧ t = { s with heap := s.heap.push (set0 w) }) ⟨rfl, rfl⟩)
    fun r t hr => ?_
  cases r with
  | error e => exact hr
  | ok fl =>
    cases fl with
    | ret ob =>
      obtain ⟨rfl, rfl⟩ := hr
      have hS : (s.heap.push (set0 w)).get? s.heap.objs.size = some (set0 w) := Heap.get?_push_size _ rfl
      have hT : Shared.TypeIs { s with heap := s.heap.push (set0 w) } (.ref s.heap.objs.size) "set" := ⟨_, hS, rfl⟩
      have hi1 := F.called_set.init.lookup
      have hi2 := F.called_set.init.bind (Value.ref s.heap.objs.size)
      repeat (any_goals first | assumption | wp_step)
      refine codeAny_mono (codeAny_call_builtin (R := wants (fun r t2 => r = Value.none ∧ ∃ h2 tk k, t2 = { s with heap := h2, toks := tk } ∧ SetR w h2 s.heap.objs.size (fun j => decide (j ∈ ns)) k ∧ k ≤ ns.length ∧ ∀ b o, s.heap.get? b = some o → h2.get? b = some o) E)
        F.called_set.init.plain F.entry_set_init (check_set_init_1 hT ?_)) fun r2 t2 hr2 => ?_
      · obtain ⟨⟨oc, od, oda, osl⟩, hol, hcl, nl, hdl⟩ := hl
        dsimp only at hcl hdl
        subst hcl hdl
        have hol1 : (s.heap.push (set0 w)).get? l = some { cls := .type "list", dict := od, data := .seq its nl, slots := osl } := Heap.get?_push_of_some _ hol
        have u1 := F.sub_list_set
        have u2 := F.sub_list_frozenset
        have u3 : (Value.type "list" == Value.type "dict") = false := by decide
        have hl1 : (s.heap.push (set0 w)).IsList l its := ⟨_, hol1, rfl, nl, rfl⟩
        unfold Builtin.«set.__init__» noKeywords Builtin.Frozenset.updateFrom
        generalize hPI : pyIter = PI
        wp_walk
        subst hPI
        refine wpAny_pyIter_list hl1 ?_
        refine wpAny_bind (wpAny_runValue ?_)
        have lS : l < s.heap.objs.size := Heap.lt_size hol
        have hA3 : A.in1.in1.in1.handled = none := by simp [hh]
        have zI : (s.heap.push (set0 w)).objs.size = s.heap.objs.size + 1 := Heap.size_push ..
        have lI : l ≠ (s.heap.push (set0 w)).objs.size := by
          rw [zI]
          exact Nat.ne_of_lt (Nat.lt_succ_of_lt lS)
        have sF : s.heap.objs.size ∉ [(s.heap.push (set0 w)).objs.size, l] := by
          rw [zI]
          simp only [List.mem_cons, List.not_mem_nil, or_false, not_or]
          exact And.intro (Nat.ne_of_lt (Nat.lt_succ_self _)) (Nat.ne_of_gt lS)
        have val : ∀ (i : Nat) (v : Value), its[i]? = some v → ∃ k t, ns[i]? = some k ∧ v = .int k t := fun i v hv => by
          have il : i < ns.length := by
            rw [← sz]
            exact (Array.getElem?_eq_some_iff.mp hv).1
          obtain ⟨t, e⟩ := PyProof.Rows.IntsAre.int_at hit i v (by rw [Array.getElem?_toList, hv])
          refine ⟨ns[i], t, List.getElem?_eq_getElem il, e.trans ?_⟩
          rw [List.getD_eq_getElem?_getD, List.getElem?_eq_getElem il] <;> rfl
        refine set_update_ints ((Walks.list hA3 _ l lI its).toS) s.heap.objs.size sF ns sz hb val (its.size - 0) 0 _ (by omega) (Nat.zero_le _) ⟨⟨_, Heap.get?_push_size _ rfl, rfl, rfl⟩, hl1.push _⟩ ⟨0, Nat.le_refl 0, setR_new_at (Heap.get?_push_of_some _ hS)⟩ fun t3 k hm hk hR => ?_
        obtain ⟨h3, g4, d3, tk3, os3⟩ := t3
        have e1 : g4 = s.gens := hm.gens
        have e2 : d3 = s.drawn := hm.drawn
        have e3 : os3 = s.os := hm.os
        subst e1 e2 e3
        show wpAny _ _ _ _ _ _
        refine wpAny_pure ?_
        show wpAny _ _ (ret .none) _ _ _
        rw [sz] at hk
        refine wpAny_pure ⟨rfl, h3, tk3, k, rfl, hR, hk, fun b o e => ?_⟩
        have b0 := Heap.lt_size e
        refine hm.heap b o ?_ (Heap.get?_push_of_some _ (Heap.get?_push_of_some _ e))
        simp only [List.mem_cons, List.not_mem_nil, or_false, not_or]
        exact ⟨Nat.ne_of_lt b0, by rw [zI]; exact Nat.ne_of_lt (Nat.lt_succ_of_lt b0)⟩
      · cases r2 with
        | error e => exact hr2
        | ok fl2 =>
          cases fl2 with
          | ret r =>
            obtain ⟨rfl, h2, tk, k, rfl, q1, q2, q3⟩ := hr2
            repeat (any_goals first | assumption | wp_step)
            exact h _ _ _ q1 q2 q3
          | _ => exact hr2.elim
    | _ => exact hr.elim
end
end Ev
/-! Ev25: sorted(set(a list of ints)), the rule. -/
namespace Ev
open PySem PySem.Spec PyProof.Rows L2
section
theorem insS_mem {x k : Int} : ∀ {l : List Int}, k ∈ insS x l ↔ k = x ∨ k ∈ l
  | [] => by simp [insS]
  | y :: r => by
    simp only [insS]
    split
    · simp only [List.mem_cons]
    · split
      · rename_i e
        subst e
        simp only [List.mem_cons]
        exact ⟨fun z => .inr z, fun z => z.elim (fun e => .inl e) id⟩
      · simp only [List.mem_cons, insS_mem (l := r)]
        exact ⟨fun z => z.elim (fun e => .inr (.inl e)) fun z => z.elim .inl fun z => .inr (.inr z), fun z => z.elim (fun e => .inr (.inl e)) fun z => z.elim .inl fun z => .inr (.inr z)⟩
theorem insS_up {x : Int} : ∀ {l : List Int}, l.Pairwise (· < ·) → (insS x l).Pairwise (· < ·)
  | [], _ => by simp only [insS]; exact List.pairwise_singleton _ _
  | y :: r, h => by
    obtain ⟨h1, h2⟩ := List.pairwise_cons.mp h
    simp only [insS]
    split
    · refine List.pairwise_cons.mpr ⟨fun z hz => ?_, h⟩
      rcases List.mem_cons.mp hz with e | hz
      · omega
      · have := h1 z hz
        omega
    · split
      · exact h
      · refine List.pairwise_cons.mpr ⟨fun z hz => ?_, insS_up h2⟩
        rcases insS_mem.mp hz with e | hz
        · omega
        · exact h1 z hz
theorem sortS_mem {k : Int} : ∀ {l : List Int}, k ∈ sortS l ↔ k ∈ l
  | [] => by simp [sortS]
  | x :: r => by simp only [sortS, insS_mem, List.mem_cons, sortS_mem (l := r)]
theorem sortS_up : ∀ {l : List Int}, (sortS l).Pairwise (· < ·)
  | [] => List.Pairwise.nil
  | x :: r => insS_up sortS_up
theorem up_one : ∀ {l m : List Int}, l.Pairwise (· < ·) → m.Pairwise (· < ·) → (∀ k, k ∈ l ↔ k ∈ m) → l = m
  | [], [], _, _, _ => rfl
  | [], y :: m, _, _, h => absurd ((h y).mpr List.mem_cons_self) (by simp)
  | x :: l, [], _, _, h => absurd ((h x).mp List.mem_cons_self) (by simp)
  | x :: l, y :: m, h1, h2, h => by
    obtain ⟨a1, a2⟩ := List.pairwise_cons.mp h1
    obtain ⟨b1, b2⟩ := List.pairwise_cons.mp h2
    have e : x = y := by
      rcases List.mem_cons.mp ((h x).mp List.mem_cons_self) with z | z
      · exact z
      · rcases List.mem_cons.mp ((h y).mpr List.mem_cons_self) with z2 | z2
        · exact z2.symm
        · have := a1 y z2
          have := b1 x z
          omega
    subst e
    rw [up_one a2 b2 fun k => ?_]
    constructor
    · intro hk
      rcases List.mem_cons.mp ((h k).mp (List.mem_cons_of_mem _ hk)) with z | z
      · have := a1 k hk
        omega
      · exact z
    · intro hk
      rcases List.mem_cons.mp ((h k).mpr (List.mem_cons_of_mem _ hk)) with z | z
      · have := b1 k hk
        omega
      · exact z
end
section
variable {X : Cx} {Z : Wo}
def tSortSet (K : PySem.W.Frag) (ta : TE) : TE := fun σ H Q => ta σ H fun x H1 => ∃ (l : Addr) (ns : List Int), x = .ref l ∧ SqL K H1 l (ns.map V.int) ∧ ns.length < 64 ∧ ∀ p, H1 p = none → Q (.ref p) (upd H1 p (.lst ((sortS ns).map V.int)))
theorem pe_sortSet {a : Expr} {ta : TE} {p p2 q pos : Pos} (hc : X.calm = true) (hg : Gl X "sorted") (hm : X.mg "sorted" = none) (hg2 : Gl X "set") (hm2 : X.mg "set" = none) (ha : PE X a ta) (na : starEach [a] X.env = (false, eval a X.env) :: starEach [] X.env) :
    PE X (.Call (.Name "sorted" p) [.Call (.Name "set" p2) [a] [] q] [] pos) (tSortSet X.K ta) := by
  refine ⟨fun pins s σ H Q I h => ?_⟩
  refine Call_ (ld_blt I hg hm (show bootBuiltins "sorted" = some (.builtin "sorted") by decide +kernel) (PyProof.Rows.callWith_builtin1 (PyProof.Rows.args_cons ?_ rfl) rfl rfl))
  refine Call_ (ld_blt I hg2 hm2 PyProof.Rows.boot_set (PyProof.Rows.callWith_type1 (PyProof.Rows.args_cons (thn (ha.run pins s σ H _ I h) fun v s1 ⟨x, H1, I1, r1, q1⟩ => PyProof.Rows.args_nil ?_) na) na rfl))
  obtain ⟨l, ns, rfl, hq, hl, q1⟩ := q1
  cases r1
  obtain ⟨its, r, pl, hz⟩ := I1.list hq
  refine set_of_list ns (I1.ok.hd hc) pl.isList (by simpa using RZ.intsAre_vals r) (by unfold scanBound; omega) fun h2 tk k hR hk kp => PyProof.Rows.args_nil ?_
  have I2 : Inv X pins σ H1 { s1 with heap := h2, toks := tk } := I1.kept kp
  refine sorted_set (s := { s1 with heap := h2, toks := tk }) hR (I2.ok.hd hc) (by omega) fun s3 b out c ms k3 g3 o3 hb hp hi hs hms hln => ?_
  have em : ms = sortS ns := up_one hs sortS_up fun j => by rw [hms j, sortS_mem, decide_eq_true_eq]
  subst em
  have hn : H1 b = none := I2.hok.fresh hb
  have hlen : ((sortS ns).map V.int).length ≤ sizeLine := by rw [List.length_map, hln, sizeLine_eq]; omega
  have J : Inv X pins σ (upd H1 b (.lst ((sortS ns).map V.int))) { ({ s1 with heap := h2, toks := tk } : Shared) with heap := s3.heap, gens := s3.gens, drawn := s3.drawn, toks := s3.toks } :=
    I2.call (ch := []) (Un.laid k3 hb hn) (I2.hok.laid k3 hb ⟨hlen, out.toList, c, vals_of_ints hi, hp⟩) (by rw [g3]; exact I2.bare) (fun _ z => nomatch z)
  have e : s3 = { ({ s1 with heap := h2, toks := tk } : Shared) with heap := s3.heap, gens := s3.gens, drawn := s3.drawn, toks := s3.toks } := by
    cases s3
    cases s1
    cases o3
    rfl
  rw [e]
  exact ⟨.ref b, _, J, rfl, q1 b hn⟩
end
end Ev
/-! Ev5: which text an expression is (the look), the context, small rules. -/
namespace Ev
open PySem PySem.Spec PyProof.Rows L2
/-! ### the look -/
/-- names of the law: its defs, its constants, its texts, its errors -/
structure Nm where
  fns : List Str
  cons : List Str
  txt : List Str
  exs : List Str
  ars : List Nat
  told : Option Str
deriving Inhabited
/-- where one stands: the slots' names, the scope -/
structure Cs where
  N : List Str
  sc : Scope
  lam : Bool
/-- the k-th name -/
def nth (l : List Str) (k : Nat) (x : Str) : Bool := match l[k]? with
  | some y => decide (y = x)
  | none => false
theorem nth_of {l : List Str} {k : Nat} {x : Str} (h : nth l k x = true) : l[k]? = some x := by
  unfold nth at h
  cases e : l[k]? with
  | none => rw [e] at h; cases h
  | some y =>
    rw [e] at h
    rw [of_decide_eq_true h]
def visB (c : Cs) (x : Str) : Bool := match c.sc.names.lookup x with
  | some .local => true
  | some .cell => true
  | some .free => true
  | _ => false
def locB (c : Cs) (x : Str) : Bool := match c.sc.names.lookup x with
  | some .local => true
  | some .cell => true
  | _ => false
def glB (c : Cs) (x : Str) : Bool := match c.sc.names.lookup x with
  | some .globalImplicit => true
  | _ => false
def odd (x : Str) : Bool := (x == ("__debug__" : Str)) || (x == ("__classdict__" : Str)) || (x == ("__name__" : Str))
/-- a name of the def's in slot i; a stored one; a global one -/
def varB (c : Cs) (i : Nat) (x : Str) : Bool := nth c.N i x && (visB c x && !odd x)
def stoB (c : Cs) (i : Nat) (x : Str) : Bool := nth c.N i x && (locB c x && !odd x)
def isStar : Expr → Bool
  | .Starred _ _ => true
  | _ => false
def isSlice : Expr → Bool
  | .Slice _ _ _ _ => true
  | _ => false
/-- it is asked for its truth as a value -/
def plainT : Expr → Bool
  | .UnaryOp .Not _ _ => false
  | .BoolOp _ _ _ => false
  | .IfExp _ _ _ _ => false
  | .Compare _ _ _ _ => false
  | _ => true
def copOf : Cop → CmpOp
  | .eq => .Eq | .ne => .NotEq | .lt => .Lt | .le => .LtE | .gt => .Gt | .ge => .GtE | .isin => .In | .notin => .NotIn | .is_ => .Is | .isnot => .IsNot
def bltS : Blt → Str
  | .len => "len" | .abs => "abs" | .int => "int" | .tuple => "tuple" | .list => "list" | .sum => "sum" | .max => "max" | .min => "min" | .max2 => "max" | .min2 => "min" | .min3 => "min"
  | .all => "all" | .any => "any" | .sorted => "sorted" | .sortedSet => "set" | .dict => "dict"
def tyS : Ty → Str
  | .int => "int" | .bool => "bool" | .str => "str" | .tuple => "tuple" | .list => "list"
def isIte : E → Bool
  | .ite _ _ _ => true
  | _ => false
/-! ### the context -/
structure Gw where
  Z : Wo
  P : Program
  w : World
  mg : Str → Option Value
  base : Heap
  T : Top
  C : Calls
  nm : Nm
  ar : Nat → Nat
/-- what a def of level k promises -/
def spF (Y : Gw) (k f : Nat) : Sp := fun vs H Q E => ∃ (F : Fz) (args : Ev), vs.length = Y.ar f ∧ args.length = vs.length ∧ (∀ i : Nat, args[i]? ≠ some none) ∧ (∀ (j : Nat) (w : W), args[j]? = some (some w) → isOwn w = true → isP w = true) ∧ Sta Y.Z F H (vs.map some) args ∧
  PostG Y.Z E (relE Y.Z) (vs.map some) F H args (Y.C k f args) Q
/-- the built-ins that are used -/
def bltN : List Str := ["len", "abs", "int", "tuple", "list", "sum", "max", "min", "all", "any", "sorted", "set", "dict", "isinstance", "bool", "str", "range", "enumerate", "zip"]
structure Gok (Y : Gw) : Prop where
  st : StOk Y.Z
  sts : Y.Z.ST = Y.nm.txt
  blt : ∀ x ∈ bltN, Y.mg x = none
  con : ∀ (k : Nat) (x : Str), Y.nm.cons[k]? = some x → ∃ (d : D) (v : V) (u : Value), Y.T.con[k]? = some d ∧ Y.mg x = some u ∧ RelV v u ∧ ∀ F H, Rp Y.Z F H d v
structure Fok (Y : Gw) (n : Nat) : Prop where
  fn : ∀ (f : Nat) (x : Str), Y.nm.fns[f]? = some x → ∃ (a : Addr) (fd : FuncData) (ps : List Str), Y.mg x = some (.ref a) ∧ PySem.W.keepIn Y.Z.K (.ref a) = true ∧ L2.Binds Y.Z.K fd ps [] ∧
    ∀ k, k ≤ n → FnOk Y.P Y.w Y.Z.K Y.mg Y.base (L2.CX Y.P Y.w) k a fd ps (spF Y k f)
structure Good (Y : Gw) (n : Nat) (c : Cs) (E : XK) (X : Cx) : Prop where
  prog : X.prog = Y.P
  w : X.w = Y.w
  K : X.K = Y.Z.K
  mg : X.mg = Y.mg
  base : X.base = Y.base
  N : X.N = c.N
  nd : c.N.Nodup
  vis : ∀ x, visB c x = true → Vis X.env.scope x
  loc : ∀ x, locB c x = true → Loc X.env.scope x ∧ (X.fn x = true ∨ X.env.scope.names.lookup x = some .local)
  gl : ∀ x, glB c x = true → Gl X x
  calm : X.calm = true
  room : Room n X.A
  pass : Passes (L2.CX X.prog X.w) X E
section
variable {Y : Gw} {n : Nat} {c : Cs} {E : XK} {X : Cx}
theorem odd_no {x : Str} (h : odd x = false) : (x == ("__debug__" : Str)) = false ∧ (x == ("__classdict__" : Str)) = false ∧ x ≠ "__name__" := by
  unfold odd at h
  simp only [Bool.or_eq_false_iff] at h
  exact ⟨h.1.1, h.1.2, fun e => by simp [e] at h⟩
theorem Good.hu (g : Good Y n c E X) : X.A.units + 65 < cLine := by
  have := g.room.un
  omega
/-! ### small rules -/
theorem peImp {e : Expr} {t t' : TE} (h : PE X e t) (i : ∀ σ H Q, t' σ H Q → t σ H Q) : PE X e t' := ⟨fun pins s σ H Q I q => h.run pins s σ H Q I (i σ H Q q)⟩
theorem ptImp {e : Expr} {t t' : TT} (h : PT X e t) (i : ∀ σ H Q, t' σ H Q → t σ H Q) : PT X e t' := ⟨fun pins s σ H Q I q => h.run pins s σ H Q I (i σ H Q q)⟩
theorem paImp {es : List Expr} {t t' : TA} (h : PA X es t) (i : ∀ σ H Q, t' σ H Q → t σ H Q) : PA X es t' := ⟨fun pos pins s σ H Q I q => h.run pos pins s σ H Q I (i σ H Q q)⟩
theorem star_cons {e : Expr} {es : List Expr} {env : Env} (h : isStar e = false) : starEach (e :: es) env = (false, eval e env) :: starEach es env := by
  cases e <;> first | rfl | (cases h)
theorem plain_ix {e : Expr} (h : isSlice e = false) : PlainIx e := by
  intro o i
  cases e <;> first | rfl | (cases h)
theorem plain_true {e : Expr} {env : Env} (h : plainT e = true) : ∀ whole, isTrue e env whole = (do let v ← whole; standAt e.pos; holding [v] (truthy v)) := by
  intro whole
  cases e with
  | UnaryOp op x p => cases op <;> first | rfl | (cases h)
  | BoolOp _ _ _ => cases h
  | IfExp _ _ _ _ => cases h
  | Compare _ _ _ _ => cases h
  | _ => rfl
theorem star_none {es : List Expr} {env : Env} {pos : Pos} (h : es.all (fun e => !isStar e) = true) : (backTo pos (starEach es env)).any (·.1) = false := by
  induction es with
  | nil => rfl
  | cons e es ih =>
    simp only [List.all_cons, Bool.and_eq_true, Bool.not_eq_true'] at h
    rw [star_cons h.1]
    show (false || (backTo pos (starEach es env)).any (·.1)) = false
    rw [ih (by simpa using h.2)] <;> rfl
variable {σ : L2.St} {H : Hp} {α β γ δ : Type}
/-- one part, two parts -/
theorem one {Z : Wo} {rel : Rel γ δ} {f : Ev → R O} {k : O → Ev → R γ} {Q : δ → Hp → Prop} {Q2 : VK} (h : LG Z E rel (fun ρ => (f ρ).bind k) σ H Q)
    (i : ∀ a ρ1 x F1 H1 F0 H0 ρ0, Path Z σ F0 H0 ρ0 σ F1 H1 ρ1 → Out Z F1 H1 σ ρ1 a x → Frs H0 a x → PostG Z E rel σ F0 H0 ρ0 (k a ρ1) Q → Q2 x H1) : LE Z E f σ H Q2 := by
  obtain ⟨F0, H0, ρ0, F, ρ, p, post⟩ := h
  exact run p post fun a ρ1 x F1 H1 p1 p0 r q => i a ρ1 x F1 H1 F0 H0 ρ0 p0 r.1 (r.2.back p) q
theorem two {Z : Wo} {rel : Rel γ δ} {f : Ev → R O} {g : Ev → R O} {k : O → O → Ev → R γ} {Q : δ → Hp → Prop} {Q2 : V → V → Hp → Prop} (h : LG Z E rel (fun ρ => (f ρ).bind fun a ρ1 => (g ρ1).bind (k a)) σ H Q)
    (i : ∀ a b ρ2 x y F2 H2 F0 H0 ρ0, Path Z σ F0 H0 ρ0 σ F2 H2 ρ2 → Out Z F2 H2 σ ρ2 a x → Out Z F2 H2 σ ρ2 b y → PostG Z E rel σ F0 H0 ρ0 (k a b ρ2) Q → Q2 x y H2) :
    LE Z E f σ H fun x H1 => LE Z E g σ H1 fun y H2 => Q2 x y H2 := by
  refine one h fun a ρ1 x F1 H1 F0 H0 ρ0 p o fr post => ?_
  exact run p post fun b ρ2 y F2 H2 p12 p02 r q => i a b ρ2 x y F2 H2 F0 H0 ρ0 p02 (o.step p.st p12 fun _ _ z => z) r.1 q
/-- a value that is there -/
theorem here_d {Z : Wo} {F0 F1 : Fz} {H0 H1 : Hp} {ρ0 ρ1 : Ev} {x : D} {v : V} {Q : VK} (p : Path Z σ F0 H0 ρ0 σ F1 H1 ρ1) (post : PostG Z E (relE Z) σ F0 H0 ρ0 (.ok (.d x) ρ1) Q) (r : Rp Z F1 H1 x v) : Q v H1 :=
  fin_new p post (.here r)
theorem snd_const {Z : Wo} {e : Expr} {d : D} {v : V} (h : PE X e (tC v)) (r : ∀ F H, Rp Z F H d v) : PE X e (LE Z E fun ρ => .ok (.d d) ρ) :=
  peImp h fun σ H Q ⟨F0, H0, ρ0, F, ρ, p, post⟩ => here_d p post (r F H)
theorem snd_var {Z : Wo} {e : Expr} {i : Nat} (h : PE X e (tVar i)) : PE X e (LE Z E (varS i)) := by
  refine peImp h fun σ H Q ⟨F0, H0, ρ0, F, ρ, p, post⟩ => ?_
  unfold varS at post
  split at post
  · rename_i x ex
    obtain ⟨v, e1, r⟩ := p.st.rep i _ ex
    exact ⟨v, e1, here_d p post r⟩
  · rename_i w nx ex
    obtain ⟨v, e1, r⟩ := p.st.rep i _ ex
    exact ⟨v, e1, post v F H p ⟨e1, fun z => by cases z⟩⟩
  · exact post.elim
theorem snd_bin {Z : Wo} {a b : Expr} {op : Operator} {h : O → O → Option O} {f g : Ev → R O} {pos : Pos} (ha : PE X a (LE Z E f)) (hb : PE X b (LE Z E g)) (ho : OpR X (binaryOp op) (rN Z h)) :
    PE X (.BinOp a op b pos) (LE Z E fun ρ => (f ρ).bind fun x ρ1 => (g ρ1).bind fun y ρ2 => oko (h (rs ρ2 x) (rs ρ2 y)) ρ2) := by
  refine peImp (pe_op ho ha hb) fun σ H Q q => two q fun a b ρ2 x y F2 H2 F0 H0 ρ0 p oa ob post => ?_
  unfold oko at post
  cases e : h (rs ρ2 a) (rs ρ2 b) with
  | none => rw [e] at post; exact post.elim
  | some o =>
    rw [e] at post
    exact ⟨F2, _, _, o, oa.rv p.st, ob.rv p.st, e, fun v H' nw => fin_new p post nw⟩
theorem snd_cmp {Z : Wo} {a b : Expr} {op : CmpOp} {h : O → O → Option Bool} {f g : Ev → R O} {pos : Pos} (ha : PE X a (LE Z E f)) (hb : PE X b (LE Z E g)) (ho : OpR X (compareOp op) (rNb Z h)) (hm : behindInMarks op b = false) :
    PE X (.Compare a [op] [b] pos) (LE Z E fun ρ => (f ρ).bind fun x ρ1 => (g ρ1).bind fun y ρ2 => okb (h (rs ρ2 x) (rs ρ2 y)) ρ2) := by
  refine peImp (pe_cmpR ho ha hb hm) fun σ H Q q => two q fun a b ρ2 x y F2 H2 F0 H0 ρ0 p oa ob post => ?_
  unfold okb at post
  cases e : h (rs ρ2 a) (rs ρ2 b) with
  | none => rw [e] at post; exact post.elim
  | some o =>
    rw [e] at post
    exact ⟨F2, _, _, o, oa.rv p.st, ob.rv p.st, e, fin_new p post (new_bl o)⟩
/-- a test's end -/
theorem fin_t {Z : Wo} {F0 F1 : Fz} {H0 H1 : Hp} {ρ0 ρ1 : Ev} {b : Bool} {Q : Bool → Hp → Prop} (p : Path Z σ F0 H0 ρ0 σ F1 H1 ρ1) (post : PostG Z E relT σ F0 H0 ρ0 (.ok b ρ1) Q) : Q b H1 := post b F1 H1 p rfl
theorem asT_bl {b : Bool} {ρ : Ev} : asT (.ok (.d (.bl b)) ρ) = .ok b ρ := rfl
theorem bind_assoc {r : R α} {f : α → Ev → R β} {g : β → Ev → R γ} : (r.bind f).bind g = r.bind fun a ρ => (f a ρ).bind g := by cases r <;> rfl
theorem asT_bind {r : R α} {f : α → Ev → R O} : asT (r.bind f) = r.bind fun a ρ => asT (f a ρ) := bind_assoc
theorem snd_cmpT {Z : Wo} {a b : Expr} {op : CmpOp} {h : O → O → Option Bool} {f g : Ev → R O} {pos : Pos} (ha : PE X a (LE Z E f)) (hb : PE X b (LE Z E g)) (ho : OpR X (compareOp op) (rNb Z h)) (hm : behindInMarks op b = false) :
    PT X (.Compare a [op] [b] pos) (LT Z E fun ρ => asT ((f ρ).bind fun x ρ1 => (g ρ1).bind fun y ρ2 => okb (h (rs ρ2 x) (rs ρ2 y)) ρ2)) := by
  refine ptImp (pt_cmpR ho ha hb hm) fun σ H Q q => ?_
  simp only [asT_bind] at q
  refine two q fun a b ρ2 x y F2 H2 F0 H0 ρ0 p oa ob post => ?_
  unfold okb at post
  cases e : h (rs ρ2 a) (rs ρ2 b) with
  | none => rw [e] at post; exact post.elim
  | some o =>
    rw [e] at post
    exact ⟨F2, _, _, o, oa.rv p.st, ob.rv p.st, e, o, rfl, fin_t p post⟩
/-- an expression whose truth is asked -/
theorem snd_truth {Z : Wo} {e : Expr} {f : Ev → R O} (hK : X.K = Z.K) (h : PE X e (LE Z E f)) (hp : plainT e = true) : PT X e (LT Z E fun ρ => asT (f ρ)) := by
  refine ptImp (pt_truth h (plain_true hp)) fun σ H Q q => one q fun a ρ1 x F1 H1 F0 H0 ρ0 p o fr post => ?_
  cases e : truth (rs ρ1 a) with
  | none => rw [e] at post; exact post.elim
  | some b =>
    rw [e] at post
    exact ⟨b, by rw [hK]; exact tru_O (o.rv p.st) e, fin_t p post⟩
theorem snd_not {Z : Wo} {a : Expr} {f : Ev → R O} {pos : Pos} (h : PT X a (LT Z E fun ρ => asT (f ρ))) : PT X (.UnaryOp .Not a pos) (LT Z E fun ρ => asT ((asT (f ρ)).bind fun b ρ1 => .ok (.d (.bl (!b))) ρ1)) := by
  refine ptImp (pt_not h) fun σ H Q ⟨F0, H0, ρ0, F, ρ, p, post⟩ => ?_
  simp only [asT_bind, asT_bl] at post
  exact run p post fun b ρ1 b' F1 H1 _ p1 r q => by
    obtain rfl : b' = b := r
    exact fin_t p1 q
/-- not, as a value -/
theorem snd_notV {Z : Wo} {a : Expr} {pos : Pos} {f : Ev → R O} (hK : X.K = Z.K) (h : PE X a (LE Z E f)) : PE X (.UnaryOp .Not a pos) (LE Z E fun ρ => (asT (f ρ)).bind fun b ρ1 => .ok (.d (.bl (!b))) ρ1) := by
  refine peImp (pe_notT h) fun σ H Q q => ?_
  unfold asT at q
  simp only [bind_assoc] at q
  refine one q fun a ρ1 x F1 H1 F0 H0 ρ0 p o fr post => ?_
  cases e : truth (rs ρ1 a) with
  | none => rw [e] at post; exact post.elim
  | some b =>
    rw [e] at post
    exact ⟨b, by rw [hK]; exact tru_O (o.rv p.st) e, fin_new p post (new_bl _)⟩
end
end Ev
/-! Ev6: rules for expressions: and, or, chains, displays, subscripts, slices, calls of built-ins, methods. -/
namespace Ev
open PySem PySem.Spec PyProof.Rows L2
section
variable {n : Nat} {E : XK} {X : Cx} {Z : Wo} {σ : L2.St} {H : Hp} {α β γ δ : Type}
/-! ### and, or -/
theorem snd_ao1 {op : PySem.BoolOp} {a : Expr} {pos : Pos} {f : Ev → R O} (h : PE X a (LE Z E f)) : PE X (.BoolOp op [a] pos) (LE Z E f) := pe_one h
theorem onB_ok {stop : Bool} {r : R O} {f : Ev → R O} : onB stop r f = r.bind fun o ρ1 => match o with
    | .d (.bl b) => if b = stop then .ok (.d (.bl b)) ρ1 else f ρ1
    | _ => .stuck := rfl
theorem snd_and {a b : Expr} {rest : List Expr} {pos : Pos} {f g : Ev → R O} (ha : PE X a (LE Z E f)) (hb : PE X (.BoolOp .And (b :: rest) pos) (LE Z E g)) :
    PE X (.BoolOp .And (a :: b :: rest) pos) (LE Z E fun ρ => onB false (f ρ) g) := by
  refine peImp (pe_and ha hb) fun σ H Q q => one q fun o ρ1 x F1 H1 F0 H0 ρ0 p oa fr post => ?_
  split at post
  · rename_i b
    refine ⟨b, Rp.inv_bl oa.dp, ?_⟩
    cases b with
    | true => exact ⟨F0, H0, ρ0, F1, ρ1, p, post⟩
    | false => exact fin_new p post (new_bl _)
  · exact post.elim
theorem snd_or {a b : Expr} {rest : List Expr} {pos : Pos} {f g : Ev → R O} (ha : PE X a (LE Z E f)) (hb : PE X (.BoolOp .Or (b :: rest) pos) (LE Z E g)) :
    PE X (.BoolOp .Or (a :: b :: rest) pos) (LE Z E fun ρ => onB true (f ρ) g) := by
  refine peImp (pe_or ha hb) fun σ H Q q => one q fun o ρ1 x F1 H1 F0 H0 ρ0 p oa fr post => ?_
  split at post
  · rename_i b
    refine ⟨b, Rp.inv_bl oa.dp, ?_⟩
    cases b with
    | false => exact ⟨F0, H0, ρ0, F1, ρ1, p, post⟩
    | true => exact fin_new p post (new_bl _)
  · exact post.elim
theorem asT_onB {stop : Bool} {r : R O} {g : Ev → R O} {Q : Bool → Hp → Prop} {F0 : Fz} {H0 : Hp} {ρ0 : Ev} (post : PostG Z E relT σ F0 H0 ρ0 (asT (onB stop r g)) Q) :
    PostG Z E relT σ F0 H0 ρ0 ((asT r).bind fun b ρ1 => if b = stop then .ok b ρ1 else asT (g ρ1)) Q := by
  unfold onB at post
  cases r with
  | ok o ρ1 =>
    simp only [R.bind_ok] at post ⊢
    split at post
    · rename_i b
      rw [asT_bl]
      by_cases e : b = stop
      · rw [if_pos e] at post
        simp only [R.bind_ok]
        rw [if_pos e]
        exact post
      · rw [if_neg e] at post
        simp only [R.bind_ok]
        rw [if_neg e]
        exact post
    · exact post.elim
  | exc c ρ1 => exact post
  | stuck => exact post.elim
theorem snd_andT {a b : Expr} {rest : List Expr} {pos : Pos} {f g : Ev → R O} (ha : PT X a (LT Z E fun ρ => asT (f ρ))) (hb : PW X (.BoolOp .And (b :: rest) pos) (LT Z E fun ρ => asT (g ρ))) :
    PW X (.BoolOp .And (a :: b :: rest) pos) (LT Z E fun ρ => asT (onB false (f ρ) g)) := by
  refine ⟨fun wh pins s σ H Q I q => (pw_and ha hb).run wh pins s σ H Q I ?_⟩
  obtain ⟨F0, H0, ρ0, F, ρ, p, post⟩ := q
  refine run p (asT_onB post) fun c ρ1 c' F1 H1 _ p1 r post => ?_
  obtain rfl : c' = c := r
  cases c' with
  | true =>
    rw [if_pos rfl]
    exact ⟨F0, H0, ρ0, F1, ρ1, p1, post⟩
  | false => exact fin_t p1 post
theorem snd_orT {a b : Expr} {rest : List Expr} {pos : Pos} {f g : Ev → R O} (ha : PT X a (LT Z E fun ρ => asT (f ρ))) (hb : PW X (.BoolOp .Or (b :: rest) pos) (LT Z E fun ρ => asT (g ρ))) :
    PW X (.BoolOp .Or (a :: b :: rest) pos) (LT Z E fun ρ => asT (onB true (f ρ) g)) := by
  refine ⟨fun wh pins s σ H Q I q => (pw_or ha hb).run wh pins s σ H Q I ?_⟩
  obtain ⟨F0, H0, ρ0, F, ρ, p, post⟩ := q
  refine run p (asT_onB post) fun c ρ1 c' F1 H1 _ p1 r post => ?_
  obtain rfl : c' = c := r
  cases c' with
  | false =>
    rw [if_neg Bool.false_ne_true]
    exact ⟨F0, H0, ρ0, F1, ρ1, p1, post⟩
  | true => exact fin_t p1 post
/-! ### chains -/
abbrev chainR (h h' : O → O → Option Bool) (f g k : Ev → R O) (ρ : Ev) : R O := (f ρ).bind fun x ρ1 => (g ρ1).bind fun y ρ2 => R.opt (h (rs ρ2 x) (rs ρ2 y)) fun c =>
  if c = true then (k ρ2).bind fun z ρ3 => okb (h' (rs ρ3 y) (rs ρ3 z)) ρ3 else .ok (.d (.bl false)) ρ2
theorem snd_chain {a b c : Expr} {op op' : CmpOp} {h h' : O → O → Option Bool} {f g k : Ev → R O} {pos : Pos} (ho : OpR X (compareOp op) (rNb Z h)) (ho' : OpR X (compareOp op') (rNb Z h')) (ha : PE X a (LE Z E f)) (hb : PE X b (LE Z E g)) (hc : PE X c (LE Z E k))
    (hm : behindInMarks op b = false) (hm' : behindInMarks op' c = false) :
    PE X (.Compare a [op, op'] [b, c] pos) (LE Z E (chainR h h' f g k)) := by
  refine peImp (pe_chain ho ho' ha hb hc (by exact hm')) fun σ H Q q => two q fun a b ρ2 x y F2 H2 F0 H0 ρ0 p oa ob post => ?_
  cases e : h (rs ρ2 a) (rs ρ2 b) with
  | none => rw [e] at post; exact post.elim
  | some o =>
    rw [e] at post
    refine ⟨F2, _, _, o, oa.rv p.st, ob.rv p.st, e, o, rfl, ?_⟩
    cases o with
    | true =>
      rw [if_pos rfl]
      refine run p post fun z ρ3 w F3 H3 p23 p03 r post => ?_
      unfold okb at post
      cases e : h' (rs ρ3 b) (rs ρ3 z) with
      | none => rw [e] at post; exact post.elim
      | some o =>
        rw [e] at post
        exact ⟨F3, _, _, o, (ob.step p.st p23 fun _ _ z => z).rv p03.st, r.1.rv p03.st, e, fin_new p03 post (new_bl o)⟩
    | false => exact iteF (fin_new p post (new_bl false))
theorem snd_chainT {a b c : Expr} {op op' : CmpOp} {h h' : O → O → Option Bool} {f g k : Ev → R O} {pos : Pos} (ho : OpR X (compareOp op) (rNb Z h)) (ho' : OpR X (compareOp op') (rNb Z h')) (ha : PE X a (LE Z E f)) (hb : PE X b (LE Z E g)) (hc : PE X c (LE Z E k))
    (hm : behindInMarks op b = false) (hm' : behindInMarks op' c = false) :
    PT X (.Compare a [op, op'] [b, c] pos) (LT Z E fun ρ => asT (chainR h h' f g k ρ)) := by
  refine ptImp (pt_chain ho ho' ha hb hc (by exact hm')) fun σ H Q q => ?_
  unfold chainR at q
  simp only [asT_bind] at q
  refine two q fun a b ρ2 x y F2 H2 F0 H0 ρ0 p oa ob post => ?_
  cases e : h (rs ρ2 a) (rs ρ2 b) with
  | none => rw [e] at post; exact post.elim
  | some o =>
    rw [e] at post
    refine ⟨F2, _, _, o, oa.rv p.st, ob.rv p.st, e, o, rfl, ?_⟩
    cases o with
    | true =>
      rw [if_pos rfl]
      simp only [R.opt_some, if_pos, asT_bind] at post
      refine run p post fun z ρ3 w F3 H3 p23 p03 r post => ?_
      unfold okb at post
      cases e : h' (rs ρ3 b) (rs ρ3 z) with
      | none => rw [e] at post; exact post.elim
      | some o =>
        rw [e] at post
        exact ⟨F3, _, _, o, (ob.step p.st p23 fun _ _ z => z).rv p03.st, r.1.rv p03.st, e, o, rfl, fin_t p03 post⟩
    | false => exact iteF ⟨false, rfl, fin_t p post⟩
/-! ### a if t else b -/
theorem snd_ite {c a b : Expr} {pos : Pos} {fc fa fb : Ev → R O} (hc : PT X c (LT Z E fun ρ => asT (fc ρ))) (ha : PE X a (LE Z E fa)) (hb : PE X b (LE Z E fb)) : PE X (.IfExp c a b pos) (LE Z E fun ρ => ifB (asT (fc ρ)) fa fb) := by
  refine peImp (pe_ifExp hc ha hb) fun σ H Q ⟨F0, H0, ρ0, F, ρ, p, post⟩ => ?_
  refine run p post fun k ρ1 k' F1 H1 _ p1 r post => ?_
  obtain rfl : k' = k := r
  cases k' with
  | true =>
    rw [if_pos rfl]
    exact ⟨F0, H0, ρ0, F1, ρ1, p1, post⟩
  | false =>
    rw [if_neg Bool.false_ne_true]
    exact ⟨F0, H0, ρ0, F1, ρ1, p1, post⟩
/-! ### lists of expressions -/
theorem snd_nil : PA X [] (LA Z E fun ρ => .ok [] ρ) := paImp pa_nil fun σ H Q ⟨F0, H0, ρ0, F, ρ, p, post⟩ => post [] F H p rfl
theorem snd_cons {e : Expr} {es : List Expr} {f : Ev → R O} {g : Ev → R (List O)} (h : PE X e (LE Z E f)) (t : PA X es (LA Z E g)) (hs : isStar e = false) :
    PA X (e :: es) (LA Z E fun ρ => (f ρ).bind fun o ρ1 => (g ρ1).bind fun os ρ2 => .ok (o :: os) ρ2) := by
  refine paImp (pa_cons h t (star_cons hs)) fun σ H Q ⟨F0, H0, ρ0, F, ρ, p, post⟩ => ?_
  refine run p post fun o ρ1 v F1 H1 p1 p01 r post => ?_
  refine run p01 post fun os ρ2 vs F2 H2 p12 p02 r2 post => ?_
  have o2 : Out Z F2 H2 σ ρ2 o v := r.1.step p01.st p12 fun _ _ z => z
  exact post (v :: vs) F2 H2 p02 ⟨v, vs, rfl, o2, r.2.back p, fun n a ea => Apart.of_new (new_there r.1 n ea) r2, OutL.back p01 r2⟩
theorem OutL.rvl {F : Fz} {ρ : Ev} {H0 : Hp} (s : Sta Z F H σ ρ) : ∀ {os : List O} {vs : List V}, OutL Z H0 F H σ ρ os vs → RvL Z F H (os.map (rs ρ)) vs
  | [], _, h => h
  | o :: os, _, h => by
    obtain ⟨v, r, rfl, h1, _, _, t⟩ := h
    exact ⟨v, r, rfl, h1.rv s, OutL.rvl s t⟩
/-- all parts -/
theorem many {rel : Rel γ δ} {f : Ev → R (List O)} {k : List O → Ev → R γ} {Q : δ → Hp → Prop} {Q2 : List V → Hp → Prop} (h : LG Z E rel (fun ρ => (f ρ).bind k) σ H Q)
    (i : ∀ os ρ1 vs F1 H1 F0 H0 ρ0, Path Z σ F0 H0 ρ0 σ F1 H1 ρ1 → OutL Z H0 F1 H1 σ ρ1 os vs → PostG Z E rel σ F0 H0 ρ0 (k os ρ1) Q → Q2 vs H1) : LA Z E f σ H Q2 := by
  obtain ⟨F0, H0, ρ0, F, ρ, p, post⟩ := h
  exact run p post fun os ρ1 vs F1 H1 p1 p0 r q => i os ρ1 vs F1 H1 F0 H0 ρ0 p0 (OutL.back p r) q
theorem keeps_len : ∀ {os : List O} {ρ ρ2 : Ev} {xs : List D}, keeps ρ os = some (xs, ρ2) → xs.length = os.length
  | [], ρ, ρ2, xs, h => by
    simp only [keeps, Option.some.injEq, Prod.mk.injEq] at h
    rw [← h.1]; rfl
  | o :: os, ρ, ρ2, xs, h => by
    simp only [keeps] at h
    split at h
    · cases h
    · split at h
      · cases h
      · rename_i e
        simp only [Option.some.injEq, Prod.mk.injEq] at h
        rw [← h.1, List.length_cons, List.length_cons, keeps_len e]
theorem snd_tup {es : List Expr} {f : Ev → R (List O)} {k : Nat} {pos : Pos} (h : PA X es (LA Z E f)) (hl : ∀ ρ os ρ1, f ρ = .ok os ρ1 → os.length ≤ 1000) :
    PE X (.Tuple es k pos) (LE Z E fun ρ => (f ρ).bind fun os ρ1 => R.opt (keeps ρ1 os) fun p => .ok (.d (.tup p.1)) p.2) := by
  refine peImp (pe_tup h) fun σ H Q ⟨F0, H0, ρ0, F, ρ, p, post⟩ => ?_
  refine runE p post fun os ρ1 vs F1 H1 ef p1 p01 r post => ?_
  have hz := hl ρ os ρ1 ef
  have hlen := OutL.len r
  cases ek : keeps ρ1 os with
  | none => rw [ek] at post; exact post.elim
  | some q =>
    obtain ⟨xs, ρ2⟩ := q
    rw [ek] at post
    obtain ⟨F2, p2, rp, _⟩ := keeps_ok p01 (OutL.back p r) ek
    exact ⟨by rw [← hlen, sizeLine_eq]; omega, fun a ha => fin_new p2 post (new_tup ha rp)⟩
theorem snd_lst {es : List Expr} {f : Ev → R (List O)} {pos : Pos} (h : PA X es (LA Z E f)) (hl : ∀ ρ os ρ1, f ρ = .ok os ρ1 → os.length ≤ 1000) :
    PE X (.List es pos) (LE Z E fun ρ => (f ρ).bind fun os ρ1 => R.opt (keeps ρ1 os) fun p => .ok (.L p.1) p.2) := by
  refine peImp (pe_lst h) fun σ H Q ⟨F0, H0, ρ0, F, ρ, p, post⟩ => ?_
  refine runE p post fun os ρ1 vs F1 H1 ef p1 p01 r post => ?_
  have hz := hl ρ os ρ1 ef
  have hlen := OutL.len r
  cases ek : keeps ρ1 os with
  | none => rw [ek] at post; exact post.elim
  | some q =>
    obtain ⟨xs, ρ2⟩ := q
    rw [ek] at post
    obtain ⟨F2, p2, rp, _⟩ := keeps_ok p01 (OutL.back p r) ek
    exact ⟨by rw [← hlen, sizeLine_eq]; omega, fun a ha => fin_new p2 post (new_lst ha rp)⟩
theorem evL_len {T : Top} {C : Calls} : ∀ {es : List Ev.E} {n : Nat} {ρ ρ1 : Ev} {os : List O}, evL T C es n ρ = .ok os ρ1 → os.length = es.length
  | [], n, ρ, ρ1, os, h => by
    simp only [evL, R.ok.injEq] at h
    rw [← h.1]; rfl
  | e :: es, n, ρ, ρ1, os, h => by
    simp only [evL] at h
    cases h1 : evE T C e n ρ with
    | ok o ρ2 =>
      rw [h1] at h
      simp only [R.bind_ok] at h
      cases h2 : evL T C es n ρ2 with
      | ok os' ρ3 =>
        rw [h2] at h
        simp only [R.bind_ok, R.ok.injEq] at h
        rw [← h.1, List.length_cons, List.length_cons, evL_len h2]
      | exc c ρ3 => rw [h2] at h; cases h
      | stuck => rw [h2] at h; cases h
    | exc c ρ2 => rw [h1] at h; cases h
    | stuck => rw [h1] at h; cases h
/-! ### subscripts, slices -/
theorem snd_ix {a b : Expr} {h : O → O → Option D} {f g : Ev → R O} {pos : Pos} (ha : PE X a (LE Z E f)) (hb : PE X b (LE Z E g)) (ho : IxR X (rIxO Z h)) (hs : isSlice b = false) :
    PE X (.Subscript a b pos) (LE Z E fun ρ => (f ρ).bind fun x ρ1 => (g ρ1).bind fun y ρ2 => okd (h (rs ρ2 x) (rs ρ2 y)) ρ2) := by
  refine peImp (pe_ix ho ha hb (plain_ix hs)) fun σ H Q q => two q fun a b ρ2 x y F2 H2 F0 H0 ρ0 p oa ob post => ?_
  unfold okd at post
  cases e : h (rs ρ2 a) (rs ρ2 b) with
  | none => rw [e] at post; exact post.elim
  | some o =>
    rw [e] at post
    exact ⟨F2, _, _, o, oa.rv p.st, ob.rv p.st, e, fun v r => here_d p post r⟩
def relI : Rel (Option Int) (Option Int) := fun _ _ _ _ _ a b => b = a
/-- a slice's bound -/
theorem snd_some {e : Expr} {f : Ev → R O} (h : PE X e (LE Z E f)) : PO X (some e) (fun σ H Q => LG Z E relI (fun ρ => asI (f ρ)) σ H Q) := by
  refine ⟨fun pins s σ H Q I q => (po_some h).run pins s σ H Q I ?_⟩
  refine one q fun a ρ1 x F1 H1 F0 H0 ρ0 p o fr post => ?_
  unfold optInt at post
  split at post
  · exact ⟨_, Rp.inv_int o.dp, post _ F1 H1 p rfl⟩
  · exact post.elim
theorem snd_absent : PO X none (fun σ H Q => LG Z E relI (fun ρ => .ok none ρ) σ H Q) :=
  ⟨fun pins s σ H Q I ⟨F0, H0, ρ0, F, ρ, p, post⟩ => po_none.run pins s σ H Q I (post none F H p rfl)⟩
theorem snd_slice {a : Expr} {lo hi : Option Expr} {f : Ev → R O} {fl fh : Ev → R (Option Int)} {p2 pos : Pos} (hK : X.K = Z.K) (ha : PE X a (LE Z E f)) (hl : PO X lo (fun σ H Q => LG Z E relI fl σ H Q)) (hh : PO X hi (fun σ H Q => LG Z E relI fh σ H Q)) :
    PE X (.Subscript a (.Slice lo hi none p2) pos) (LE Z E fun ρ => (f ρ).bind fun x ρ1 => (fl ρ1).bind fun l ρ2 => (fh ρ2).bind fun h ρ3 => oko (slice (rs ρ3 x) l h) ρ3) := by
  refine peImp (pe_slice (sl_O hK) ha hl hh) fun σ H Q q => one q fun a ρ1 x F1 H1 F0 H0 ρ0 p o fr post => ?_
  refine run p post fun l ρ2 l' F2 H2 p12 p02 r post => ?_
  obtain rfl : l' = l := r
  refine run p02 post fun h ρ3 h' F3 H3 p23 p03 r post => ?_
  obtain rfl : h' = h := r
  have o3 := (o.step p.st p12 fun _ _ z => z).step p02.st p23 fun _ _ z => z
  unfold oko at post
  cases e : slice (rs ρ3 a) l' h' with
  | none => rw [e] at post; exact post.elim
  | some o =>
    rw [e] at post
    exact ⟨F3, _, o, o3.rv p03.st, e, fun v H' nw => fin_new p03 post nw⟩
/-! ### built-ins -/
theorem snd_blt {x : Str} {id : String} {h : List O → Option O} {e : Expr} {es : List Expr} {f : Ev → R (List O)} {p pos : Pos} (hc : CallR X (.builtin id) (rC Z h)) (hg : Gl X x) (hm : X.mg x = none) (hv : bootBuiltins x = some (.builtin id)) (hn : x ≠ "__name__") (hd : (x == ("__debug__" : Str)) = false)
    (ha : PA X (e :: es) (LA Z E f)) (hs : (e :: es).all (fun e => !isStar e) = true) : PE X (.Call (.Name x p) (e :: es) [] pos) (LE Z E fun ρ => (f ρ).bind fun os ρ1 => oko (h (os.map (rs ρ1))) ρ1) := by
  have h1 : isStar e = false ∧ es.all (fun e => !isStar e) = true := by
    simpa only [List.all_cons, Bool.and_eq_true, Bool.not_eq_true'] using hs
  refine peImp (pe_callB hc hg hm hv ha hn hd (star_cons h1.1) (star_none h1.2)) fun σ H Q q => many q fun os ρ1 vs F1 H1 F0 H0 ρ0 p o post => ?_
  unfold oko at post
  cases e : h (os.map (rs ρ1)) with
  | none => rw [e] at post; exact post.elim
  | some z =>
    rw [e] at post
    exact ⟨F1, _, z, OutL.rvl p.st o, e, fun v H' nw => fin_new p post nw⟩
theorem snd_bty {x : Str} {T : String} {h : List O → Option O} {e : Expr} {es : List Expr} {f : Ev → R (List O)} {p pos : Pos} (hc : CallR X (.type T) (rC Z h)) (hg : Gl X x) (hm : X.mg x = none) (hv : bootBuiltins x = some (.type T)) (hn : x ≠ "__name__") (hd : (x == ("__debug__" : Str)) = false)
    (ha : PA X (e :: es) (LA Z E f)) (hs : (e :: es).all (fun e => !isStar e) = true) : PE X (.Call (.Name x p) (e :: es) [] pos) (LE Z E fun ρ => (f ρ).bind fun os ρ1 => oko (h (os.map (rs ρ1))) ρ1) := by
  have h1 : isStar e = false ∧ es.all (fun e => !isStar e) = true := by
    simpa only [List.all_cons, Bool.and_eq_true, Bool.not_eq_true'] using hs
  refine peImp (pe_callTy hc hg hm hv ha hn hd (star_cons h1.1) (star_none h1.2)) fun σ H Q q => many q fun os ρ1 vs F1 H1 F0 H0 ρ0 p o post => ?_
  unfold oko at post
  cases e : h (os.map (rs ρ1)) with
  | none => rw [e] at post; exact post.elim
  | some z =>
    rw [e] at post
    exact ⟨F1, _, z, OutL.rvl p.st o, e, fun v H' nw => fin_new p post nw⟩
/-! ### isinstance -/
def tyN : Ty → String
  | .int => "int" | .bool => "bool" | .str => "str" | .tuple => "tuple" | .list => "list"
theorem sqT_ty {a : Addr} {vs : List V} (h : SqT Z.K H a vs) : TyX Z.K H (.ref a) (.type "tuple") := by
  rcases h with (h | ⟨o, h⟩) | ⟨o, _, _, h, c, _⟩
  · exact .base (.tup h)
  · exact .fTuple h
  · exact .kTuple h c
theorem sqL_ty {a : Addr} {vs : List V} (h : SqL Z.K H a vs) : TyX Z.K H (.ref a) (.type "list") := by
  rcases h with (h | ⟨o, h⟩) | ⟨o, _, _, h, c, _⟩
  · exact .base (.lst h)
  · exact .base (.frz h)
  · exact .kList h c
/-- the type's name, and whether it is one of t -/
theorem isTy_ok {K : PySem.W.Frag} (hK : K = Z.K) {F : Fz} {o : O} {v : V} {t : Ty} {b : Bool} (r : Rv Z F H o v) (e : isTy t o = some b) : ∃ T : String, TyX K H v (.type T) ∧ PySem.W.kitOne K (.type T) (.type (tyN t)) = some b := by
  subst hK
  have kit : ∀ (T : String) (b : Bool), kitB T (tyN t) = some b → PySem.W.kitOne Z.K (.type T) (.type (tyN t)) = some b := fun T b h => kit_ty h
  unfold isTy at e
  split at e
  · rename_i x
    cases x with
    | non =>
      rw [Rp.inv_non r.d]
      refine ⟨_, .base .non, kit _ _ ?_⟩
      cases e
      cases t <;> (dsimp only; decide +kernel)
    | bl y =>
      rw [Rp.inv_bl r.d]
      refine ⟨_, .base (.bl y), kit _ _ ?_⟩
      cases e
      cases t <;> (dsimp only; decide +kernel)
    | int i =>
      rw [Rp.inv_int r.d]
      refine ⟨_, .base (.int i), kit _ _ ?_⟩
      cases e
      cases t <;> (dsimp only; decide +kernel)
    | str k =>
      have r' := r.d
      simp only [Rp] at r'
      obtain ⟨x, _, rfl⟩ := r'
      refine ⟨_, .base (.str x), kit _ _ ?_⟩
      cases e
      cases t <;> (dsimp only; decide +kernel)
    | tup xs =>
      obtain ⟨a, vs, rfl, s, _⟩ := Rp.inv_tup r.d
      refine ⟨_, sqT_ty s, kit _ _ ?_⟩
      cases e
      cases t <;> (dsimp only; decide +kernel)
    | lst xs =>
      obtain ⟨a, vs, rfl, s, _⟩ := Rp.inv_lst r.d
      refine ⟨_, sqL_ty s.sq, kit _ _ ?_⟩
      cases e
      cases t <;> (dsimp only; decide +kernel)
  · cases e
    obtain ⟨a, vs, rfl, s, _⟩ := r.l
    refine ⟨_, sqL_ty (SqL.of s), kit _ _ ?_⟩
    cases t <;> (first | decide +kernel | (dsimp only; decide +kernel))
  · cases e
theorem snd_isi {a : Expr} {f : Ev → R O} {x y : Str} {t : Ty} {p p' pos : Pos} (hK : X.K = Z.K) (ha : PE X a (LE Z E f)) (hg : Gl X x) (hm : X.mg x = none) (hv : bootBuiltins x = some (.builtin "isinstance")) (hn : x ≠ "__name__") (hd : (x == ("__debug__" : Str)) = false)
    (hg' : Gl X y) (hm' : X.mg y = none) (hv' : bootBuiltins y = some (.type (tyN t))) (hn' : y ≠ "__name__") (hd' : (y == ("__debug__" : Str)) = false) (hs : isStar a = false) :
    PE X (.Call (.Name x p) [a, .Name y p'] [] pos) (LE Z E fun ρ => (f ρ).bind fun o ρ1 => okb (isTy t (rs ρ1 o)) ρ1) := by
  have hb : PE X (.Name y p') (tC (.ty (tyN t))) := pe_bltn hg' hm' hv' rfl hn' hd'
  refine peImp (pe_callB call_isi hg hm hv (pa_cons ha (pa_cons hb pa_nil) (star_cons hs)) hn hd (star_cons hs) (by rfl)) fun σ H Q q => one q fun o ρ1 v F1 H1 F0 H0 ρ0 p r fr post => ?_
  unfold okb at post
  cases e : isTy t (rs ρ1 o) with
  | none => rw [e] at post; exact post.elim
  | some b =>
    rw [e] at post
    obtain ⟨T, h1, h2⟩ := isTy_ok hK (r.rv p.st) e
    exact ⟨v, .ty (tyN t), _, _, b, rfl, .ty _, h1, by rw [hK]; exact h2, fin_new p post (new_bl b)⟩
/-! ### methods of a slot's list -/
theorem Sta.ownL {F : Fz} {ρ : Ev} (s : Sta Z F H σ ρ) {i : Nat} {q : Bool} {xs : List D} (e : ρ[i]? = some (some (.L q xs))) : ∃ a vs, σ[i]? = some (some (V.ref a)) ∧ H a = some (.lst vs) ∧ Rps Z F H xs vs := by
  obtain ⟨v, e1, a, vs, rfl, h1, h2, _⟩ := s.rep i _ e
  exact ⟨a, vs, e1, h1, h2⟩
/-- a slot's own list is written -/
theorem set_own {σ0 : L2.St} {F0 F : Fz} {H0 : Hp} {ρ0 ρ : Ev} {i : Nat} {q : Bool} {xs ys : List D} {a : Addr} {ws : List V} (p : Path Z σ0 F0 H0 ρ0 σ F H ρ) (e : ρ[i]? = some (some (.L q xs))) (e2 : σ[i]? = some (some (V.ref a))) (r : Rps Z F H ys ws) :
    Path Z σ0 F0 H0 ρ0 σ F (upd H a (.lst ws)) (ρ.set i (some (.L q ys))) ∧ Rps Z F (upd H a (.lst ws)) ys ws ∧ Up F H F (upd H a (.lst ws)) := by
  have ow : Own σ ρ a := own_of e rfl e2
  obtain ⟨b, vs, e3, h1, h2⟩ := p.st.ownL e
  rw [e2] at e3
  cases (Option.some.inj (Option.some.inj e3))
  have nF := (p.st.kind ow).2
  have u : Up F H F (upd H a (.lst ws)) := ⟨fun c vs q => by
      rw [upd_ne (ne_of q h1 (by intro z; cases z))]; exact q, fun c o w q => by
      rw [upd_ne (ne_of q h1 (by intro z; cases z))]; exact q, fun _ f => f, fun c vs f q => by
      rw [upd_ne (fun z => nF (by rw [← z]; exact f))]; exact q⟩
  have own' : ∀ b, Own σ (ρ.set i (some (.L q ys))) b → Own σ ρ b := fun b ⟨j, w, ej, ho, es⟩ => by
    rcases getset ej with ⟨rfl, z, _⟩ | ⟨hn, z⟩
    · rw [e2] at es
      cases (Option.some.inj (Option.some.inj es))
      exact ow
    · exact own_of z ho es
  have sp : Stp Z (Own σ ρ) F H F (upd H a (.lst ws)) := ⟨fun b o eb n _ => by
      rw [upd_ne (fun z => n (by rw [z]; exact ow))]; exact eb, fun b n => by
      by_cases z : b = a
      · rw [z, upd_same]; exact id
      · rw [upd_ne z]; exact n, fun _ f => f, fun _ f => .inl f⟩
  refine ⟨p.trans ⟨⟨by rw [List.length_set]; exact p.st.len, fun j w ej => ?_, fun j k wj wk b ej ek hj hk sj sk => ?_, ?_, fun b f => sp.there b (p.st.ft b f)⟩, sp, fun b z => .inl (own' b z), fun j w h pw => ?_⟩, r.up u, u⟩
  · rcases getset ej with ⟨rfl, z, _⟩ | ⟨hn, z⟩
    · cases z
      exact ⟨_, e2, a, ws, rfl, upd_same, r.up u, nF⟩
    · obtain ⟨v, e6, r6⟩ := p.st.rep j w z
      refine ⟨v, e6, r6.up u fun b eb ho => ⟨fun o q => ?_, fun f => ?_⟩⟩
      · subst eb
        rw [upd_ne (fun z2 => hn (p.st.inj _ _ _ _ _ z e ho rfl (by rw [← z2]; exact e6) e2))]
        exact q
      · subst eb
        exact (p.st.kind (own_of z ho e6)).2 f
  · have k1 : ∃ wj', ρ[j]? = some (some wj') ∧ isOwn wj' = true := by
      rcases getset ej with ⟨rfl, z, _⟩ | ⟨_, z⟩
      · exact ⟨_, e, rfl⟩
      · exact ⟨_, z, hj⟩
    have k2 : ∃ wk', ρ[k]? = some (some wk') ∧ isOwn wk' = true := by
      rcases getset ek with ⟨rfl, z, _⟩ | ⟨_, z⟩
      · exact ⟨_, e, rfl⟩
      · exact ⟨_, z, hk⟩
    obtain ⟨_, z1, o1⟩ := k1
    obtain ⟨_, z2, o2⟩ := k2
    exact p.st.inj _ _ _ _ _ z1 z2 o1 o2 sj sk
  · intro t ht
    obtain ⟨ps, h1', h2', h3'⟩ := p.st.tabs t ht
    refine ⟨ps, ?_, h2', fun pos cv hc => ?_⟩
    · rw [upd_ne (ne_of h1' h1 (by intro z; cases z))]; exact h1'
    · obtain ⟨c, ec, hcc⟩ := h3' pos cv hc
      refine ⟨c, ec, ?_⟩
      rw [upd_ne (ne_of hcc h1 (by unfold LamX.CodeO; intro z; cases z))]
      exact hcc
  · rcases getset h with ⟨rfl, z, _⟩ | ⟨_, z⟩
    · cases z
      exact ⟨⟨_, e, pw⟩, rfl⟩
    · exact ⟨⟨_, z, pw⟩, rfl⟩
theorem Rps.dropLast {F : Fz} {xs : List D} {vs : List V} (h : Rps Z F H xs vs) : Rps Z F H xs.dropLast vs.dropLast := by
  rw [List.dropLast_eq_take, List.dropLast_eq_take, ← h.len]
  exact h.take _
theorem snd_app {a : Expr} {i : Nat} {x : Str} {f : Ev → R O} {apos cpos p : Pos} (hK : X.K = Z.K) (hv : PE X (.Name x p) (tVar i)) (ha : PE X a (LE Z E f)) (hs : isStar a = false) (hl : (apos.endLine == cpos.line) = true) :
    PE X (.Call (.Attribute (.Name x p) "append" apos) [a] [] cpos) (LE Z E fun ρ => if isL ρ i = true then (f ρ).bind fun x ρ1 => R.opt (keep ρ1 x) fun p => appS i p.1 p.2 else .stuck) := by
  refine peImp (pe_bm PySem.F.plainAttrs_list PySem.F.slot_list_append PySem.F.type_list_append mt_append hv (pa_cons ha pa_nil (star_cons hs)) (by rfl) (by rw [star_cons hs] <;> rfl) hl (star_cons hs) (by rfl)) fun σ H Q ⟨F0, H0, ρ0, F, ρ, p, post⟩ => ?_
  by_cases hi : isL ρ i = true
  · simp only [if_pos hi] at post
    have hq : ∃ q xs, ρ[i]? = some (some (.L q xs)) := by
      unfold isL at hi
      split at hi
      · rename_i q xs e
        exact ⟨q, xs, e⟩
      · cases hi
    obtain ⟨q0, xs0, e0⟩ := hq
    obtain ⟨a0, vs0, es0, eh0, _⟩ := p.st.ownL e0
    refine ⟨.ref a0, es0, .inl ⟨rfl, vs0, by rw [hK]; exact SqL.of eh0⟩, ?_⟩
    refine run p post fun o ρ1 v F1 H1 p1 p01 r post => ?_
    cases ek : keep ρ1 o with
    | none => rw [ek] at post; exact post.elim
    | some z =>
      obtain ⟨y, ρ2⟩ := z
      rw [ek] at post
      obtain ⟨F2, p2, ry, _⟩ := keep_ok p01 r.1 (r.2.back p) ek
      simp only [R.opt_some, appS] at post
      split at post
      · rename_i q xs e2
        obtain ⟨a, vs, es, eh, rx⟩ := p2.st.ownL e2
        rw [es0] at es
        cases (Option.some.inj (Option.some.inj es))
        split at post
        · rename_i hlt
          obtain ⟨p3, _, _⟩ := set_own p2 e2 es0 (rx.append (.cons ry .nil))
          exact ⟨a0, vs, v, rfl, rfl, eh, by rw [← rx.len, sizeLine_eq]; exact hlt, here_d p3 post (by simp only [Rp])⟩
        · exact post.elim
      · exact post.elim
  · simp only [if_neg hi] at post
    exact post.elim
theorem snd_pop {i : Nat} {x : Str} {apos cpos p : Pos} (hK : X.K = Z.K) (hv : PE X (.Name x p) (tVar i)) (hl : (apos.endLine == cpos.line) = true) :
    PE X (.Call (.Attribute (.Name x p) "pop" apos) [] [] cpos) (LE Z E (popS i)) := by
  refine peImp (pe_bm0 PySem.F.plainAttrs_list PySem.F.slot_list_pop PySem.F.type_list_pop mt_pop hv (by rfl) hl) fun σ H Q ⟨F0, H0, ρ0, F, ρ, p, post⟩ => ?_
  unfold popS at post
  split at post
  · rename_i q xs e
    obtain ⟨a, vs, es, eh, rx⟩ := p.st.ownL e
    cases el : xs[xs.length - 1]? with
    | none => rw [el] at post; exact post.elim
    | some d =>
      rw [el] at post
      obtain ⟨v, ev, rv⟩ := rx.get el
      obtain ⟨p3, _, u⟩ := set_own p e es rx.dropLast
      exact ⟨.ref a, es, .inl ⟨rfl, vs, by rw [hK]; exact SqL.of eh⟩, a, vs, v, rfl, rfl, eh, by rw [← rx.len]; exact ev, here_d p3 post (rv.up u)⟩
  · exact post.elim
end
end Ev
/-! Ev7: calls of the law's own defs. -/
namespace Ev
open PySem PySem.Spec PyProof.Rows L2
section
variable {n : Nat} {E : XK} {X : Cx} {Z : Wo} {σ : L2.St} {F : Fz} {H H0 : Hp} {ρ : Ev} {α β γ δ : Type}
theorem mem_walked : ∀ {os : List O} {j s : Nat}, os[j]? = some (.bor s) → s ∈ walked os
  | [], j, s, h => by simp at h
  | o :: os, 0, s, h => by
    have e : o = .bor s := by simpa using h
    rw [e]
    exact List.mem_cons_self
  | o :: os, j + 1, s, h => by
    have ih := mem_walked (os := os) (j := j) (s := s) (by simpa using h)
    cases o with
    | bor i => exact List.mem_cons_of_mem _ ih
    | _ => exact ih
theorem of_walked : ∀ {os : List O} {s : Nat}, s ∈ walked os → ∃ j : Nat, os[j]? = some (.bor s)
  | [], s, h => by cases h
  | o :: os, s, h => by
    cases o with
    | bor i =>
      rcases List.mem_cons.mp h with e | h
      · exact ⟨0, by rw [e]; rfl⟩
      · obtain ⟨j, e⟩ := of_walked h
        exact ⟨j + 1, by simpa using e⟩
    | d x =>
      obtain ⟨j, e⟩ := of_walked (os := os) h
      exact ⟨j + 1, by simpa using e⟩
    | L x =>
      obtain ⟨j, e⟩ := of_walked (os := os) h
      exact ⟨j + 1, by simpa using e⟩
    | M t x =>
      obtain ⟨j, e⟩ := of_walked (os := os) h
      exact ⟨j + 1, by simpa using e⟩
theorem once_tail {o : O} {os : List O} (h : onceEach (walked (o :: os)) = true) : onceEach (walked os) = true := by
  cases o with
  | bor i =>
    simp only [walked, onceEach, Bool.and_eq_true] at h
    exact h.2
  | _ => exact h
theorem once_head {i : Nat} {os : List O} (h : onceEach (walked (.bor i :: os)) = true) : i ∉ walked os := by
  simp only [walked, onceEach, Bool.and_eq_true, Bool.not_eq_true'] at h
  intro z
  have h1 := h.1
  rw [List.contains_eq_mem] at h1
  simp [z] at h1
/-- what a call's argument is -/
def handW (ρ : Ev) (o : O) : Option W := match o with
  | .d x => some (W.d x)
  | .L xs => some (W.L true xs)
  | .M t kvs => some (W.M true t kvs)
  | .bor i => match ρ[i]? with
    | some (some (.L _ xs)) => some (W.L true xs)
    | some (some (.M _ t kvs)) => some (W.M true t kvs)
    | _ => none
theorem handW_isP {o : O} {w : W} (h : handW ρ o = some w) (ow : isOwn w = true) : isP w = true := by
  unfold handW at h
  split at h
  · cases h; cases ow
  · cases h; rfl
  · cases h; rfl
  · split at h
    · cases h; rfl
    · cases h; rfl
    · cases h
theorem handL_cons {o : O} {os : List O} {args : Ev} (h : handL ρ (o :: os) = some args) : ∃ w r, args = some w :: r ∧ handW ρ o = some w ∧ handL ρ os = some r := by
  simp only [handL] at h
  obtain ⟨w, e1, h⟩ := Option.bind_eq_some_iff.mp h
  obtain ⟨r, e2, e3⟩ := Option.map_eq_some_iff.mp h
  refine ⟨w, r, e3.symm, ?_, e2⟩
  unfold handW
  cases o <;> exact e1
theorem handL_len : ∀ {os : List O} {args : Ev}, handL ρ os = some args → args.length = os.length
  | [], args, h => by
    simp only [handL, Option.some.injEq] at h
    rw [← h]; rfl
  | o :: os, args, h => by
    obtain ⟨w, r, rfl, _, h2⟩ := handL_cons h
    rw [List.length_cons, List.length_cons, handL_len h2]
theorem handL_some : ∀ {os : List O} {args : Ev}, handL ρ os = some args → ∀ i : Nat, args[i]? ≠ some none
  | [], args, h, i => by
    simp only [handL, Option.some.injEq] at h
    rw [← h]; simp
  | o :: os, args, h, i => by
    obtain ⟨w, r, rfl, _, h2⟩ := handL_cons h
    cases i with
    | zero => simp
    | succ i => simpa using handL_some h2 i
theorem handL_get : ∀ {os : List O} {args : Ev} {j : Nat} {w : W}, handL ρ os = some args → args[j]? = some (some w) → ∃ o, os[j]? = some o ∧ handW ρ o = some w
  | [], args, j, w, h, e => by
    simp only [handL, Option.some.injEq] at h
    rw [← h] at e
    simp at e
  | o :: os, args, j, w, h, e => by
    obtain ⟨w', r, rfl, h1, h2⟩ := handL_cons h
    cases j with
    | zero =>
      have e2 : w' = w := by simpa using e
      exact ⟨o, rfl, by rw [h1, e2]⟩
    | succ j =>
      obtain ⟨o', e3, h3⟩ := handL_get (j := j) (w := w) h2 (by simpa using e)
      exact ⟨o', by simpa using e3, h3⟩
theorem OutL.get : ∀ {os : List O} {vs : List V} {j : Nat} {o : O}, OutL Z H0 F H σ ρ os vs → os[j]? = some o → ∃ v, vs[j]? = some v ∧ Out Z F H σ ρ o v ∧ Frs H0 o v
  | [], vs, j, o, h, e => by simp at e
  | p :: os, vs, j, o, h, e => by
    obtain ⟨v, r, rfl, h1, h2, _, t⟩ := h
    cases j with
    | zero =>
      have e2 : p = o := by simpa using e
      subst e2
      exact ⟨v, rfl, h1, h2⟩
    | succ j =>
      obtain ⟨w, e3, h3⟩ := OutL.get (j := j) (o := o) t (by simpa using e)
      exact ⟨w, by simpa using e3, h3⟩
theorem Apart.get {a : Addr} : ∀ {os : List O} {vs : List V} {j : Nat} {o : O}, Apart a os vs → os[j]? = some o → isNew o = true → vs[j]? ≠ some (.ref a)
  | [], vs, j, o, h, e, _ => by simp at e
  | p :: os, [], j, o, h, e, _ => by simp
  | p :: os, v :: vs, j, o, h, e, n => by
    cases j with
    | zero =>
      have e2 : p = o := by simpa using e
      subst e2
      intro z
      have z2 : v = .ref a := by simpa using z
      exact h.1 n z2
    | succ j =>
      have := Apart.get (j := j) (o := o) h.2 (by simpa using e) n
      simpa using this
/-- two new ones are not the same -/
theorem OutL.apart : ∀ {os : List O} {vs : List V} {i j : Nat} {o p : O} {a : Addr}, OutL Z H0 F H σ ρ os vs → os[i]? = some o → os[j]? = some p → isNew o = true → isNew p = true → vs[i]? = some (V.ref a) → vs[j]? = some (V.ref a) → i = j
  | [], vs, i, j, o, p, a, h, e1, _, _, _, _, _ => by simp at e1
  | q :: os, vs, i, j, o, p, a, h, e1, e2, n1, n2, v1, v2 => by
    obtain ⟨v, r, rfl, h1, h2, ap, t⟩ := h
    cases i with
    | zero =>
      cases j with
      | zero => rfl
      | succ j =>
        have e3 : q = o := by simpa using e1
        have e4 : v = .ref a := by simpa using v1
        subst e3
        exact absurd (by simpa using v2) ((ap n1 a e4).get (j := j) (o := p) (by simpa using e2) n2)
    | succ i =>
      cases j with
      | zero =>
        have e3 : q = p := by simpa using e2
        have e4 : v = .ref a := by simpa using v2
        subst e3
        exact absurd (by simpa using v1) ((ap n2 a e4).get (j := i) (o := o) (by simpa using e1) n1)
      | succ j =>
        have := OutL.apart (i := i) (j := j) (o := o) (p := p) (a := a) t (by simpa using e1) (by simpa using e2) n1 n2 (by simpa using v1) (by simpa using v2)
        omega
theorem once_ix : ∀ {os : List O} {i j s : Nat}, onceEach (walked os) = true → os[i]? = some (.bor s) → os[j]? = some (.bor s) → i = j
  | [], i, j, s, _, e, _ => by simp at e
  | o :: os, i, j, s, h, e1, e2 => by
    cases i with
    | zero =>
      cases j with
      | zero => rfl
      | succ j =>
        have e3 : o = .bor s := by simpa using e1
        subst e3
        exact absurd (mem_walked (j := j) (by simpa using e2)) (once_head h)
    | succ i =>
      cases j with
      | zero =>
        have e3 : o = .bor s := by simpa using e2
        subst e3
        exact absurd (mem_walked (j := i) (by simpa using e1)) (once_head h)
      | succ j =>
        have := once_ix (once_tail h) (i := i) (j := j) (s := s) (by simpa using e1) (by simpa using e2)
        omega
theorem map_get {vs : List V} {i : Nat} {x : Option V} (h : (vs.map some)[i]? = some x) : ∃ v, vs[i]? = some v ∧ x = some v := by
  rw [List.getElem?_map] at h
  cases e : vs[i]? with
  | none => rw [e] at h; cases h
  | some v =>
    rw [e] at h
    exact ⟨v, rfl, (Option.some.inj h).symm⟩
theorem map_of {vs : List V} {i : Nat} {v : V} (h : vs[i]? = some v) : (vs.map some)[i]? = some (some v) := by rw [List.getElem?_map, h]; rfl
/-- what a handed thing is -/
theorem hand_own {o : O} {w : W} {v : V} {a : Addr} (h : Out Z F H σ ρ o v) (e : handW ρ o = some w) (ow : isOwn w = true) (ev : v = .ref a) :
    (isNew o = true ∧ ¬ Own σ ρ a) ∨ (∃ s, o = .bor s ∧ σ[s]? = some (some (V.ref a)) ∧ Own σ ρ a) := by
  subst ev
  cases o with
  | d x =>
    simp only [handW, Option.some.injEq] at e
    subst e
    cases ow
  | L xs => exact .inl ⟨rfl, Out.newNotOwn h rfl⟩
  | M t kvs => exact .inl ⟨rfl, Out.newNotOwn h rfl⟩
  | bor s =>
    refine .inr ⟨s, rfl, h, ?_⟩
    simp only [handW] at e
    split at e
    · rename_i q xs e2
      exact own_of e2 rfl h
    · rename_i q t xs e2
      exact own_of e2 rfl h
    · cases e
theorem hand_rep {o : O} {w : W} {v : V} (s : Sta Z F H σ ρ) (h : Out Z F H σ ρ o v) (e : handW ρ o = some w) : RpW Z F H w v := by
  cases o with
  | d x =>
    simp only [handW, Option.some.injEq] at e
    subst e
    exact h
  | L xs =>
    simp only [handW, Option.some.injEq] at e
    subst e
    obtain ⟨a, vs, rfl, h1, h2, h3, _⟩ := h
    exact ⟨a, vs, rfl, h1, h2, h3⟩
  | M t kvs =>
    simp only [handW, Option.some.injEq] at e
    subst e
    obtain ⟨a, rfl, h1, h3, _⟩ := h
    exact ⟨a, rfl, h1, h3⟩
  | bor i =>
    have hs : σ[i]? = some (some v) := h
    simp only [handW] at e
    split at e
    · rename_i q xs e2
      cases e
      obtain ⟨v', e3, r⟩ := s.rep i _ e2
      rw [hs] at e3
      have e4 := Option.some.inj (Option.some.inj e3)
      subst e4
      exact r
    · rename_i q t xs e2
      cases e
      obtain ⟨v', e3, r⟩ := s.rep i _ e2
      rw [hs] at e3
      have e4 := Option.some.inj (Option.some.inj e3)
      subst e4
      exact r
    · cases e
theorem hand_ok {os : List O} {vs : List V} {args : Ev} (s : Sta Z F H σ ρ) (h : OutL Z H0 F H σ ρ os vs) (o : onceEach (walked os) = true) (e : handL ρ os = some args) :
    Sta Z F H (vs.map some) args ∧ (∀ a, Own (vs.map some) args a → (NoO (H0 a) ∧ ¬ Own σ ρ a) ∨ Own σ ρ a) := by
  have len := handL_len e
  have len2 := OutL.len h
  have key : ∀ (i : Nat) (w : W), args[i]? = some (some w) → ∃ p v, os[i]? = some p ∧ handW ρ p = some w ∧ vs[i]? = some v ∧ Out Z F H σ ρ p v ∧ Frs H0 p v := fun i w ei => by
    obtain ⟨p, e1, e2⟩ := handL_get e ei
    obtain ⟨v, e3, e4, e5⟩ := OutL.get h e1
    exact ⟨p, v, e1, e2, e3, e4, e5⟩
  refine ⟨⟨by rw [List.length_map, len, len2], fun i w ei => ?_, fun i j wi wj a ei ej hi hj si sj => ?_, s.tabs, s.ft⟩, fun a ⟨i, w, ei, hi, si⟩ => ?_⟩
  · obtain ⟨p, v, e1, e2, e3, e4, _⟩ := key i w ei
    exact ⟨v, map_of e3, hand_rep s e4 e2⟩
  · obtain ⟨p, v, e1, e2, e3, e4, _⟩ := key i wi ei
    obtain ⟨p', v', e1', e2', e3', e4', _⟩ := key j wj ej
    obtain ⟨u, eu, z⟩ := map_get si
    obtain ⟨u', eu', z'⟩ := map_get sj
    cases z
    cases z'
    rw [e3] at eu
    rw [e3'] at eu'
    cases eu
    cases eu'
    rcases hand_own e4 e2 hi rfl with ⟨n1, o1⟩ | ⟨t, rfl, q1, o1⟩
    · rcases hand_own e4' e2' hj rfl with ⟨n2, o2⟩ | ⟨t', rfl, q2, o2⟩
      · exact OutL.apart h e1 e1' n1 n2 e3 e3'
      · exact absurd o2 o1
    · rcases hand_own e4' e2' hj rfl with ⟨n2, o2⟩ | ⟨t', rfl, q2, o2⟩
      · exact absurd o1 o2
      · have : t = t' := by
          obtain ⟨x, wx, a1, a2, a3⟩ := o1
          have hw : ∀ t, (∃ w, handW ρ (.bor t) = some w ∧ isOwn w = true) → ∃ w', ρ[t]? = some (some w') ∧ isOwn w' = true := fun t ⟨w, hw, how⟩ => by
            simp only [handW] at hw
            split at hw
            · rename_i e; exact ⟨_, e, rfl⟩
            · rename_i e; exact ⟨_, e, rfl⟩
            · cases hw
          obtain ⟨w1, b1, c1⟩ := hw t ⟨_, e2, hi⟩
          obtain ⟨w2, b2, c2⟩ := hw t' ⟨_, e2', hj⟩
          exact s.inj _ _ _ _ _ b1 b2 c1 c2 q1 q2
        subst this
        exact once_ix o e1 e1'
  · obtain ⟨p, v, e1, e2, e3, e4, e5⟩ := key i w ei
    obtain ⟨u, eu, z⟩ := map_get si
    cases z
    rw [e3] at eu
    cases eu
    rcases hand_own e4 e2 hi rfl with ⟨n1, o1⟩ | ⟨t, rfl, q1, o1⟩
    · exact .inl ⟨e5 n1 a rfl, o1⟩
    · exact .inr o1
/-- the slots behind the call -/
theorem handB_ok : ∀ {os : List O} {r ρ ρ2 : Ev}, handB ρ os r = some ρ2 → onceEach (walked os) = true → ρ2.length = ρ.length ∧ (∀ s : Nat, s ∉ walked os → ρ2[s]? = ρ[s]?) ∧
    ∀ (j s : Nat), os[j]? = some (O.bor s) → (∃ p xs0 xs, ρ[s]? = some (some (W.L p xs0)) ∧ r[j]? = some (some (W.L true xs)) ∧ ρ2[s]? = some (some (W.L p xs))) ∨
      (∃ p t k0 k, ρ[s]? = some (some (W.M p t k0)) ∧ r[j]? = some (some (W.M true t k)) ∧ ρ2[s]? = some (some (W.M p t k)))
  | [], r, ρ, ρ2, h, _ => by
    simp only [handB, Option.some.injEq] at h
    subst h
    exact ⟨rfl, fun _ _ => rfl, fun j s e => by simp at e⟩
  | o :: os, r, ρ, ρ2, h, on => by
    have tl := once_tail on
    cases o with
    | bor i =>
      cases r with
      | nil => simp only [handB] at h; cases h
      | cons a r =>
        have nh := once_head on
        simp only [handB] at h
        have fin : ∀ w : Option W, ρ[i]? ≠ none → handB (ρ.set i w) os r = some ρ2 → ρ2.length = ρ.length ∧ (∀ s : Nat, s ∉ i :: walked os → ρ2[s]? = ρ[s]?) ∧ ρ2[i]? = some w ∧
            ∀ (j s : Nat), os[j]? = some (O.bor s) → (∃ p xs0 xs, ρ[s]? = some (some (W.L p xs0)) ∧ r[j]? = some (some (W.L true xs)) ∧ ρ2[s]? = some (some (W.L p xs))) ∨
              (∃ p t k0 k, ρ[s]? = some (some (W.M p t k0)) ∧ r[j]? = some (some (W.M true t k)) ∧ ρ2[s]? = some (some (W.M p t k))) := fun w hi hb => by
          obtain ⟨h1, h2, h3⟩ := handB_ok hb tl
          have hlt : i < ρ.length := by
            cases q : ρ[i]? with
            | none => exact absurd q hi
            | some x => exact (List.getElem?_eq_some_iff.mp q).1
          refine ⟨by rw [h1, List.length_set], fun s hs => ?_, ?_, fun j s e => ?_⟩
          · simp only [List.mem_cons, not_or] at hs
            rw [h2 s hs.2, List.getElem?_set_ne (Ne.symm hs.1)]
          · rw [h2 i nh, List.getElem?_set_self hlt]
          · have hne : s ≠ i := fun z => nh (by rw [← z]; exact mem_walked e)
            have := h3 j s e
            rw [List.getElem?_set_ne (Ne.symm hne)] at this
            exact this
        split at h
        · rename_i p xs0 xs e1
          obtain ⟨h1, h2, h3, h4⟩ := fin _ (by rw [e1]; simp) h
          refine ⟨h1, h2, fun j s e => ?_⟩
          cases j with
          | zero =>
            have e2 : i = s := by
              have : O.bor i = .bor s := by simpa using e
              injection this
            subst e2
            exact .inl ⟨p, xs0, xs, e1, by simp, h3⟩
          | succ j => simpa using h4 j s (by simpa using e)
        · rename_i p t k0 t' k e1
          split at h
          · rename_i ht
            have ht : t = t' := by simpa using ht
            subst ht
            obtain ⟨h1, h2, h3, h4⟩ := fin _ (by rw [e1]; simp) h
            refine ⟨h1, h2, fun j s e => ?_⟩
            cases j with
            | zero =>
              have e2 : i = s := by
                have : O.bor i = .bor s := by simpa using e
                injection this
              subst e2
              exact .inr ⟨p, t, k0, k, e1, by simp, h3⟩
            | succ j => simpa using h4 j s (by simpa using e)
          · cases h
        · cases h
    | d x =>
      cases r with
      | nil => simp only [handB] at h; cases h
      | cons a r =>
        simp only [handB] at h
        obtain ⟨h1, h2, h3⟩ := handB_ok h tl
        refine ⟨h1, h2, fun j s e => ?_⟩
        cases j with
        | zero => simp at e
        | succ j => simpa using h3 j s (by simpa using e)
    | L x =>
      cases r with
      | nil => simp only [handB] at h; cases h
      | cons a r =>
        simp only [handB] at h
        obtain ⟨h1, h2, h3⟩ := handB_ok h tl
        refine ⟨h1, h2, fun j s e => ?_⟩
        cases j with
        | zero => simp at e
        | succ j => simpa using h3 j s (by simpa using e)
    | M t x =>
      cases r with
      | nil => simp only [handB] at h; cases h
      | cons a r =>
        simp only [handB] at h
        obtain ⟨h1, h2, h3⟩ := handB_ok h tl
        refine ⟨h1, h2, fun j s e => ?_⟩
        cases j with
        | zero => simp at e
        | succ j => simpa using h3 j s (by simpa using e)
/-- behind a call: the caller's state -/
theorem back_ok {σ0 : L2.St} {F0 F' : Fz} {H' : Hp} {ρ0 ρ2 r args : Ev} {os : List O} {vs : List V} (p : Path Z σ0 F0 H0 ρ0 σ F H ρ) (h : OutL Z H0 F H σ ρ os vs) (o : onceEach (walked os) = true) (e : handL ρ os = some args)
    (q : Path Z (vs.map some) F H args (vs.map some) F' H' r) (e2 : handB ρ os r = some ρ2) : Path Z σ0 F0 H0 ρ0 σ F' H' ρ2 ∧ ∀ b, Own σ ρ2 b → Own σ ρ b := by
  obtain ⟨sA, oA⟩ := hand_ok p.st h o e
  obtain ⟨b1, b2, b3⟩ := handB_ok e2 o
  have u : Up F H F' H' := sA.up q.sp
  have own' : ∀ b, Own σ ρ2 b → Own σ ρ b := fun b ⟨i, w, ei, hi, si⟩ => by
    by_cases hw : i ∈ walked os
    · obtain ⟨j, ej⟩ := of_walked hw
      rcases b3 j i ej with ⟨p, xs0, xs, c1, _, _⟩ | ⟨p, t, k0, k, c1, _, _⟩
      · exact own_of c1 rfl si
      · exact own_of c1 rfl si
    · rw [b2 i hw] at ei
      exact own_of ei hi si
  refine ⟨⟨⟨by rw [b1]; exact p.st.len, fun i w ei => ?_, fun i j wi wj a ei ej hi hj si sj => ?_, q.st.tabs, q.st.ft⟩, p.sp.trans q.sp fun x ox => ?_, fun b ob => p.sub b (own' b ob), p.pp.trans fun i w ei pw => ?_⟩, own'⟩
  · by_cases hw : i ∈ walked os
    · obtain ⟨j, ej⟩ := of_walked hw
      obtain ⟨v, ev, ov, _⟩ := OutL.get h ej
      have sv : σ[i]? = some (some v) := ov
      rcases b3 j i ej with ⟨p, xs0, xs, c1, c2, c3⟩ | ⟨p, t, k0, k, c1, c2, c3⟩
      · rw [c3] at ei
        cases ei
        obtain ⟨v', ev', rv⟩ := q.st.rep j _ c2
        obtain ⟨v2, ev2, z⟩ := map_get ev'
        cases z
        rw [ev] at ev2
        cases ev2
        exact ⟨v, sv, rv⟩
      · rw [c3] at ei
        cases ei
        obtain ⟨v', ev', rv⟩ := q.st.rep j _ c2
        obtain ⟨v2, ev2, z⟩ := map_get ev'
        cases z
        rw [ev] at ev2
        cases ev2
        exact ⟨v, sv, rv⟩
    · rw [b2 i hw] at ei
      obtain ⟨v, sv, rv⟩ := p.st.rep i w ei
      refine ⟨v, sv, rv.up u fun a ea ho => ?_⟩
      subst ea
      have ow : Own σ ρ a := own_of ei ho sv
      have nA : ¬ Own (vs.map some) args a := fun z => by
        rcases oA a z with ⟨_, z⟩ | _
        · exact z ow
        · obtain ⟨j, w', aj, hj, sj⟩ := z
          obtain ⟨o', f1, f2⟩ := handL_get e aj
          obtain ⟨v', g1, g2, _⟩ := OutL.get h f1
          obtain ⟨v2, k1, k2⟩ := map_get sj
          cases k2
          rw [g1] at k1
          cases k1
          rcases hand_own g2 f2 hj rfl with ⟨_, n⟩ | ⟨s, rfl, m1, _⟩
          · exact n ow
          · have hs : ∃ w', ρ[s]? = some (some w') ∧ isOwn w' = true := by
              simp only [handW] at f2
              split at f2
              · rename_i e; exact ⟨_, e, rfl⟩
              · rename_i e; exact ⟨_, e, rfl⟩
              · cases f2
            obtain ⟨w3, m2, m3⟩ := hs
            have : i = s := p.st.inj _ _ _ _ _ ei m2 ho m3 sv m1
            subst this
            exact hw (mem_walked f1)
      have hk := p.st.kind ow
      refine ⟨fun o eo => q.sp.keep a o eo nA fun ps z => ?_, fun z => ?_⟩
      · subst z
        rcases hk.1 with ⟨_, y⟩ | ⟨_, y⟩ | ⟨_, y⟩ <;> · rw [eo] at y; cases y
      · rcases q.sp.fout a z with y | y | y
        · exact hk.2 y
        · rcases hk.1 with ⟨_, x⟩ | ⟨_, x⟩ | ⟨_, x⟩ <;> · rw [x] at y; cases y
        · exact nA y
  · have k : ∀ (i : Nat) (w : W), ρ2[i]? = some (some w) → isOwn w = true → ∃ w', ρ[i]? = some (some w') ∧ isOwn w' = true := fun i w ei hi => by
      by_cases hw : i ∈ walked os
      · obtain ⟨j, ej⟩ := of_walked hw
        rcases b3 j i ej with ⟨p, xs0, xs, c1, _, _⟩ | ⟨p, t, k0, k, c1, _, _⟩
        · exact ⟨_, c1, rfl⟩
        · exact ⟨_, c1, rfl⟩
      · rw [b2 i hw] at ei
        exact ⟨_, ei, hi⟩
    obtain ⟨_, z1, o1⟩ := k i wi ei hi
    obtain ⟨_, z2, o2⟩ := k j wj ej hj
    exact p.st.inj _ _ _ _ _ z1 z2 o1 o2 si sj
  · rcases oA x ox with ⟨z, _⟩ | z
    · exact .inr z
    · exact p.sub x z
  · by_cases hw : i ∈ walked os
    · obtain ⟨j, ej⟩ := of_walked hw
      rcases b3 j i ej with ⟨p, xs0, xs, c1, c2, c3⟩ | ⟨p, t, k0, k, c1, c2, c3⟩
      · rw [c3] at ei
        cases ei
        exact ⟨⟨_, c1, pw⟩, rfl⟩
      · rw [c3] at ei
        cases ei
        exact ⟨⟨_, c1, pw⟩, rfl⟩
    · rw [b2 i hw] at ei
      exact ⟨⟨_, ei, pw⟩, rfl⟩
end
section
variable {n : Nat} {E : XK} {X : Cx} {Y : Gw} {σ : L2.St} {H : Hp}
/-- what the call wants of its def -/
theorem call_sp {f : Nat} {F F0 : Fz} {H0 : Hp} {ρ0 ρ : Ev} {os : List O} {vs : List V} {Q : VK} (p : Path Y.Z σ F0 H0 ρ0 σ F H ρ) (h : OutL Y.Z H0 F H σ ρ os vs) (har : vs.length = Y.ar f)
    (post : PostG Y.Z E (relE Y.Z) σ F0 H0 ρ0 (callF Y.C n f os ρ) Q) : spF Y n f vs H Q E := by
  unfold callF at post
  split at post
  · rename_i o
    cases e : handL ρ os with
    | none => rw [e] at post; exact post.elim
    | some args =>
      rw [e] at post
      simp only [R.opt_some] at post
      obtain ⟨sA, oA⟩ := hand_ok p.st h o e
      refine ⟨F, args, har, by rw [handL_len e, OutL.len h], handL_some e, fun j w ej ow => by
        obtain ⟨o', _, e2⟩ := handL_get e ej
        exact handW_isP e2 ow, sA, ?_⟩
      cases ec : Y.C n f args with
      | stuck => rw [ec] at post; exact post.elim
      | ok z r =>
        rw [ec] at post
        simp only at post
        split at post
        · exact post.elim
        · rename_i nb
          cases e2 : handB ρ os r with
          | none => rw [e2] at post; exact post.elim
          | some ρ2 =>
            rw [e2] at post
            intro v F' H' q rel
            obtain ⟨p2, own'⟩ := back_ok p h o e q e2
            refine post v F' H' p2 ⟨?_, rel.2.back p⟩
            have ot := rel.1
            have fr := rel.2
            cases z with
            | d x => exact ot
            | L xs =>
              obtain ⟨a, ws, rfl, h1, h2, h3, _⟩ := ot
              refine ⟨a, ws, rfl, h1, h2, h3, fun z => ?_⟩
              have e0 := fr rfl a rfl
              rcases (p.st.kind (own' a z)).1 with ⟨_, y⟩ | ⟨_, y⟩ | ⟨_, y⟩ <;> · rw [y] at e0; exact e0.elim
            | M t kvs =>
              obtain ⟨a, rfl, h1, h3, _⟩ := ot
              refine ⟨a, rfl, h1, h3, fun z => ?_⟩
              have e0 := fr rfl a rfl
              rcases (p.st.kind (own' a z)).1 with ⟨_, y⟩ | ⟨_, y⟩ | ⟨_, y⟩ <;> · rw [y] at e0; exact e0.elim
            | bor i => exact absurd rfl nb
      | exc c r =>
        rw [ec] at post
        simp only at post
        cases e2 : handB ρ os r with
        | none => rw [e2] at post; exact post.elim
        | some ρ2 =>
          rw [e2] at post
          intro F' H' q
          obtain ⟨p2, _⟩ := back_ok p h o e q e2
          exact post F' H' p2
  · exact post.elim
/-- f(..) -/
theorem snd_call {c : Cs} {f : Nat} {x : Str} {e : Expr} {es : List Expr} {g : Ev → R (List O)} {p pos : Pos} (G : Good Y n c E X) (K : Fok Y n) (hf : Y.nm.fns[f]? = some x) (hg : Gl X x) (hd : (x == ("__debug__" : Str)) = false)
    (ha : PA X (e :: es) (LA Y.Z E g)) (hs : (e :: es).all (fun e => !isStar e) = true) (har : ∀ ρ os ρ1, g ρ = .ok os ρ1 → os.length = Y.ar f) : PE X (.Call (.Name x p) (e :: es) [] pos) (LE Y.Z E fun ρ => (g ρ).bind fun os ρ1 => callF Y.C n f os ρ1) := by
  obtain ⟨a, fd, ps, hm, hk, hb, FO⟩ := K.fn f x hf
  have FO := FO n (Nat.le_refl _)
  rw [← G.prog, ← G.w, ← G.K, ← G.mg, ← G.base] at FO
  rw [← G.mg] at hm
  rw [← G.K] at hk hb
  have red : ∀ σ H Q, LE Y.Z E (fun ρ => (g ρ).bind fun os ρ1 => callF Y.C n f os ρ1) σ H Q → LA Y.Z E g σ H fun vs H1 => spF Y n f (vs ++ []) H1 Q E := fun σ H Q ⟨F0, H0, ρ0, F, ρ, p, post⟩ => by
    refine runE p post fun os ρ1 vs F1 H1 eg p1 p01 r post => ?_
    rw [List.append_nil]
    exact call_sp p01 (OutL.back p r) (by rw [← OutL.len r]; exact har ρ os ρ1 eg) post
  have h1 : isStar e = false ∧ es.all (fun e => !isStar e) = true := by
    simpa only [List.all_cons, Bool.and_eq_true, Bool.not_eq_true'] using hs
  exact peImp (pe_call FO G.room hg hm hk hb .nil G.pass ha hd (star_cons h1.1) (star_none h1.2)) fun σ H Q q => red σ H Q q
end
end Ev
/-! Ev8: what is walked; targets; slots forgotten. -/
namespace Ev
open PySem PySem.Spec PyProof.Rows L2
mutual
theorem D.beq_eq : ∀ {x y : D}, D.beq x y = true → x = y
  | .non, y, h => by cases y <;> first | rfl | (simp only [D.beq] at h; cases h)
  | .bl a, y, h => by cases y <;> first | (simp only [D.beq, beq_iff_eq] at h; rw [h]) | (simp only [D.beq] at h; cases h)
  | .int a, y, h => by cases y <;> first | (simp only [D.beq, beq_iff_eq] at h; rw [h]) | (simp only [D.beq] at h; cases h)
  | .str a, y, h => by cases y <;> first | (simp only [D.beq, beq_iff_eq] at h; rw [h]) | (simp only [D.beq] at h; cases h)
  | .tup xs, y, h => by
    cases y with
    | tup ys =>
      simp only [D.beq] at h
      rw [D.beqs_eq h]
    | _ => simp only [D.beq] at h; cases h
  | .lst xs, y, h => by
    cases y with
    | lst ys =>
      simp only [D.beq] at h
      rw [D.beqs_eq h]
    | _ => simp only [D.beq] at h; cases h
theorem D.beqs_eq : ∀ {xs ys : List D}, D.beqs xs ys = true → xs = ys
  | [], ys, h => by cases ys <;> first | rfl | (simp only [D.beqs] at h; cases h)
  | x :: xs, ys, h => by
    cases ys with
    | nil => simp only [D.beqs] at h; cases h
    | cons y ys =>
      simp only [D.beqs, Bool.and_eq_true] at h
      rw [D.beq_eq h.1, D.beqs_eq h.2]
end
section
variable {n : Nat} {E : XK} {X : Cx} {Z : Wo} {σ σ' σ1 σ2 : L2.St} {F F' F1 : Fz} {H H' H1 H0 : Hp} {ρ ρ' ρ1 : Ev} {α β γ δ : Type}
theorem stands_get : ∀ {ws : List Nat} {i : Nat}, stands ρ ρ' ws = true → i ∈ ws → ∃ p q xs, ρ[i]? = some (some (W.L p xs)) ∧ ρ'[i]? = some (some (W.L q xs))
  | [], i, _, h => by cases h
  | j :: ws, i, h, m => by
    simp only [stands, Bool.and_eq_true] at h
    rcases List.mem_cons.mp m with e | m
    · subst e
      have h1 := h.1
      split at h1
      · rename_i p xs q ys e1 e2
        exact ⟨p, q, xs, e1, by rw [e2, D.beqs_eq h1]⟩
      · cases h1
    · exact stands_get h.2 m
theorem stands_mem : ∀ {ws vs : List Nat}, stands ρ ρ' ws = true → (∀ i ∈ vs, i ∈ ws) → stands ρ ρ' vs = true
  | ws, [], _, _ => rfl
  | ws, i :: vs, h, m => by
    obtain ⟨p, q, xs, e1, e2⟩ := stands_get h (m i List.mem_cons_self)
    have r : D.beqs xs xs = true := beqs_refl xs
    simp only [stands, e1, e2, r, Bool.true_and]
    exact stands_mem h fun j hj => m j (List.mem_cons_of_mem _ hj)
where
  beq_refl : ∀ x : D, D.beq x x = true
    | .non => rfl
    | .bl _ => by simp [D.beq]
    | .int _ => by simp [D.beq]
    | .str _ => by simp [D.beq]
    | .tup xs => by simp only [D.beq]; exact beqs_refl xs
    | .lst xs => by simp only [D.beq]; exact beqs_refl xs
  beqs_refl : ∀ xs : List D, D.beqs xs xs = true
    | [] => rfl
    | x :: xs => by simp only [D.beqs, beq_refl x, beqs_refl xs, Bool.and_self]
/-! ### what is walked -/
/-- the items, as long as St stands -/
structure Iw (Z : Wo) (J : It) (xs : List D) (St : Fz → Hp → Prop) : Prop where
  go : ∀ (i : Nat) F H, St F H → i < xs.length → J.go i H
  stop : ∀ F H, St F H → J.stop xs.length H
  yld : ∀ (i : Nat) x F H v H', St F H → xs[i]? = some x → J.yld i H v H' → Same H H' ∧ Rp Z F H' x v
/-- later: what data lean on is there, and what was new then -/
structure Later (Z : Wo) (H0 : Hp) (σ : L2.St) (F : Fz) (H : Hp) (ρ : Ev) (σ' : L2.St) (F' : Fz) (H' : Hp) (ρ' : Ev) : Prop where
  st : Sta Z F' H' σ' ρ'
  up : Up F H F' H'
  new : ∀ b o, NoO (H0 b) → H b = some o → ¬ Own σ ρ b → (∀ ps, o ≠ .tbl ps) → H' b = some o
theorem Path.later (s : Sta Z F H σ ρ) (p : Path Z σ F H ρ σ' F' H' ρ') : Later Z H0 σ F H ρ σ' F' H' ρ' := ⟨p.st, s.up p.sp, fun b o _ e n t => p.sp.keep b o e n t⟩
def relJ (Z : Wo) : Rel (List D × List Nat) It := fun σ H0 F H ρ p J => ∃ St, Iw Z J p.1 St ∧
  ∀ σ' F' H' ρ', Later Z H0 σ F H ρ σ' F' H' ρ' → (∀ i ∈ p.2, σ'[i]? = σ[i]?) → stands ρ ρ' p.2 = true → St F' H'
abbrev LI (Z : Wo) (E : XK) (f : Ev → R (List D × List Nat)) : TI := fun σ H R => LG Z E (relJ Z) f σ H R
/-- a walked value stays -/
theorem stays {o : O} {v : V} {xs : List D} (p : Later Z H0 σ F H ρ σ' F' H' ρ') (h : Out Z F H σ ρ o v) (fr : Frs H0 o v) (e : items (rs ρ o) = some xs) (hw : ∀ i ∈ walked [o], σ'[i]? = σ[i]?) (st : stands ρ ρ' (walked [o]) = true) :
    ∃ a vs, v = .ref a ∧ (if isT (rs ρ o) = true then SqT Z.K H' a vs else SqL Z.K H' a vs) ∧ Rps Z F' H' xs vs := by
  have u := p.up
  cases o with
  | d x =>
    have hx : Rp Z F H x v := h
    cases x with
    | tup ys =>
      simp only [rs, items, Option.some.injEq] at e
      subst e
      obtain ⟨a, vs, rfl, q, r⟩ := Rp.inv_tup hx
      exact ⟨a, vs, rfl, by simpa only [rs, isT, if_true] using u.sqT q, r.up u⟩
    | lst ys =>
      simp only [rs, items, Option.some.injEq] at e
      subst e
      obtain ⟨a, vs, rfl, q, r⟩ := Rp.inv_lst hx
      exact ⟨a, vs, rfl, by simpa only [rs, isT, Bool.false_eq_true, if_false] using (u.sl q).sq, r.up u⟩
    | _ => simp [rs, items] at e
  | L ys =>
    simp only [rs, items, Option.some.injEq] at e
    subst e
    obtain ⟨a, vs, rfl, q, r, h3, h4⟩ := h
    exact ⟨a, vs, rfl, by simpa only [rs, isT, Bool.false_eq_true, if_false] using SqL.of (p.new a _ (fr rfl a rfl) q h4 fun _ z => by cases z), r.up u⟩
  | M t kvs => simp [rs, items] at e
  | bor i =>
    have hs : σ[i]? = some (some v) := h
    obtain ⟨q1, q2, ys, e1, e2⟩ := stands_get st (show i ∈ walked [O.bor i] from List.mem_cons_self)
    have er : rs ρ (.bor i) = .L ys := by simp only [rs, e1]
    rw [er] at e ⊢
    simp only [items, Option.some.injEq] at e
    subst e
    obtain ⟨a, vs, es, eh, r⟩ := p.st.ownL e2
    rw [hw i List.mem_cons_self, hs] at es
    cases (Option.some.inj (Option.some.inj es))
    exact ⟨a, vs, rfl, by simpa only [isT, Bool.false_eq_true, if_false] using SqL.of eh, r⟩
theorem iw_list {a : Addr} {xs : List D} : Iw Z (Itl Z.K a) xs (fun F H => ∃ vs, SqL Z.K H a vs ∧ Rps Z F H xs vs) := by
  refine ⟨fun i F H ⟨vs, q, r⟩ hi => ?_, fun F H ⟨vs, q, r⟩ => ⟨vs, q, by rw [r.len]; exact Nat.le_refl _⟩, fun i x F H v H' ⟨vs, q, r⟩ e y => ?_⟩
  · rw [r.len] at hi
    exact ⟨vs, vs[i], q, by simp [hi]⟩
  · obtain ⟨rfl, y⟩ := y
    obtain ⟨w, ew, rw'⟩ := r.get e
    rw [y vs q] at ew
    cases ew
    exact ⟨.refl _, rw'⟩
theorem iw_tup {a : Addr} {xs : List D} : Iw Z (Itt Z.K a) xs (fun F H => ∃ vs, SqT Z.K H a vs ∧ Rps Z F H xs vs) := by
  refine ⟨fun i F H ⟨vs, q, r⟩ hi => ?_, fun F H ⟨vs, q, r⟩ => ⟨vs, q, by rw [r.len]; exact Nat.le_refl _⟩, fun i x F H v H' ⟨vs, q, r⟩ e y => ?_⟩
  · rw [r.len] at hi
    exact ⟨vs, vs[i], q, by simp [hi]⟩
  · obtain ⟨rfl, y⟩ := y
    obtain ⟨w, ew, rw'⟩ := r.get e
    rw [y vs q] at ew
    cases ew
    exact ⟨.refl _, rw'⟩
theorem iw_range {lo hi : Int} : Iw Z (Itr lo (hi - lo).toNat) (upTo lo hi) (fun _ _ => True) := by
  have hl : (upTo lo hi).length = (hi - lo).toNat := by simp [upTo]
  refine ⟨fun i F H _ h => by rw [hl] at h; exact h, fun F H _ => by rw [hl]; exact Nat.le_refl _, fun i x F H v H' _ e y => ?_⟩
  obtain ⟨rfl, rfl⟩ := y
  have hi' : i < (upTo lo hi).length := (List.getElem?_eq_some_iff.mp e).1
  rw [hl] at hi'
  simp only [upTo, List.getElem?_map, List.getElem?_range hi', Option.map_some, Option.some.injEq] at e
  subst e
  exact ⟨.refl _, by simp only [Rp]⟩
theorem enum_get : ∀ {xs : List D} {k i : Nat} {x : D}, (enumFrom k xs)[i]? = some x → ∃ y, xs[i]? = some y ∧ x = .tup [.int ((k + i : Nat) : Int), y]
  | [], k, i, x, h => by simp [enumFrom] at h
  | y :: r, k, 0, x, h => by
    simp only [enumFrom, List.getElem?_cons_zero, Option.some.injEq] at h
    exact ⟨y, rfl, by rw [← h]; rfl⟩
  | y :: r, k, i + 1, x, h => by
    simp only [enumFrom, List.getElem?_cons_succ] at h
    obtain ⟨z, e1, e2⟩ := enum_get h
    exact ⟨z, by simpa using e1, by rw [e2]; congr 3; congr 1; omega⟩
theorem enum_len : ∀ {xs : List D} {k : Nat}, (enumFrom k xs).length = xs.length
  | [], k => rfl
  | y :: r, k => by simp only [enumFrom, List.length_cons, enum_len]
theorem rp_pair {T : Addr} {x y : D} {v w : V} (hT : H T = none) (hx : Rp Z F H x v) (hy : Rp Z F H y w) : Same H (upd H T (.tup [v, w])) ∧ Rp Z F (upd H T (.tup [v, w])) (.tup [x, y]) (.ref T) := by
  have sm : Same H (upd H T (.tup [v, w])) := fun b o e => by
    rw [upd_ne (fun z => by rw [z, hT] at e; cases e)]; exact e
  refine ⟨sm, ?_⟩
  simp only [Rp]
  exact ⟨T, _, rfl, .inl (.inl upd_same), .cons (hx.up (.of_same sm)) (.cons (hy.up (.of_same sm)) .nil)⟩
theorem iw_enum {a : Addr} {xs : List D} : Iw Z (Ite Z.K a) (enumFrom 0 xs) (fun F H => ∃ vs, SqL Z.K H a vs ∧ Rps Z F H xs vs) := by
  refine ⟨fun i F H ⟨vs, q, r⟩ hi => ?_, fun F H ⟨vs, q, r⟩ => ⟨vs, q, by rw [enum_len, r.len]; exact Nat.le_refl _⟩, fun i x F H v H' ⟨vs, q, r⟩ e y => ?_⟩
  · rw [enum_len, r.len] at hi
    exact ⟨vs, vs[i], q, by simp [hi]⟩
  · obtain ⟨T, w, rfl, hT, rfl, y⟩ := y
    obtain ⟨z, e1, rfl⟩ := enum_get e
    obtain ⟨w', ew, rw'⟩ := r.get e1
    rw [y vs q] at ew
    cases ew
    exact rp_pair hT (by simp only [Rp, Nat.zero_add]) rw'
theorem zip_get {xs ys : List D} {i : Nat} {x : D} (h : ((xs.zip ys).map fun p => D.tup [p.1, p.2])[i]? = some x) : ∃ a b, xs[i]? = some a ∧ ys[i]? = some b ∧ x = .tup [a, b] := by
  rw [List.getElem?_map] at h
  obtain ⟨p, e, rfl⟩ := Option.map_eq_some_iff.mp h
  have e2 := List.getElem?_zip_eq_some.mp e
  exact ⟨p.1, p.2, e2.1, e2.2, rfl⟩
theorem iw_zip {a b : Addr} {xs ys : List D} : Iw Z (Itz Z.K a b) ((xs.zip ys).map fun p => .tup [p.1, p.2]) (fun F H => (∃ vs, SqL Z.K H a vs ∧ Rps Z F H xs vs) ∧ ∃ vs, SqL Z.K H b vs ∧ Rps Z F H ys vs) := by
  refine ⟨fun i F H ⟨⟨vs, q, r⟩, ⟨ws, q2, r2⟩⟩ hi => ?_, fun F H ⟨⟨vs, q, r⟩, ⟨ws, q2, r2⟩⟩ => ⟨vs, ws, q, q2, ?_⟩, fun i x F H v H' ⟨⟨vs, q, r⟩, ⟨ws, q2, r2⟩⟩ e y => ?_⟩
  · rw [List.length_map, List.length_zip, r.len, r2.len] at hi
    exact ⟨vs, ws, vs[i]'(by omega), ws[i]'(by omega), q, q2, by simp, by simp⟩
  · rw [List.length_map, List.length_zip, r.len, r2.len]
    omega
  · obtain ⟨T, w, w2, rfl, hT, rfl, y1, y2⟩ := y
    obtain ⟨a, b, e1, e2, rfl⟩ := zip_get e
    obtain ⟨w', ew, rw1⟩ := r.get e1
    rw [y1 vs q] at ew
    cases ew
    obtain ⟨w', ew, rw2⟩ := r2.get e2
    rw [y2 ws q2] at ew
    cases ew
    exact rp_pair hT rw1 rw2
theorem iw_zipT {a b : Addr} {xs ys : List D} : Iw Z (RZ.ItzT Z.K a b) ((xs.zip ys).map fun p => .tup [p.1, p.2]) (fun F H => (∃ vs, SqT Z.K H a vs ∧ Rps Z F H xs vs) ∧ ∃ vs, SqT Z.K H b vs ∧ Rps Z F H ys vs) := by
  refine ⟨fun i F H ⟨⟨vs, q, r⟩, ⟨ws, q2, r2⟩⟩ hi => ?_, fun F H ⟨⟨vs, q, r⟩, ⟨ws, q2, r2⟩⟩ => ⟨vs, ws, q, q2, ?_⟩, fun i x F H v H' ⟨⟨vs, q, r⟩, ⟨ws, q2, r2⟩⟩ e y => ?_⟩
  · rw [List.length_map, List.length_zip, r.len, r2.len] at hi
    exact ⟨vs, ws, vs[i]'(by omega), ws[i]'(by omega), q, q2, by simp, by simp⟩
  · rw [List.length_map, List.length_zip, r.len, r2.len]
    omega
  · obtain ⟨T, w, w2, rfl, hT, rfl, y1, y2⟩ := y
    obtain ⟨a, b, e1, e2, rfl⟩ := zip_get e
    obtain ⟨w', ew, rw1⟩ := r.get e1
    rw [y1 vs q] at ew
    cases ew
    obtain ⟨w', ew, rw2⟩ := r2.get e2
    rw [y2 ws q2] at ew
    cases ew
    exact rp_pair hT rw1 rw2

/-! ### the sources -/
theorem isT_eq {o : O} (h : isT o = true) : ∃ xs, o = .d (.tup xs) := by
  unfold isT at h
  split at h
  · exact ⟨_, rfl⟩
  · cases h
/-- what an iteration wants of one value -/
theorem snd_seq {tg e : Expr} {f : Ev → R O} (hK : X.K = Z.K) (h : PE X e (LE Z E f)) :
    PI X tg e (LI Z E fun ρ => (f ρ).bind fun o ρ1 => R.opt (walk .seq [rs ρ1 o]) fun xs => .ok (xs, walked [o]) ρ1) := by
  refine ⟨fun pins s σ H R I ⟨F0, H0, ρ0, F, ρ, p, post⟩ => ?_⟩
  by_cases b : ∃ o ρ1, f ρ = .ok o ρ1 ∧ isT (rs ρ1 o) = true
  · obtain ⟨o, ρ1, e1, e2⟩ := b
    refine (pi_tup h).run pins s σ H R I (runE p post fun o' ρ1' v F1 H1 e1' p1 p01 r post => ?_)
    rw [e1] at e1'
    cases e1'
    cases ew : walk .seq [rs ρ1 o] with
    | none => rw [ew] at post; exact post.elim
    | some xs =>
      rw [ew] at post
      have ei : items (rs ρ1 o) = some xs := ew
      have key := fun σ' F' H' ρ' q hw st => stays (σ' := σ') (F' := F') (H' := H') (ρ' := ρ') q r.1 (r.2.back p) ei hw st
      obtain ⟨a, vs, rfl, q1, q2⟩ : ∃ a vs, v = .ref a ∧ SqT Z.K H1 a vs ∧ Rps Z F1 H1 xs vs := by
        obtain ⟨ys, ey⟩ := isT_eq e2
        have rv := r.1.rv p01.st
        rw [ey] at rv ei
        cases ei
        exact Rp.inv_tup rv
      rw [hK]
      refine ⟨a, rfl, ⟨vs, q1⟩, post _ F1 H1 p01 ⟨_, iw_tup, fun σ' F' H' ρ' q hw st => ?_⟩⟩
      obtain ⟨a', vs', e', h1, h2⟩ := key σ' F' H' ρ' q hw st
      cases e'
      rw [if_pos e2] at h1
      exact ⟨vs', h1, h2⟩
  · refine (pi_list h).run pins s σ H R I (runE p post fun o ρ1 v F1 H1 e1 p1 p01 r post => ?_)
    have e2 : isT (rs ρ1 o) = false := by
      cases q : isT (rs ρ1 o) with
      | false => rfl
      | true => exact absurd ⟨o, ρ1, e1, q⟩ b
    cases ew : walk .seq [rs ρ1 o] with
    | none => rw [ew] at post; exact post.elim
    | some xs =>
      rw [ew] at post
      have ei : items (rs ρ1 o) = some xs := ew
      have key := fun σ' F' H' ρ' q hw st => stays (σ' := σ') (F' := F') (H' := H') (ρ' := ρ') q r.1 (r.2.back p) ei hw st
      obtain ⟨a, vs, rfl, q1, q2⟩ := seq_now p01.st r.1 ei e2
      rw [hK]
      refine ⟨a, rfl, ⟨vs, q1⟩, post _ F1 H1 p01 ⟨_, iw_list, fun σ' F' H' ρ' q hw st => ?_⟩⟩
      obtain ⟨a', vs', e', h1, h2⟩ := key σ' F' H' ρ' q hw st
      cases e'
      rw [if_neg (by rw [e2]; decide)] at h1
      exact ⟨vs', h1, h2⟩
where
  seq_now {o : O} {v : V} {xs : List D} {F : Fz} {H : Hp} {ρ : Ev} {σ : L2.St} (s : Sta Z F H σ ρ) (h : Out Z F H σ ρ o v) (e : items (rs ρ o) = some xs) (b : isT (rs ρ o) = false) : ∃ a vs, v = .ref a ∧ SqL Z.K H a vs ∧ Rps Z F H xs vs := by
    have rv := h.rv s
    generalize rs ρ o = z at e b rv
    unfold items at e
    split at e
    · cases b
    · cases e
      obtain ⟨a, vs, rfl, q, r⟩ := Rp.inv_lst (Rv.d rv)
      exact ⟨a, vs, rfl, q.sq, r⟩
    · cases e
      obtain ⟨a, vs, rfl, q, r⟩ := Rv.l rv
      exact ⟨a, vs, rfl, SqL.of q, r⟩
    · cases e
/-- range(..) -/
theorem snd_range {tg : Expr} {e : Expr} {es : List Expr} {g : Ev → R (List O)} {p pos : Pos} (hl : ∀ ρ os ρ1, g ρ = .ok os ρ1 → os.length = (e :: es).length) (hg : Gl X "range") (hm : X.mg "range" = none) (ha : PA X (e :: es) (LA Z E g)) (hs : (e :: es).all (fun e => !isStar e) = true) (h2 : es.length ≤ 1) :
    PI X tg (.Call (.Name "range" p) (e :: es) [] pos) (LI Z E fun ρ => iterF .rng (g ρ)) := by
  have h1 : isStar e = false ∧ es.all (fun e => !isStar e) = true := by
    simpa only [List.all_cons, Bool.and_eq_true, Bool.not_eq_true'] using hs
  cases es with
  | nil =>
    refine ⟨fun pins s σ H R I ⟨F0, H0, ρ0, F, ρ, p, post⟩ => (pi_range1 hg hm ha (star_cons h1.1)).run pins s σ H R I (runE p post fun os ρ1 vs F1 H1 e1 p1 p01 r post => ?_)⟩
    have hl := hl _ _ _ e1
    match os, hl with
    | [o], _ =>
      obtain ⟨v, w, rfl, ov, _, _, t⟩ := r
      obtain rfl : w = [] := t
      cases ew : walk .rng ([o].map (rs ρ1)) with
      | none => rw [ew] at post; exact post.elim
      | some xs =>
        rw [ew] at post
        simp only [List.map_cons, List.map_nil] at ew
        have rv := ov.rv p01.st
        generalize rs ρ1 o = z at ew rv
        unfold walk at ew
        split at ew <;> try (cases ew)
        · rename_i hk _; cases hk
        · rename_i n hk he
          cases he
          split at ew
          · rename_i hr
            cases ew
            simp only [inR, Bool.and_eq_true, decide_eq_true_eq] at hr
            have : v = .int n := Rp.inv_int (Rv.d rv)
            refine ⟨n, by rw [this], hr.1, hr.2, post _ F1 H1 p01 ⟨_, ?_, fun _ _ _ _ _ _ _ => trivial⟩⟩
            have := iw_range (Z := Z) (lo := 0) (hi := n)
            rwa [Int.sub_zero] at this
          · cases ew
        · rename_i he; cases he
        · rename_i he; cases he
        · rename_i hk _; cases hk
        · rename_i he; cases he
  | cons e2 es =>
    obtain rfl : es = [] := by simpa using h2
    have h3 : isStar e2 = false := by simpa using h1.2
    refine ⟨fun pins s σ H R I ⟨F0, H0, ρ0, F, ρ, p, post⟩ => (pi_range2 hg hm ha (by rw [star_cons h1.1, star_cons h3]; rfl) (star_cons h3)).run pins s σ H R I (runE p post fun os ρ1 vs F1 H1 e1 p1 p01 r post => ?_)⟩
    have hl := hl _ _ _ e1
    match os, hl with
    | [o, o2], _ =>
      obtain ⟨v, w, rfl, ov, _, _, t⟩ := r
      obtain ⟨v2, w, rfl, ov2, _, _, t⟩ := t
      obtain rfl : w = [] := t
      cases ew : walk .rng ([o, o2].map (rs ρ1)) with
      | none => rw [ew] at post; exact post.elim
      | some xs =>
        rw [ew] at post
        simp only [List.map_cons, List.map_nil] at ew
        have rv := ov.rv p01.st
        have rv2 := ov2.rv p01.st
        generalize rs ρ1 o = z at ew rv
        generalize rs ρ1 o2 = z2 at ew rv2
        unfold walk at ew
        split at ew <;> try (cases ew)
        · rename_i he; cases he
        · rename_i he; cases he
        · rename_i a b hk he
          cases he
          split at ew
          · rename_i hr
            cases ew
            simp only [inR, Bool.and_eq_true, decide_eq_true_eq] at hr
            have t1 : v = .int a := Rp.inv_int (Rv.d rv)
            have t2 : v2 = .int b := Rp.inv_int (Rv.d rv2)
            exact ⟨a, b, by rw [t1, t2], ⟨hr.1.1, hr.1.2, hr.2.1, hr.2.2⟩, post _ F1 H1 p01 ⟨_, iw_range, fun _ _ _ _ _ _ _ => trivial⟩⟩
          · cases ew
        · rename_i he; cases he
        · rename_i he; cases he
        · rename_i hk _; cases hk
/-- a list, a tuple, as it stands now -/
theorem now_at {o : O} {v : V} {xs : List D} (s : Sta Z F H σ ρ) (h : Out Z F H σ ρ o v) (e : items (rs ρ o) = some xs) : ∃ a vs, v = .ref a ∧ (if isT (rs ρ o) = true then SqT Z.K H a vs else SqL Z.K H a vs) ∧ Rps Z F H xs vs := by
  cases q : isT (rs ρ o) with
  | true =>
    obtain ⟨ys, ey⟩ := isT_eq q
    have rv := h.rv s
    rw [ey] at rv e
    cases e
    obtain ⟨a, vs, e1, e2, e3⟩ := Rp.inv_tup (Rv.d rv)
    exact ⟨a, vs, e1, by rw [if_pos rfl]; exact e2, e3⟩
  | false =>
    obtain ⟨a, vs, e1, e2, e3⟩ := snd_seq.seq_now s h e q
    exact ⟨a, vs, e1, by rw [if_neg (by decide)]; exact e2, e3⟩
theorem itemsL_items {o : O} {xs : List D} (h : itemsL o = some xs) : items o = some xs ∧ isT o = false := by
  unfold itemsL at h
  split at h
  · cases h; exact ⟨rfl, rfl⟩
  · cases h; exact ⟨rfl, rfl⟩
  · cases h
theorem snd_enum {e : Expr} {elts : List Expr} {kk : Nat} {g : Ev → R (List O)} {p pos tpos : Pos} (hK : X.K = Z.K) (hl : ∀ ρ os ρ1, g ρ = .ok os ρ1 → os.length = 1) (hg : Gl X "enumerate") (hm : X.mg "enumerate" = none) (ha : PA X [e] (LA Z E g)) (hs : isStar e = false) :
    PI X (.Tuple elts kk tpos) (.Call (.Name "enumerate" p) [e] [] pos) (LI Z E fun ρ => iterF .enum (g ρ)) := by
  refine ⟨fun pins s σ H R I ⟨F0, H0, ρ0, F, ρ, p, post⟩ => (pi_enum hg hm ha (star_cons hs)).run pins s σ H R I (runE p post fun os ρ1 vs F1 H1 e1 p1 p01 r post => ?_)⟩
  have hl := hl _ _ _ e1
  match os, hl with
  | [o], _ =>
    obtain ⟨v, w, rfl, ov, of, _, t⟩ := r
    obtain rfl : w = [] := t
    cases ew : itemsL (rs ρ1 o) with
    | none =>
      have e2 : walk .enum ([o].map (rs ρ1)) = none := by
        show (itemsL (rs ρ1 o)).map _ = none
        rw [ew]; rfl
      rw [e2] at post
      exact post.elim
    | some xs =>
      have e2 : walk .enum ([o].map (rs ρ1)) = some (enumFrom 0 xs) := by
        show (itemsL (rs ρ1 o)).map _ = _
        rw [ew]; rfl
      rw [e2] at post
      obtain ⟨ei, et⟩ := itemsL_items ew
      have key := fun σ' F' H' ρ' q hw st => stays (σ' := σ') (F' := F') (H' := H') (ρ' := ρ') q ov (of.back p) ei hw st
      obtain ⟨a, ws, rfl, q1, q2⟩ := now_at p01.st ov ei
      rw [if_neg (by rw [et]; decide)] at q1
      rw [hK]
      refine ⟨a, ws, rfl, q1, post _ F1 H1 p01 ⟨_, iw_enum, fun σ' F' H' ρ' q hw st => ?_⟩⟩
      obtain ⟨a', vs', e', h1, h2⟩ := key σ' F' H' ρ' q hw st
      cases e'
      rw [if_neg (by rw [et]; decide)] at h1
      exact ⟨vs', h1, h2⟩
theorem walked_cons (o : O) (os : List O) : walked (o :: os) = walked [o] ++ walked os := by cases o <;> rfl
theorem snd_zip {e e2 : Expr} {elts : List Expr} {kk : Nat} {g : Ev → R (List O)} {p pos tpos : Pos} (hK : X.K = Z.K) (hl : ∀ ρ os ρ1, g ρ = .ok os ρ1 → os.length = 2) (hg : Gl X "zip") (hm : X.mg "zip" = none) (ha : PA X [e, e2] (LA Z E g)) (hs : isStar e = false) (hs2 : isStar e2 = false) :
    PI X (.Tuple elts kk tpos) (.Call (.Name "zip" p) [e, e2] [] pos) (LI Z E fun ρ => iterF .zip (g ρ)) := by
  refine ⟨fun pins s σ H R I ⟨F0, H0, ρ0, F, ρ, p, post⟩ => (RZ.pi_zipA hg hm ha (star_cons hs) (by rw [star_cons hs2]; rfl)).run pins s σ H R I (runE p post fun os ρ1 vs F1 H1 e1 p1 p01 r post => ?_)⟩
  have hl := hl _ _ _ e1
  match os, hl with
  | [o, o2], _ =>
    obtain ⟨v, w, rfl, ov, of, _, t⟩ := r
    obtain ⟨v2, w, rfl, ov2, of2, _, t⟩ := t
    obtain rfl : w = [] := t
    have ew : walk .zip ([o, o2].map (rs ρ1)) = if isT (rs ρ1 o) = isT (rs ρ1 o2) then (match items (rs ρ1 o), items (rs ρ1 o2) with
      | some xs, some ys => some ((xs.zip ys).map fun p => .tup [p.1, p.2])
      | _, _ => none) else none := rfl
    rw [ew] at post
    split at post
    · rename_i hT
      cases ei : items (rs ρ1 o) with
      | none => rw [ei] at post; exact post.elim
      | some xs =>
        cases ei2 : items (rs ρ1 o2) with
        | none => rw [ei, ei2] at post; exact post.elim
        | some ys =>
          rw [ei, ei2] at post
          have hm1 : ∀ i ∈ walked [o], i ∈ walked [o, o2] := fun i h => by rw [walked_cons]; exact List.mem_append_left _ h
          have hm2 : ∀ i ∈ walked [o2], i ∈ walked [o, o2] := fun i h => by rw [walked_cons]; exact List.mem_append_right _ h
          have key := fun σ' F' H' ρ' q (hw : ∀ i ∈ walked [o, o2], σ'[i]? = σ[i]?) st => stays (σ' := σ') (F' := F') (H' := H') (ρ' := ρ') q ov (of.back p) ei (fun i h => hw i (hm1 i h)) (stands_mem st hm1)
          have key2 := fun σ' F' H' ρ' q (hw : ∀ i ∈ walked [o, o2], σ'[i]? = σ[i]?) st => stays (σ' := σ') (F' := F') (H' := H') (ρ' := ρ') q ov2 (of2.back p) ei2 (fun i h => hw i (hm2 i h)) (stands_mem st hm2)
          obtain ⟨a, ws, rfl, q1, q2⟩ := now_at p01.st ov ei
          obtain ⟨b, ws2, rfl, q3, q4⟩ := now_at p01.st ov2 ei2
          rw [hK]
          refine ⟨a, b, ws, ws2, rfl, ?_⟩
          cases b1 : isT (rs ρ1 o) with
          | true =>
            have b2 : isT (rs ρ1 o2) = true := by rw [← hT, b1]
            rw [if_pos b1] at q1
            rw [if_pos b2] at q3
            refine .inr ⟨q1, q3, post _ F1 H1 p01 ⟨_, iw_zipT, fun σ' F' H' ρ' q hw st => ?_⟩⟩
            obtain ⟨a', vs', e', h1, h2⟩ := key σ' F' H' ρ' q hw st
            cases e'
            obtain ⟨a', vs2', e', h3, h4⟩ := key2 σ' F' H' ρ' q hw st
            cases e'
            rw [if_pos b1] at h1
            rw [if_pos b2] at h3
            exact ⟨⟨vs', h1, h2⟩, vs2', h3, h4⟩
          | false =>
            have b2 : isT (rs ρ1 o2) = false := by rw [← hT, b1]
            rw [if_neg (by rw [b1]; decide)] at q1
            rw [if_neg (by rw [b2]; decide)] at q3
            refine .inl ⟨q1, q3, post _ F1 H1 p01 ⟨_, iw_zip, fun σ' F' H' ρ' q hw st => ?_⟩⟩
            obtain ⟨a', vs', e', h1, h2⟩ := key σ' F' H' ρ' q hw st
            cases e'
            obtain ⟨a', vs2', e', h3, h4⟩ := key2 σ' F' H' ρ' q hw st
            cases e'
            rw [if_neg (by rw [b1]; decide)] at h1
            rw [if_neg (by rw [b2]; decide)] at h3
            exact ⟨⟨vs', h1, h2⟩, vs2', h3, h4⟩
    · exact post.elim
end
end Ev
/-! Ev9: targets; slots forgotten and put back; the list comprehension. -/
namespace Ev
open PySem PySem.Spec PyProof.Rows L2
section
variable {n : Nat} {E : XK} {X : Cx} {Z : Wo} {σ σ' σ0 σ1 σ2 : L2.St} {F F' F0 F1 F2 : Fz} {H H' H1 H0 H2 : Hp} {ρ ρ' ρ0 ρ1 ρ2 : Ev} {α β γ δ : Type}
/-! ### targets -/
/-- a slot takes data -/
theorem put_d {i : Nat} {x : D} {v : V} (s : Sta Z F H σ ρ) (r : Rp Z F H x v) : Path Z σ F H ρ (σ.set i (some v)) F H (ρ.set i (some (.d x))) := by
  refine ⟨⟨by rw [List.length_set, List.length_set]; exact s.len, fun j w ej => ?_, fun j k wj wk a ej ek hj hk sj sk => ?_, s.tabs, s.ft⟩, .refl, fun b ⟨j, w, ej, ho, es⟩ => .inl ?_, fun j w h pw => ?_⟩
  · rcases getset ej with ⟨rfl, z, hl⟩ | ⟨hn, z⟩
    · cases z
      rw [s.len] at hl
      exact ⟨v, List.getElem?_set_self hl, r⟩
    · rw [List.getElem?_set_ne (Ne.symm hn)]
      exact s.rep j w z
  · rcases getset ej with ⟨rfl, z, _⟩ | ⟨n1, z⟩
    · cases z; cases hj
    · rcases getset ek with ⟨rfl, z2, _⟩ | ⟨n2, z2⟩
      · cases z2; cases hk
      · rw [List.getElem?_set_ne (Ne.symm n1)] at sj
        rw [List.getElem?_set_ne (Ne.symm n2)] at sk
        exact s.inj _ _ _ _ _ z z2 hj hk sj sk
  · rcases getset ej with ⟨rfl, z, _⟩ | ⟨n1, z⟩
    · cases z; cases ho
    · rw [List.getElem?_set_ne (Ne.symm n1)] at es
      exact own_of z ho es
  · rcases getset h with ⟨rfl, z, _⟩ | ⟨n1, z⟩
    · cases z; cases pw
    · exact ⟨⟨_, z, pw⟩, by rw [List.getElem?_set_ne (Ne.symm n1)]⟩
/-- what a target wants -/
def LGt (Z : Wo) (t : Tg) : TG := fun v σ H Q => ∃ F ρ x ρ', Sta Z F H σ ρ ∧ Rp Z F H x v ∧ bindT t x ρ = some ρ' ∧ ∀ σ', Path Z σ F H ρ σ' F H ρ' → (∀ i, i ∉ slots t → σ'[i]? = σ[i]?) → σ'.length = σ.length → Q σ' H
def LGts (Z : Wo) (ts : List Tg) : TGs := fun vs σ H Q => ∃ F ρ xs ρ', Sta Z F H σ ρ ∧ Rps Z F H xs vs ∧ bindTs ts xs ρ = some ρ' ∧ ∀ σ', Path Z σ F H ρ σ' F H ρ' → (∀ i, i ∉ slotss ts → σ'[i]? = σ[i]?) → σ'.length = σ.length → Q σ' H
theorem pgImp {e : Expr} {t t' : TG} (h : PG X e t) (i : ∀ v σ H Q, t' v σ H Q → t v σ H Q) : PG X e t' := ⟨fun pins s σ H v u Q I r q => h.run pins s σ H v u Q I r (i v σ H Q q)⟩
theorem pgsImp {e : List Expr} {t t' : TGs} (h : PGs X e t) (i : ∀ v σ H Q, t' v σ H Q → t v σ H Q) : PGs X e t' := ⟨fun pins s σ H v u Q I r q => h.run pins s σ H v u Q I r (i v σ H Q q)⟩
theorem snd_nm {e : Expr} {i : Nat} (h : PG X e (gName i)) : PG X e (LGt Z (.nm i)) := by
  refine pgImp h fun v σ H Q ⟨F, ρ, x, ρ', s, r, e, q⟩ => ?_
  simp only [bindT, store] at e
  split at e
  · cases e
    refine q _ (put_d s r) (fun j hj => ?_) (by rw [List.length_set])
    have : i ≠ j := fun z => hj (by rw [z]; simp only [slots, List.mem_singleton])
    rw [List.getElem?_set_ne this]
  · cases e
theorem snd_tnil : PGs X [] (LGts Z []) := by
  refine pgsImp pgs_nil fun v σ H Q ⟨F, ρ, xs, ρ', s, r, e, q⟩ => ?_
  cases xs with
  | nil =>
    simp only [bindTs, Option.some.injEq] at e
    subst e
    exact ⟨r.inv0, q σ (.refl s) (fun _ _ => rfl) rfl⟩
  | cons x xs => simp [bindTs] at e
theorem snd_tcons {e : Expr} {es : List Expr} {t : Tg} {ts : List Tg} (h : PG X e (LGt Z t)) (h2 : PGs X es (LGts Z ts)) (hs : (assignEach (e :: es) X.env).map (·.2) = PySem.assign e X.env :: (assignEach es X.env).map (·.2)) : PGs X (e :: es) (LGts Z (t :: ts)) := by
  refine pgsImp (pgs_cons h h2 hs) fun v σ H Q ⟨F, ρ, xs, ρ', s, r, e, q⟩ => ?_
  cases xs with
  | nil => simp [bindTs] at e
  | cons x xs =>
    simp only [bindTs] at e
    obtain ⟨ρ1, e1, e2⟩ := Option.bind_eq_some_iff.mp e
    obtain ⟨w, vs, rfl, r1, r2⟩ := r.inv
    refine ⟨w, vs, rfl, F, ρ, x, ρ1, s, r1, e1, fun σ1 p1 k1 l1 => ⟨F, ρ1, xs, ρ', p1.st, r2, e2, fun σ2 p2 k2 l2 => q σ2 (p1.trans p2) (fun i hi => ?_) (l2.trans l1)⟩⟩
    simp only [slotss, List.mem_append, not_or] at hi
    rw [k2 i hi.2, k1 i hi.1]
theorem bindTs_len : ∀ {ts : List Tg} {xs : List D} {ρ ρ' : Ev}, bindTs ts xs ρ = some ρ' → xs.length = ts.length
  | [], xs, ρ, ρ', h => by
    cases xs with
    | nil => rfl
    | cons x xs => simp [bindTs] at h
  | t :: ts, xs, ρ, ρ', h => by
    cases xs with
    | nil => simp [bindTs] at h
    | cons x xs =>
      simp only [bindTs] at h
      obtain ⟨ρ1, e1, e2⟩ := Option.bind_eq_some_iff.mp h
      rw [List.length_cons, List.length_cons, bindTs_len e2]
theorem snd_tp {es : List Expr} {ts : List Tg} {k : Nat} {pos : Pos} (hK : X.K = Z.K) (hc : X.calm = true) (h : PGs X es (LGts Z ts)) (hn : (assignEach es X.env).length = ts.length) (hst : (assignEach es X.env).findIdx? (·.1) = none) :
    PG X (.Tuple es k pos) (LGt Z (.tp ts)) := by
  refine pgImp (pg_tup hc h hn hst) fun v σ H Q ⟨F, ρ, x, ρ', s, r, e, q⟩ => ?_
  cases x with
  | tup xs =>
    simp only [bindT] at e
    obtain ⟨a, vs, rfl, sq, rs'⟩ := Rp.inv_tup r
    exact ⟨a, vs, rfl, by rw [hK]; exact sq, by rw [← rs'.len]; exact bindTs_len e, F, ρ, xs, ρ', s, rs', e, q⟩
  | _ => simp [bindT] at e
/-! ### slots forgotten, put back -/
theorem wipeE_len : ∀ (own : List Nat) (ρ : Ev), (wipe ρ own).length = ρ.length
  | [], _ => rfl
  | i :: own, ρ => by simp only [wipe, List.length_set, wipeE_len own]
theorem wipeE_in : ∀ {own : List Nat} {ρ : Ev} {i : Nat} {w : W}, (wipe ρ own)[i]? = some (some w) → i ∉ own ∧ ρ[i]? = some (some w)
  | [], ρ, i, w, h => ⟨by simp, h⟩
  | j :: own, ρ, i, w, h => by
    simp only [wipe] at h
    rcases getset h with ⟨rfl, z, _⟩ | ⟨hn, z⟩
    · cases z
    · obtain ⟨h1, h2⟩ := wipeE_in z
      exact ⟨by simp only [List.mem_cons, not_or]; exact ⟨hn, h1⟩, h2⟩
theorem wipeE_out : ∀ {own : List Nat} {ρ : Ev} {i : Nat}, i ∉ own → (wipe ρ own)[i]? = ρ[i]?
  | [], ρ, i, h => rfl
  | j :: own, ρ, i, h => by
    simp only [List.mem_cons, not_or] at h
    simp only [wipe]
    rw [List.getElem?_set_ne (Ne.symm h.1), wipeE_out h.2]
theorem back_len : ∀ (own : List Nat) (ρ0 ρ : Ev), (back ρ0 ρ own).length = ρ.length
  | [], _, _ => rfl
  | i :: own, ρ0, ρ => by simp only [back, List.length_set, back_len own]
theorem back_in : ∀ {own : List Nat} {ρ0 ρ : Ev} {i : Nat}, i ∈ own → i < ρ.length → (back ρ0 ρ own)[i]? = some (ρ0[i]?.getD none)
  | j :: own, ρ0, ρ, i, h, hl => by
    simp only [back]
    by_cases e : i = j
    · subst e
      rw [List.getElem?_set_self (by rw [back_len]; exact hl)]
    · rw [List.getElem?_set_ne (Ne.symm e)]
      rcases List.mem_cons.mp h with z | z
      · exact absurd z e
      · exact back_in z hl
theorem back_out : ∀ {own : List Nat} {ρ0 ρ : Ev} {i : Nat}, i ∉ own → (back ρ0 ρ own)[i]? = ρ[i]?
  | [], _, _, _, _ => rfl
  | j :: own, ρ0, ρ, i, h => by
    simp only [List.mem_cons, not_or] at h
    simp only [back]
    rw [List.getElem?_set_ne (Ne.symm h.1), back_out h.2]
/-- fewer slots -/
theorem wipe_path (own : List Nat) (s : Sta Z F H σ ρ) : Path Z σ F H ρ (L2.wipe σ own) F H (wipe ρ own) := by
  have key : ∀ (i : Nat) (w : W), (wipe ρ own)[i]? = some (some w) → ρ[i]? = some (some w) ∧ (L2.wipe σ own)[i]? = σ[i]? := fun i w h => by
    obtain ⟨h1, h2⟩ := wipeE_in h
    exact ⟨h2, wipe_out h1⟩
  refine ⟨⟨by rw [wipeE_len, wipe_length]; exact s.len, fun i w e => ?_, fun i j wi wj a ei ej hi hj si sj => ?_, s.tabs, s.ft⟩, .refl, fun b ⟨i, w, e, ho, es⟩ => .inl ?_, fun i w h pw => ⟨⟨w, (key i w h).1, pw⟩, (key i w h).2⟩⟩
  · obtain ⟨h1, h2⟩ := key i w e
    rw [h2]
    exact s.rep i w h1
  · obtain ⟨h1, h2⟩ := key i wi ei
    obtain ⟨h3, h4⟩ := key j wj ej
    rw [h2] at si
    rw [h4] at sj
    exact s.inj _ _ _ _ _ h1 h3 hi hj si sj
  · obtain ⟨h1, h2⟩ := key i w e
    rw [h2] at es
    exact own_of h1 ho es
/-- back to the outer slots -/
theorem back_path (own : List Nat) (s : Sta Z F1 H1 σ ρ1) (p : Path Z (L2.wipe σ own) F1 H1 (wipe ρ1 own) (L2.wipe σ own) F H ρ) : Path Z σ F1 H1 ρ1 σ F H (back ρ1 ρ own) ∧ (∀ b, Own σ (back ρ1 ρ own) b → Own σ ρ1 b ∨ Own (L2.wipe σ own) ρ b) := by
  have hlen : ρ.length = ρ1.length := by rw [p.st.len, wipe_length, s.len]
  have w0 := wipe_path own s
  have key : ∀ (i : Nat) (w : W), (back ρ1 ρ own)[i]? = some (some w) → (i ∈ own ∧ ρ1[i]? = some (some w)) ∨ (i ∉ own ∧ ρ[i]? = some (some w) ∧ (L2.wipe σ own)[i]? = σ[i]?) := fun i w h => by
    by_cases hi : i ∈ own
    · have hl : i < ρ.length := by
        have := (List.getElem?_eq_some_iff.mp h).1
        rwa [back_len] at this
      rw [back_in hi hl] at h
      refine .inl ⟨hi, ?_⟩
      have h := Option.some.inj h
      cases q : ρ1[i]? with
      | none => rw [q] at h; cases h
      | some z => rw [q] at h; exact congrArg some h
    · rw [back_out hi] at h
      exact .inr ⟨hi, h, wipe_out hi⟩
  have u : Up F1 H1 F H := w0.st.up p.sp
  have own2 : ∀ b, Own σ (back ρ1 ρ own) b → Own σ ρ1 b ∨ Own (L2.wipe σ own) ρ b := fun b ⟨i, w, e, ho, es⟩ => by
    rcases key i w e with ⟨_, h⟩ | ⟨hi, h, h2⟩
    · exact .inl (own_of h ho es)
    · rw [← h2] at es
      exact .inr (own_of h ho es)
  have own' : ∀ b, Own σ (back ρ1 ρ own) b → Own σ ρ1 b ∨ NoO (H1 b) := fun b h => by
    rcases own2 b h with h | h
    · exact .inl h
    · rcases p.sub b h with z | z
      · rcases w0.sub b z with z | z
        · exact .inl z
        · exact .inr z
      · exact .inr z
  -- a list of a slot that was forgotten
  have off : ∀ (i : Nat) (w : W) a, i ∈ own → ρ1[i]? = some (some w) → isOwn w = true → σ[i]? = some (some (V.ref a)) → ¬ Own (L2.wipe σ own) (wipe ρ1 own) a := fun i w a hi e ho es ⟨j, w', ej, hj, sj⟩ => by
    obtain ⟨k1, k2⟩ := wipeE_in ej
    rw [wipe_out k1] at sj
    have : i = j := s.inj _ _ _ _ _ e k2 ho hj es sj
    exact k1 (by rw [← this]; exact hi)
  refine ⟨⟨⟨by rw [back_len, hlen]; exact s.len, fun i w e => ?_, fun i j wi wj a ei ej hi hj si sj => ?_, p.st.tabs, p.st.ft⟩, w0.sp.trans p.sp (fun x h => w0.sub x h), own', fun i w e pw => ?_⟩, own2⟩
  · rcases key i w e with ⟨hi, h⟩ | ⟨hi, h, h2⟩
    · obtain ⟨v, ev, r⟩ := s.rep i w h
      refine ⟨v, ev, r.up u fun a ea ho => ?_⟩
      subst ea
      have no := off i w a hi h ho ev
      have hk := s.kind (own_of h ho ev)
      refine ⟨fun o eo => p.sp.keep a o eo no fun ps z => ?_, fun z => ?_⟩
      · subst z
        rcases hk.1 with ⟨_, y⟩ | ⟨_, y⟩ | ⟨_, y⟩ <;> · rw [eo] at y; cases y
      · rcases p.sp.fout a z with y | y | y
        · exact hk.2 y
        · rcases hk.1 with ⟨_, x⟩ | ⟨_, x⟩ | ⟨_, x⟩ <;> · rw [x] at y; cases y
        · exact no y
    · rw [← h2]
      exact p.st.rep i w h
  · have cross : ∀ (i j : Nat) (wi wj : W), i ∈ own → ρ1[i]? = some (some wi) → isOwn wi = true → σ[i]? = some (some (V.ref a)) → j ∉ own → ρ[j]? = some (some wj) → isOwn wj = true → (L2.wipe σ own)[j]? = some (some (V.ref a)) → False := fun i j wi wj hi ei ho si hj ej hoj sj => by
      rcases p.sub a (own_of ej hoj sj) with z | z
      · exact off i wi a hi ei ho si z
      · have hk := s.kind (own_of ei ho si)
        rcases hk.1 with ⟨_, x⟩ | ⟨_, x⟩ | ⟨_, x⟩ <;> · rw [x] at z; cases z
    rcases key i wi ei with ⟨ii, h⟩ | ⟨ii, h, h2⟩
    · rcases key j wj ej with ⟨jj, h'⟩ | ⟨jj, h', h2'⟩
      · exact s.inj _ _ _ _ _ h h' hi hj si sj
      · exact (cross i j wi wj ii h hi si jj h' hj (by rw [h2']; exact sj)).elim
    · rcases key j wj ej with ⟨jj, h'⟩ | ⟨jj, h', h2'⟩
      · exact (cross j i wj wi jj h' hj sj ii h hi (by rw [h2]; exact si)).elim
      · exact p.st.inj _ _ _ _ _ h h' hi hj (by rw [h2]; exact si) (by rw [h2']; exact sj)
  · rcases key i w e with ⟨_, h⟩ | ⟨hi, h, h2⟩
    · exact ⟨⟨w, h, pw⟩, rfl⟩
    · obtain ⟨⟨w1, z1, z2⟩, _⟩ := p.pp i w h pw
      exact ⟨⟨w1, (wipeE_in z1).2, z2⟩, rfl⟩
/-! ### a new list that grows -/
/-- the new list at D, which no slot holds -/
structure CI (Z : Wo) (σ0 : L2.St) (F0 : Fz) (H0 : Hp) (ρ0 : Ev) (D : Addr) (σ : L2.St) (F : Fz) (H : Hp) (ρ : Ev) (acc : List Ev.D) : Prop where
  path : Path Z σ0 F0 H0 ρ0 σ F H ρ
  lst : ∃ vs, H D = some (.lst vs) ∧ Rps Z F H acc vs
  nf : ¬ F D
  no : ¬ Own σ ρ D
theorem CI.step {D : Addr} {acc : List Ev.D} (c : CI Z σ0 F0 H0 ρ0 D σ F H ρ acc) (p : Path Z σ F H ρ σ' F' H' ρ') : CI Z σ0 F0 H0 ρ0 D σ' F' H' ρ' acc := by
  obtain ⟨vs, e, r⟩ := c.lst
  refine ⟨c.path.trans p, ⟨vs, p.sp.keep D _ e c.no (fun _ z => by cases z), r.up (c.path.st.up p.sp)⟩, fun z => ?_, fun z => ?_⟩
  · rcases p.sp.fout D z with y | y | y
    · exact c.nf y
    · rw [e] at y; cases y
    · exact c.no y
  · rcases p.sub D z with y | y
    · exact c.no y
    · rw [e] at y; cases y
theorem CI.grow {D : Addr} {acc ys : List Ev.D} {ws : List V} (c : CI Z σ0 F0 H0 ρ0 D σ F H ρ acc) (h0 : H0 D = none) (r : Rps Z F H ys ws) : CI Z σ0 F0 H0 ρ0 D σ F (upd H D (.lst ws)) ρ ys := by
  obtain ⟨vs, e, _⟩ := c.lst
  have u : Up F H F (upd H D (.lst ws)) := ⟨fun c vs q => by
      rw [upd_ne (ne_of q e (by intro z; cases z))]; exact q, fun c o w q => by
      rw [upd_ne (ne_of q e (by intro z; cases z))]; exact q, fun _ f => f, fun b vs f q => by
      rw [upd_ne (fun z => c.nf (by rw [← z]; exact f))]; exact q⟩
  have th : ∀ b, ¬ NoO (H b) → ¬ NoO ((upd H D (.lst ws)) b) := fun b n => by
    by_cases z : b = D
    · rw [z, upd_same]; exact id
    · rw [upd_ne z]; exact n
  refine ⟨⟨⟨c.path.st.len, fun i w ei => ?_, c.path.st.inj, ?_, fun b f => th b (c.path.st.ft b f)⟩, ⟨fun b o eb nb t => ?_, fun b n => th b (c.path.sp.there b n), c.path.sp.fin, c.path.sp.fout⟩, c.path.sub, c.path.pp⟩, ⟨ws, upd_same, r.up u⟩, c.nf, c.no⟩
  · obtain ⟨v, ev, rw'⟩ := c.path.st.rep i w ei
    refine ⟨v, ev, rw'.up u fun a ea ho => ?_⟩
    subst ea
    have ow := own_of ei ho ev
    exact ⟨fun o q => by rw [upd_ne (fun z => c.no (by rw [← z]; exact ow))]; exact q, (c.path.st.kind ow).2⟩
  · intro t ht
    obtain ⟨ps, h1', h2', h3'⟩ := c.path.st.tabs t ht
    refine ⟨ps, ?_, h2', fun pos cv hc => ?_⟩
    · rw [upd_ne (ne_of h1' e (by intro z; cases z))]; exact h1'
    · obtain ⟨cc, ec, hcc⟩ := h3' pos cv hc
      refine ⟨cc, ec, ?_⟩
      rw [upd_ne (ne_of hcc e (by unfold LamX.CodeO; intro z; cases z))]
      exact hcc
  · rw [upd_ne (fun z => by rw [z, h0] at eb; cases eb)]
    exact c.path.sp.keep b o eb nb t
/-- an item that is kept -/
theorem CI.keep {D : Addr} {acc : List Ev.D} {o : O} {v : V} {x : Ev.D} (c : CI Z σ0 F0 H0 ρ0 D σ F H ρ acc) (h : Out Z F H σ ρ o v) (hn : isNew o = true → v ≠ .ref D) (f : Frs H0 o v) (e : Ev.keep ρ o = some (x, ρ2)) :
    ∃ F2, CI Z σ0 F0 H0 ρ0 D σ F2 H ρ2 acc ∧ Rp Z F2 H x v := by
  obtain ⟨F2, p2, rx, u, fr, ow⟩ := keep_ok c.path h f e
  obtain ⟨vs, eD, r⟩ := c.lst
  refine ⟨F2, ⟨p2, ⟨vs, eD, r.up u⟩, fun z => ?_, fun z => c.no (ow _ z)⟩, rx⟩
  rcases fr D z with y | ⟨y1, y2 | y2⟩
  · exact c.nf y
  · exact hn y2 y1
  · exact c.no y2
theorem CI.keep' {D : Addr} {acc : List Ev.D} {o : O} {v : V} {x : Ev.D} (c : CI Z σ0 F0 H0 ρ0 D σ F H ρ acc) (h : Out Z F H σ ρ o v) (hn : isNew o = true → v ≠ .ref D) (f : Frs H0 o v) (e : Ev.keep ρ o = some (x, ρ2)) :
    ∃ F2, CI Z σ0 F0 H0 ρ0 D σ F2 H ρ2 acc ∧ Rp Z F2 H x v ∧ (∀ b, F b → F2 b) ∧ ∀ b, Own σ ρ2 b → Own σ ρ b := by
  obtain ⟨F2, p2, rx, u, fr, ow⟩ := keep_ok c.path h f e
  obtain ⟨vs, eD, r⟩ := c.lst
  refine ⟨F2, ⟨p2, ⟨vs, eD, r.up u⟩, fun z => ?_, fun z => c.no (ow _ z)⟩, rx, u.fin, ow⟩
  rcases fr D z with y | ⟨y1, y2 | y2⟩
  · exact c.nf y
  · exact hn y2 y1
  · exact c.no y2
/-- slots forgotten, with as many left alone -/
theorem wipe_same {own : List Nat} {σ σ' : L2.St} (k : ∀ i, i ∉ own → σ'[i]? = (L2.wipe σ own)[i]?) (l : σ'.length = (L2.wipe σ own).length) : L2.wipe σ' own = L2.wipe σ own := by
  have gi : ∀ {own : List Nat} {σ : L2.St} {i : Nat}, i ∈ own → i < σ.length → (L2.wipe σ own)[i]? = some none := by
    intro own
    induction own with
    | nil => intro σ i h; cases h
    | cons j own ih =>
      intro σ i h hl
      unfold L2.wipe
      by_cases e : i = j
      · subst e
        rw [List.getElem?_set_self (by rw [wipe_length]; exact hl)]
      · rw [List.getElem?_set_ne (Ne.symm e)]
        rcases List.mem_cons.mp h with z | z
        · exact absurd z e
        · exact ih z hl
  apply List.ext_getElem?
  intro i
  by_cases hi : i ∈ own
  · by_cases hl : i < σ.length
    · rw [gi hi hl, gi hi (by rw [l, wipe_length]; exact hl)]
    · rw [List.getElem?_eq_none (by rw [wipe_length, l, wipe_length]; omega), List.getElem?_eq_none (by rw [wipe_length]; omega)]
  · rw [wipe_out hi]
    exact k i hi
/-! ### the list comprehension -/
/-- the relation of a test in a turn -/
theorem here {rel : Rel α β} {f : Ev → R α} {Q : β → Hp → Prop} (s : Sta Z F H σ ρ) (h : PostG Z E rel σ F H ρ (f ρ) Q) : LG Z E rel f σ H Q := ⟨F, H, ρ, F, ρ, .refl s, h⟩
theorem snd_comp {elt tg iter : Expr} {ifs : List Expr} {scope : Scope} {own : List (Str × Nat)} {ow : List Nat} {pos : Pos} {gi : Ev → R (List D × List Nat)} {t : Tg} {ft : Ev → R Bool} {fe : Ev → R O} (hc : X.calm = true) (hN : X.N.Nodup) (hi : PI X tg iter (LI Z E gi)) (ok : BlkOk X.N X.env.scope scope own)
    (hw : own.map (·.2) = ow) (hts : ∀ i ∈ slots t, i ∈ ow)
    (hg : ∀ (s : Shared) (H : Hp) (C : Addr) (cl : List (Str × Addr)) (fp : List Addr), PG (X.blk s H scope (compEnvC scope cl C X.env) fp) tg (LGt Z t)) (ht : ∀ (s : Shared) (H : Hp) (C : Addr) (cl : List (Str × Addr)) (fp : List Addr), PTs (X.blk s H scope (compEnvC scope cl C X.env) fp) ifs (LT Z E0 ft))
    (he : ∀ (s : Shared) (H : Hp) (C : Addr) (cl : List (Str × Addr)) (fp : List Addr), PE (X.blk s H scope (compEnvC scope cl C X.env) fp) elt (LE Z E0 fe)) (hs : ∀ x, foldedSetIterable iter X.env x = pure x) :
    PE X (.ListComp elt [⟨tg, iter, ifs, 0⟩] scope pos) (LE Z E fun ρ => (gi ρ).bind fun p ρ1 => compEnd ow ρ1 p.2 (walkL (compTurn ow ρ1 p.2 t ft fe) p.1 [] (wipe ρ1 ow))) := by
  subst hw
  refine peImp (pe_lc hc hN hi ok hg ht he hs) fun σ H Q q => lcImp hts q
where
  lcImp {σ : L2.St} {H : Hp} {Q : VK} {gi : Ev → R (List D × List Nat)} {ow : List Nat} {t : Tg} {ft : Ev → R Bool} {fe : Ev → R O} (hts : ∀ i ∈ slots t, i ∈ ow)
      (q : LE Z E (fun ρ => (gi ρ).bind fun p ρ1 => compEnd ow ρ1 p.2 (walkL (compTurn ow ρ1 p.2 t ft fe) p.1 [] (wipe ρ1 ow))) σ H Q) :
      tLc (LI Z E gi) (LGt Z t) (LT Z E0 ft) (LE Z E0 fe) ow σ H Q := by
    obtain ⟨F0, H0, ρ0, F, ρ, p, post⟩ := q
    refine run p post fun xw ρ1 J F1 H1 p1 p01 r post => ?_
    obtain ⟨xs, ws⟩ := xw
    obtain ⟨St, iw, hst⟩ := r
    intro D hD
    -- what came of it
    unfold compEnd at post
    cases e : walkL (compTurn ow ρ1 ws t ft fe) xs [] (wipe ρ1 ow) with
    | stuck => simp only [e, R.bind_stuck, R.calm] at post; exact post.elim
    | exc c ρ5 => simp only [e, R.bind_exc, R.calm] at post; exact post.elim
    | ok accf ρ5 =>
      simp only [e, R.bind_ok] at post
      by_cases hs5 : stands ρ1 ρ5 ws = true
      · rw [if_pos hs5] at post
        have w0 := wipe_path ow p01.st
        have n1 : ¬ F1 D := fun f => p01.st.ft D f (.none hD)
        have c0 : CI Z (L2.wipe σ ow) F1 H1 (wipe ρ1 ow) D (L2.wipe σ ow) F1 (upd H1 D (.lst [])) (wipe ρ1 ow) [] := by
          have sm : Same H1 (upd H1 D (.lst [])) := fun b o e => by
            rw [upd_ne (fun z => by rw [z, hD] at e; cases e)]; exact e
          refine ⟨(Path.refl w0.st).same sm, ⟨[], upd_same, .nil⟩, n1, fun z => ?_⟩
          rcases (w0.st.kind z).1 with ⟨_, y⟩ | ⟨_, y⟩ | ⟨_, y⟩ <;> · rw [hD] at y; cases y
        refine ⟨fun i m H => m = xs.length - i ∧ i ≤ xs.length ∧ ∃ F ρ acc, CI Z (L2.wipe σ ow) F1 H1 (wipe ρ1 ow) D (L2.wipe σ ow) F H ρ acc ∧ walkL (compTurn ow ρ1 ws t ft fe) (xs.drop i) acc ρ = .ok accf ρ5,
          ⟨xs.length, by omega, Nat.zero_le _, F1, wipe ρ1 ow, [], c0, by rw [List.drop_zero]; exact e⟩, ?_⟩
        rintro i m H ⟨rfl, hi, F, ρ, acc, c, ew⟩
        -- the walked things stand
        have std : stands ρ1 ρ ws = true → St F H := fun h => by
          refine hst _ _ _ _ ((w0.trans c.path).later p01.st) (fun j hj => ?_) h
          obtain ⟨p', q', ys, e1, e2⟩ := stands_get h hj
          obtain ⟨v, ev, _⟩ := c.path.st.rep j _ e2
          obtain ⟨h1, h2⟩ := wipe_some ev
          rw [ev, h1]
        rcases Nat.lt_or_ge i xs.length with hlt | hge
        · -- one more turn
          have ed : xs.drop i = xs[i] :: xs.drop (i + 1) := List.drop_eq_getElem_cons hlt
          rw [ed] at ew
          simp only [walkL] at ew
          have hsd : stands ρ1 ρ ws = true := by
            cases b : stands ρ1 ρ ws with
            | true => rfl
            | false => simp [compTurn, b] at ew
          simp only [compTurn, hsd, if_true] at ew
          refine .inr ⟨iw.go i F H (std hsd) hlt, fun H => ∃ F ρ acc, CI Z (L2.wipe σ ow) F1 H1 (wipe ρ1 ow) D (L2.wipe σ ow) F H ρ acc ∧ walkL (compTurn ow ρ1 ws t ft fe) (xs.drop (i + 1)) acc ρ = .ok accf ρ5,
            fun H' nx => ⟨xs.length - (i + 1), by omega, rfl, hlt, nx⟩, fun v H' y => ?_⟩
          obtain ⟨sm, rx⟩ := iw.yld i xs[i] F H v H' (std hsd) (List.getElem?_eq_getElem hlt) y
          have c1 := c.step ((Path.refl c.path.st).same sm)
          cases eb : bindT t xs[i] ρ with
          | none => rw [eb] at ew; simp at ew
          | some ρ2 =>
            rw [eb] at ew
            simp only [R.opt_some] at ew
            refine ⟨F, ρ, xs[i], ρ2, c1.path.st, rx, eb, fun σ2 pb kb lb => ?_⟩
            have c2 := c1.step pb
            have hwp : L2.wipe σ2 ow = L2.wipe σ ow := by
              refine wipe_same (fun j hj => kb j fun z => hj (hts j z)) lb
            refine ⟨hwp, here c2.path.st ?_⟩
            unfold ifB at ew
            cases et : ft ρ2 with
            | stuck => rw [et] at ew; simp at ew
            | exc k ρ3 => rw [et] at ew; simp at ew
            | ok b ρ3 =>
              rw [et] at ew
              simp only [R.bind_ok] at ew
              intro b' F3 H3 p3 eb'
              have eb' : b' = b := eb'
              subst eb'
              have c3 := c2.step p3
              have p3' : Sta Z F3 H3 σ2 ρ3 := p3.st
              cases b' with
              | false =>
                simp only [Bool.false_eq_true, if_false, R.bind_ok] at ew ⊢
                have wp := wipe_path ow p3'
                rw [hwp] at wp
                exact ⟨F3, wipe ρ3 ow, acc, c3.step wp, ew⟩
              | true =>
                simp only [if_true] at ew ⊢
                refine here p3' ?_
                cases ee : fe ρ3 with
                | stuck => rw [ee] at ew; simp at ew
                | exc k ρ4 => rw [ee] at ew; simp at ew
                | ok o ρ4 =>
                  rw [ee] at ew
                  simp only [R.bind_ok] at ew
                  intro y4 F4 H4 p4 r4
                  have c4 := c3.step p4
                  cases ek : keep ρ4 o with
                  | none => rw [ek] at ew; simp at ew
                  | some kp =>
                    obtain ⟨x5, ρ5'⟩ := kp
                    rw [ek] at ew
                    simp only [R.opt_some] at ew
                    split at ew
                    · rename_i hlen
                      simp only [R.bind_ok] at ew
                      obtain ⟨F5, c5, rx5⟩ := c4.keep r4.1 (fun hn z => by
                        obtain ⟨vs, eD, _⟩ := c3.lst
                        have q := r4.2 hn D z
                        rw [eD] at q
                        cases q) (r4.2.back c3.path) ek
                      obtain ⟨vs, eD, rvs⟩ := c5.lst
                      have wp := wipe_path ow c5.path.st
                      rw [hwp] at wp
                      have c6 := c5.step wp
                      refine ⟨vs, eD, by rw [← rvs.len, sizeLine_eq]; exact hlen, F5, wipe ρ5' ow, acc ++ [x5], ?_, ew⟩
                      exact c6.grow hD (rvs.append (.cons rx5 .nil))
                    · simp at ew
        · -- the end
          have ei : i = xs.length := by omega
          subst ei
          rw [List.drop_length] at ew
          simp only [walkL, R.ok.injEq] at ew
          obtain ⟨rfl, rfl⟩ := ew
          refine .inl ⟨iw.stop F H (std hs5), ?_⟩
          obtain ⟨vs, eD, rvs⟩ := c.lst
          obtain ⟨pb, ob⟩ := back_path ow p01.st c.path
          refine post (.ref D) F H (p01.trans pb) ⟨⟨D, vs, rfl, eD, rvs, c.nf, fun z => ?_⟩, fun _ a ea => ?_⟩
          · rcases ob D z with z | z
            · rcases (p01.st.kind z).1 with ⟨_, y⟩ | ⟨_, y⟩ | ⟨_, y⟩ <;> · rw [hD] at y; cases y
            · exact c.no z
          · cases ea
            exact .of_not fun y => p01.sp.there D y (.none hD)
      · rw [if_neg hs5] at post
        exact post.elim
end
end Ev
/-! Ev10: statements. -/
namespace Ev
open PySem PySem.Spec PyProof.Rows L2
section
variable {n : Nat} {E : XK} {X : Cx} {Z : Wo} {σ σ' σ0 σ1 σ2 : L2.St} {F F' F0 F1 F2 : Fz} {H H' H1 H0 H2 : Hp} {ρ ρ' ρ0 ρ1 ρ2 : Ev} {A B : List Nat} {α β γ δ : Type} {D D' : Ends}
/-- all slots but those of A are as they were -/
structure Agr (A : List Nat) (σ σ' : L2.St) : Prop where
  len : σ'.length = σ.length
  out : ∀ i, i ∉ A → σ'[i]? = σ[i]?
theorem Agr.refl : Agr A σ σ := ⟨rfl, fun _ _ => rfl⟩
theorem Agr.trans (a : Agr A σ σ1) (b : Agr A σ1 σ2) : Agr A σ σ2 := ⟨b.len.trans a.len, fun i h => (b.out i h).trans (a.out i h)⟩
theorem Agr.mono (a : Agr A σ σ') (h : ∀ i ∈ A, i ∈ B) : Agr B σ σ' := ⟨a.len, fun i n => a.out i fun z => n (h i z)⟩
def PostS (Z : Wo) (E : XK) (A : List Nat) (σ : L2.St) (F : Fz) (H : Hp) (ρ : Ev) (r : R Fl) (D : Ends) : Prop := match r with
  | .ok fl ρ' => ∀ σ' F' H', Path Z σ F H ρ σ' F' H' ρ' → Agr A σ σ' → match fl with
    | .nx => D.nx σ' H'
    | .brk => D.bk σ' H'
    | .cont => D.ct σ' H'
    | .ret o => ∀ v, Out Z F' H' σ' ρ' o v → Frs H o v → D.rt v H'
  | .exc c ρ' => ∀ σ' F' H', Path Z σ F H ρ σ' F' H' ρ' → E (Z.cls c) none H'
  | .stuck => False
def LS (Z : Wo) (E : XK) (A : List Nat) (f : Ev → R Fl) : TS := fun D σ H => ∃ F ρ, Sta Z F H σ ρ ∧ PostS Z E A σ F H ρ (f ρ) D
theorem PostS.step {r : R Fl} (h : PostS Z E A σ F H ρ r D) (p : Path Z σ F H ρ σ1 F1 H1 ρ1) (a : Agr A σ σ1) : PostS Z E A σ1 F1 H1 ρ1 r D := by
  cases r with
  | ok fl ρ' =>
    intro σ' F' H' p' a'
    have z := h σ' F' H' (p.trans p') (a.trans a')
    cases fl with
    | nx => exact z
    | brk => exact z
    | cont => exact z
    | ret o => exact fun v ov fr => z v ov (fr.back p)
  | exc c ρ' => exact fun σ' F' H' p' => h σ' F' H' (p.trans p')
  | stuck => exact h
theorem PostS.mono {r : R Fl} (h : PostS Z E B σ F H ρ r D) (m : ∀ i ∈ A, i ∈ B) : PostS Z E A σ F H ρ r D := by
  cases r with
  | ok fl ρ' =>
    intro σ' F' H' p' a'
    exact h σ' F' H' p' (a'.mono m)
  | exc c ρ' => exact h
  | stuck => exact h
theorem psImp {st : Stmt} {t t' : TS} (h : PS X st t) (i : ∀ D σ H, t' D σ H → t D σ H) : PS X st t' := ⟨fun pins s σ H D I q => h.run pins s σ H D I (i D σ H q)⟩
theorem pssImp {st : List Stmt} {t t' : TS} (h : PSs X st t) (i : ∀ D σ H, t' D σ H → t D σ H) : PSs X st t' := ⟨fun pins s σ H D I q => h.run pins s σ H D I (i D σ H q)⟩
theorem PS.more {st : Stmt} {f : Ev → R Fl} (h : PS X st (LS Z E A f)) (m : ∀ i ∈ A, i ∈ B) : PS X st (LS Z E B f) := psImp h fun D σ H ⟨F, ρ, s, p⟩ => ⟨F, ρ, s, p.mono m⟩
theorem PSs.more {st : List Stmt} {f : Ev → R Fl} (h : PSs X st (LS Z E A f)) (m : ∀ i ∈ A, i ∈ B) : PSs X st (LS Z E B f) := pssImp h fun D σ H ⟨F, ρ, s, p⟩ => ⟨F, ρ, s, p.mono m⟩
/-- a part that is no statement runs -/
theorem partS {rel : Rel α β} {f : Ev → R α} {k : α → Ev → R Fl} {Q2 : β → Hp → Prop} (s : Sta Z F H σ ρ) (post : PostS Z E A σ F H ρ ((f ρ).bind k) D)
    (i : ∀ a ρ1 b F1 H1, f ρ = .ok a ρ1 → Path Z σ F H ρ σ F1 H1 ρ1 → rel σ H F1 H1 ρ1 a b → PostS Z E A σ F H ρ (k a ρ1) D → Q2 b H1) : LG Z E rel f σ H Q2 := by
  refine here s ?_
  cases e : f ρ with
  | ok a ρ1 =>
    rw [e] at post
    exact fun b F1 H1 p r => i a ρ1 b F1 H1 e p r post
  | exc c ρ1 =>
    rw [e] at post
    exact fun F1 H1 p => post σ F1 H1 p
  | stuck =>
    rw [e] at post
    exact post
/-! ### blocks -/
theorem snd_bnil : PSs X [] (LS Z E A fun ρ => .ok .nx ρ) := pssImp pss_nil fun D σ H ⟨F, ρ, s, p⟩ => p σ F H (.refl s) .refl
theorem snd_bcons {st : Stmt} {rest : List Stmt} {f g : Ev → R Fl} (h1 : PS X st (LS Z E A f)) (h2 : PSs X rest (LS Z E A g)) : PSs X (st :: rest) (LS Z E A fun ρ => (f ρ).bind fun fl ρ1 => match fl with
    | .nx => g ρ1
    | fl => .ok fl ρ1) := by
  refine pssImp (pss_cons h1 h2) fun D σ H ⟨F, ρ, s, p⟩ => ⟨F, ρ, s, ?_⟩
  cases e : f ρ with
  | stuck => simp only [e] at p; exact p
  | exc c ρ1 => simp only [e] at p; exact p
  | ok fl ρ1 =>
    simp only [e, R.bind_ok] at p
    intro σ' F' H' p' a'
    cases fl with
    | nx => exact ⟨F', ρ1, p'.st, p.step p' a'⟩
    | brk => exact p σ' F' H' p' a'
    | cont => exact p σ' F' H' p' a'
    | ret o => exact p σ' F' H' p' a'
theorem snd_pass {pos : Pos} : PS X (.Pass pos) (LS Z E A fun ρ => .ok .nx ρ) := psImp ps_pass fun D σ H ⟨F, ρ, s, p⟩ => p σ F H (.refl s) .refl
theorem snd_brk {pos : Pos} : PS X (.Break pos) (LS Z E A fun ρ => .ok .brk ρ) := psImp ps_break fun D σ H ⟨F, ρ, s, p⟩ => p σ F H (.refl s) .refl
theorem snd_cont {pos : Pos} : PS X (.Continue pos) (LS Z E A fun ρ => .ok .cont ρ) := psImp ps_continue fun D σ H ⟨F, ρ, s, p⟩ => p σ F H (.refl s) .refl
theorem snd_doc {x j pos pos'} : PS X (.Expr (.Constant (.str x) j pos) pos') (LS Z E A fun ρ => .ok .nx ρ) := psImp ps_doc fun D σ H ⟨F, ρ, s, p⟩ => p σ F H (.refl s) .refl
theorem snd_ex {e : Expr} {f : Ev → R O} {pos : Pos} (h : PE X e (LE Z E f)) (hs : swapsWith e none pos.line X.env = pure false) : PS X (.Expr e pos) (LS Z E A fun ρ => (f ρ).bind fun _ ρ1 => .ok .nx ρ1) :=
  psImp (ps_expr h hs) fun D σ H ⟨F, ρ, s, p⟩ => partS s p fun a ρ1 b F1 H1 _ p1 r post => post σ F1 H1 p1 .refl
theorem snd_ret {e : Expr} {f : Ev → R O} {pos : Pos} (h : PE X e (LE Z E f)) : PS X (.Return (some e) pos) (LS Z E A fun ρ => (f ρ).bind fun o ρ1 => .ok (.ret o) ρ1) :=
  psImp (ps_ret h) fun D σ H ⟨F, ρ, s, p⟩ => partS s p fun a ρ1 b F1 H1 _ p1 r post => post σ F1 H1 p1 .refl b r.1 r.2
theorem snd_retN {pos : Pos} : PS X (.Return none pos) (LS Z E A fun ρ => .ok (.ret (.d .non)) ρ) :=
  psImp ps_retN fun D σ H ⟨F, ρ, s, p⟩ => p σ F H (.refl s) .refl .non (by show Rp Z F H .non .non; simp only [Rp]) fun z => by cases z
theorem snd_if {c : Expr} {a b : List Stmt} {fc : Ev → R Bool} {fa fb : Ev → R Fl} {pos : Pos} (hc : PT X c (LT Z E fc)) (ha : PSs X a (LS Z E A fa)) (hb : PSs X b (LS Z E A fb)) : PS X (.If c a b pos) (LS Z E A fun ρ => ifB (fc ρ) fa fb) := by
  refine psImp (ps_if hc ha hb) fun D σ H ⟨F, ρ, s, p⟩ => partS s p fun b ρ1 b' F1 H1 _ p1 r post => ?_
  obtain rfl : b' = b := r
  cases b' with
  | true => exact ⟨F1, ρ1, p1.st, post.step p1 .refl⟩
  | false => exact ⟨F1, ρ1, p1.st, post.step p1 .refl⟩
/-! ### stores -/
theorem free_lt {i : Nat} (h : free ρ i = true) : i < ρ.length := by
  unfold free at h
  cases e : ρ[i]? with
  | none => rw [e] at h; cases h
  | some w => exact (List.getElem?_eq_some_iff.mp e).1
theorem agr_set {i : Nat} {v : V} (h : i ∈ A) : Agr A σ (σ.set i (some v)) := ⟨by rw [List.length_set], fun j hj => by
  rw [List.getElem?_set_ne (fun z => hj (by rw [← z]; exact h))]⟩
/-- a slot takes a new list, dict -/
theorem put_new {i : Nat} {w : W} {o : O} {v : V} (p : Path Z σ0 F0 H0 ρ0 σ F H ρ) (h : Out Z F H σ ρ o v) (f : Frs H0 o v) (hn : isNew o = true) (hw : (∃ xs, o = .L xs ∧ w = .L false xs) ∨ ∃ t kvs, o = .M t kvs ∧ w = .M false t kvs) :
    Path Z σ0 F0 H0 ρ0 (σ.set i (some v)) F H (ρ.set i (some w)) := by
  obtain ⟨a, ev, rw', na⟩ : ∃ a, v = .ref a ∧ RpW Z F H w v ∧ ¬ Own σ ρ a := by
    rcases hw with ⟨xs, rfl, rfl⟩ | ⟨t, kvs, rfl, rfl⟩
    · obtain ⟨a, vs, rfl, h1, h2, h3, h4⟩ := h
      exact ⟨a, rfl, ⟨a, vs, rfl, h1, h2, h3⟩, h4⟩
    · obtain ⟨a, rfl, h1, h3, h4⟩ := h
      exact ⟨a, rfl, ⟨a, rfl, h1, h3⟩, h4⟩
  subst ev
  have hp : isP w = false := by rcases hw with ⟨xs, rfl, rfl⟩ | ⟨t, kvs, rfl, rfl⟩ <;> rfl
  have own' : ∀ b, Own (σ.set i (some (.ref a))) (ρ.set i (some w)) b → Own σ ρ b ∨ b = a := fun b ⟨j, u, ej, ho, es⟩ => by
    rcases getset ej with ⟨rfl, z, hl⟩ | ⟨n1, z⟩
    · rw [p.st.len] at hl
      rw [List.getElem?_set_self hl] at es
      cases (Option.some.inj (Option.some.inj es))
      exact .inr rfl
    · rw [List.getElem?_set_ne (Ne.symm n1)] at es
      exact .inl (own_of z ho es)
  refine ⟨⟨by rw [List.length_set, List.length_set]; exact p.st.len, fun j u ej => ?_, fun j k wj wk b ej ek hj hk sj sk => ?_, p.st.tabs, p.st.ft⟩, p.sp, fun b ob => ?_, p.pp.trans fun j u ej pu => ?_⟩
  · rcases getset ej with ⟨rfl, z, hl⟩ | ⟨n1, z⟩
    · cases z
      rw [p.st.len] at hl
      exact ⟨_, List.getElem?_set_self hl, rw'⟩
    · rw [List.getElem?_set_ne (Ne.symm n1)]
      exact p.st.rep j u z
  · rcases getset ej with ⟨rfl, z, hl⟩ | ⟨n1, z⟩
    · rcases getset ek with ⟨rfl, z2, _⟩ | ⟨n2, z2⟩
      · rfl
      · rw [p.st.len] at hl
        rw [List.getElem?_set_self hl] at sj
        cases (Option.some.inj (Option.some.inj sj))
        rw [List.getElem?_set_ne (Ne.symm n2)] at sk
        exact absurd (own_of z2 hk sk) na
    · rcases getset ek with ⟨rfl, z2, hl⟩ | ⟨n2, z2⟩
      · rw [p.st.len] at hl
        rw [List.getElem?_set_self hl] at sk
        cases (Option.some.inj (Option.some.inj sk))
        rw [List.getElem?_set_ne (Ne.symm n1)] at sj
        exact absurd (own_of z hj sj) na
      · rw [List.getElem?_set_ne (Ne.symm n1)] at sj
        rw [List.getElem?_set_ne (Ne.symm n2)] at sk
        exact p.st.inj _ _ _ _ _ z z2 hj hk sj sk
  · rcases own' b ob with z | rfl
    · exact p.sub b z
    · exact .inr (f hn b rfl)
  · rcases getset ej with ⟨rfl, z, _⟩ | ⟨n1, z⟩
    · cases z
      rw [hp] at pu
      cases pu
    · exact ⟨⟨_, z, pu⟩, by rw [List.getElem?_set_ne (Ne.symm n1)]⟩
/-- what a slot's taking of a value leaves: what was frozen, what is held -/
structure Put (σ : L2.St) (F : Fz) (H : Hp) (ρ : Ev) (i : Nat) (o : O) (v : V) (F2 : Fz) (ρ2 : Ev) : Prop where
  up : Up F H F2 H
  fr : ∀ b, F2 b → F b ∨ (v = .ref b ∧ (isNew o = true ∨ Own σ ρ b))
  ow : ∀ b, Own (σ.set i (some v)) ρ2 b → Own σ ρ b ∨ (v = .ref b ∧ isNew o = true)
theorem ow_d {i : Nat} {x : Ev.D} {v : V} (b : Addr) (h : Own (σ.set i (some v)) (ρ.set i (some (.d x))) b) : Own σ ρ b := by
  obtain ⟨j, w, ej, ho, es⟩ := h
  rcases getset ej with ⟨rfl, z, _⟩ | ⟨n1, z⟩
  · cases z; cases ho
  · rw [List.getElem?_set_ne (Ne.symm n1)] at es
    exact own_of z ho es
theorem ow_n {i : Nat} {w : W} {v : V} (hl : ρ.length = σ.length) (b : Addr) (h : Own (σ.set i (some v)) (ρ.set i (some w)) b) : Own σ ρ b ∨ v = .ref b := by
  obtain ⟨j, u, ej, ho, es⟩ := h
  rcases getset ej with ⟨rfl, z, hl2⟩ | ⟨n1, z⟩
  · rw [hl] at hl2
    rw [List.getElem?_set_self hl2] at es
    exact .inr (Option.some.inj (Option.some.inj es))
  · rw [List.getElem?_set_ne (Ne.symm n1)] at es
    exact .inl (own_of z ho es)
/-- name = value -/
theorem assign_ok {i : Nat} {o : O} {v : V} (p : Path Z σ0 F0 H0 ρ0 σ F H ρ) (h : Out Z F H σ ρ o v) (f : Frs H0 o v) (e : assign ρ i o = some ρ2) :
    ∃ F2, Path Z σ0 F0 H0 ρ0 (σ.set i (some v)) F2 H ρ2 ∧ Put σ F H ρ i o v F2 ρ2 := by
  cases o with
  | d x =>
    simp only [assign, store] at e
    split at e
    · cases e
      exact ⟨F, p.trans (put_d p.st h), .refl, fun _ z => .inl z, fun b z => .inl (ow_d b z)⟩
    · cases e
  | L xs =>
    simp only [assign, store] at e
    split at e
    · cases e
      exact ⟨F, put_new p h f rfl (.inl ⟨xs, rfl, rfl⟩), .refl, fun _ z => .inl z, fun b z => (ow_n p.st.len b z).imp id fun z => ⟨z, rfl⟩⟩
    · cases e
  | M t kvs =>
    simp only [assign, store] at e
    split at e
    · cases e
      exact ⟨F, put_new p h f rfl (.inr ⟨t, kvs, rfl, rfl⟩), .refl, fun _ z => .inl z, fun b z => (ow_n p.st.len b z).imp id fun z => ⟨z, rfl⟩⟩
    · cases e
  | bor j =>
    have hs : σ[j]? = some (some v) := h
    simp only [assign] at e
    split at e
    · rename_i xs q
      obtain ⟨v', e3, a, vs, e4, _⟩ := p.st.rep j _ q
      rw [hs] at e3
      have e5 := Option.some.inj (Option.some.inj e3)
      subst e5 e4
      obtain ⟨p2, r⟩ := frz_own p q hs
      simp only [store] at e
      split at e
      · cases e
        refine ⟨_, p2.trans (put_d p2.st r), .frz, fun b z => ?_, fun b z => .inl ?_⟩
        · rcases z with z | rfl
          · exact .inl z
          · exact .inr ⟨rfl, .inr (own_of q rfl hs)⟩
        · obtain ⟨k, w, ej, ho, es⟩ := ow_d b z
          rcases getset ej with ⟨rfl, z, _⟩ | ⟨hn, z⟩
          · cases z; cases ho
          · exact own_of z ho es
      · cases e
    · cases e
/-- another value behind it -/
theorem Out.put {i : Nat} {o o' : O} {v v' : V} (pu : Put σ F H ρ i o v F2 ρ2) (h : Out Z F H σ ρ o' v') (ap : isNew o = true → ∀ a, v = .ref a → isNew o' = true → v' ≠ .ref a) (nb : ∀ k, o' = .bor k → k ≠ i) : Out Z F2 H (σ.set i (some v)) ρ2 o' v' := by
  cases o' with
  | d x => exact Rp.up pu.up h
  | L xs =>
    obtain ⟨a, vs, rfl, h1, h2, h3, h4⟩ := h
    refine ⟨a, vs, rfl, h1, h2.up pu.up, fun z => ?_, fun z => ?_⟩
    · rcases pu.fr a z with z | ⟨z1, z2 | z2⟩
      · exact h3 z
      · exact ap z2 a z1 rfl rfl
      · exact h4 z2
    · rcases pu.ow a z with z | ⟨z1, z2⟩
      · exact h4 z
      · exact ap z2 a z1 rfl rfl
  | M t kvs =>
    obtain ⟨a, rfl, h1, h3, h4⟩ := h
    refine ⟨a, rfl, h1.up pu.up fun _ q => q, fun z => ?_, fun z => ?_⟩
    · rcases pu.fr a z with z | ⟨z1, z2 | z2⟩
      · exact h3 z
      · exact ap z2 a z1 rfl rfl
      · exact h4 z2
    · rcases pu.ow a z with z | ⟨z1, z2⟩
      · exact h4 z
      · exact ap z2 a z1 rfl rfl
  | bor k =>
    have hs : σ[k]? = some (some v') := h
    show (σ.set i (some v))[k]? = _
    rw [List.getElem?_set_ne (Ne.symm (nb k rfl))]
    exact hs
def setAll (σ : L2.St) : List Nat → List V → L2.St
  | i :: is, v :: vs => setAll (σ.set i (some v)) is vs
  | _, _ => σ
theorem OutL.put {i : Nat} {o : O} {v : V} (pu : Put σ F H ρ i o v F2 ρ2) : ∀ {os : List O} {vs : List V}, (isNew o = true → ∀ a, v = .ref a → Apart a os vs) → (∀ k ∈ walked os, k ≠ i) → OutL Z H0 F H σ ρ os vs → OutL Z H0 F2 H (σ.set i (some v)) ρ2 os vs
  | [], _, _, _, h => h
  | o' :: os, _, ap, nb, h => by
    obtain ⟨w, r, rfl, h1, f, a, t⟩ := h
    refine ⟨w, r, rfl, Out.put pu h1 (fun n a e n' => (ap n a e).1 n') (fun k ek => nb k (by rw [ek]; exact List.mem_cons_self)), f, a, OutL.put pu (fun n a e => (ap n a e).2) (fun k hk => nb k ?_) t⟩
    cases o' <;> first | exact hk | exact List.mem_cons_of_mem _ hk
theorem assigns_ok : ∀ {is : List Nat} {os : List O} {vs : List V} {σ : L2.St} {F : Fz} {ρ ρ2 : Ev}, Path Z σ0 F0 H0 ρ0 σ F H ρ → OutL Z H0 F H σ ρ os vs → (∀ k ∈ walked os, k ∉ is) → assigns ρ is os = some ρ2 →
    ∃ F2, Path Z σ0 F0 H0 ρ0 (setAll σ is vs) F2 H ρ2
  | [], os, vs, σ, F, ρ, ρ2, p, h, nb, e => by
    cases os with
    | nil =>
      simp only [assigns, Option.some.injEq] at e
      subst e
      have e2 : vs = [] := h
      subst e2
      exact ⟨F, p⟩
    | cons o os => simp [assigns] at e
  | i :: is, os, vs, σ, F, ρ, ρ2, p, h, nb, e => by
    cases os with
    | nil => simp [assigns] at e
    | cons o os =>
      simp only [assigns] at e
      obtain ⟨ρ1, e1, e2⟩ := Option.bind_eq_some_iff.mp e
      obtain ⟨v, r, rfl, h1, f, ap, t⟩ := h
      obtain ⟨F2, p2, pu⟩ := assign_ok p h1 f e1
      have nb2 : ∀ k ∈ walked os, k ∈ walked (o :: os) := fun k hk => by
        cases o <;> first | exact hk | exact List.mem_cons_of_mem _ hk
      show ∃ F2, Path Z σ0 F0 H0 ρ0 (setAll (σ.set i (some v)) is r) F2 H ρ2
      exact assigns_ok p2 (OutL.put pu ap (fun k hk z => nb k (nb2 k hk) (by rw [z]; exact List.mem_cons_self)) t) (fun k hk z => nb k (nb2 k hk) (List.mem_cons_of_mem _ z)) e2
theorem agr_all : ∀ {is : List Nat} {vs : List V} {σ : L2.St}, Agr is σ (setAll σ is vs)
  | [], vs, σ => by
    unfold setAll
    exact .refl
  | i :: is, [], σ => by
    unfold setAll
    exact .refl
  | i :: is, v :: vs, σ => by
    unfold setAll
    exact (agr_set (A := i :: is) List.mem_cons_self).trans (agr_all.mono fun j hj => List.mem_cons_of_mem _ hj)
theorem nxt_some {o : Option Ev} (h : PostS Z E A σ F H ρ (nxt o) D) : ∃ ρ2, o = some ρ2 ∧ PostS Z E A σ F H ρ (.ok .nx ρ2) D := by
  cases o with
  | none => exact h.elim
  | some ρ2 => exact ⟨ρ2, rfl, h⟩
theorem setImp {e : Expr} {i : Nat} {f : Ev → R O} (hi : i ∈ A) : ∀ D σ H, LS Z E A (fun ρ => (f ρ).bind fun o ρ1 => nxt (assign ρ1 i o)) D σ H → tAsg (LE Z E f) (gName i) D σ H := fun D σ H ⟨F, ρ, s, p⟩ => partS s p fun o ρ1 v F1 H1 _ p1 r post => by
  obtain ⟨ρ2, e2, post⟩ := nxt_some post
  obtain ⟨F2, p2, _⟩ := assign_ok p1 r.1 r.2 e2
  exact post _ F2 H1 p2 (agr_set hi)
theorem snd_set {e : Expr} {i : Nat} {x : Str} {f : Ev → R O} {pos pos' : Pos} (hN : X.N.Nodup) (hi : X.N[i]? = some x) (hx : Loc X.env.scope x) (hf : X.fn x = true ∨ X.env.scope.names.lookup x = some .local) (he : PE X e (LE Z E f)) (hs : swapsWith e (some (.Name x pos')) pos.line X.env = pure false) :
    PS X (.Assign [.Name x pos'] e pos) (LS Z E [i] fun ρ => (f ρ).bind fun o ρ1 => nxt (assign ρ1 i o)) := psImp (ps_set hN hi hx he hs hf) (setImp (e := e) (List.mem_singleton.mpr rfl))
/-- a, (b, c) = a tuple of data -/
theorem snd_setT {tg e : Expr} {ts : List Tg} {f : Ev → R O} {pos : Pos} (he : PE X e (LE Z E f)) (hg : PG X tg (LGt Z (.tp ts))) (hs : swapsWithSole [tg] e pos.line X.env = pure false) (hw : swappedStores [tg] e X.env = pure none) (h1 : (assignEach [tg] X.env).map (·.2) = [PySem.assign tg X.env]) :
    PS X (.Assign [tg] e pos) (LS Z E (slotss ts) fun ρ => (f ρ).bind fun o ρ1 => match o with
      | .d x => nxt (bindT (.tp ts) x ρ1)
      | _ => .stuck) := by
  refine psImp (ps_asg he hg hs hw h1) fun D σ H ⟨F, ρ, s, p⟩ => partS s p fun o ρ1 v F1 H1 _ p1 r post => ?_
  cases o with
  | d x =>
    obtain ⟨ρ2, e2, post⟩ := nxt_some post
    exact ⟨F1, ρ1, x, ρ2, p1.st, r.1, e2, fun σ' p2 k l => post σ' F1 H1 (p1.trans p2) ⟨l, fun i hi => k i hi⟩⟩
  | _ => exact post.elim
/-! ### a, b = x, y -/
def parF (is : List Nat) (g : Ev → R (List O)) (ρ : Ev) : R Fl := (g ρ).bind fun os ρ1 => R.grd ((walked os).all fun k => !is.contains k) (nxt (assigns ρ1 is os))
theorem parImp {es : List Expr} {is : List Nat} {g : Ev → R (List O)} (s : Sta Z F H σ ρ) (p : PostS Z E is σ F H ρ (parF is g ρ) D) : LA Z E g σ H fun vs H1 => D.nx (setAll σ is vs) H1 ∧ ∀ H2, Same H1 H2 → D.nx (setAll σ is vs) H2 := by
  refine partS s p fun os ρ1 vs F1 H1 _ p1 r post => ?_
  by_cases hg : ((walked os).all fun k => !is.contains k) = true
  · rw [hg, R.grd_true] at post
    obtain ⟨ρ2, e2, post⟩ := nxt_some post
    obtain ⟨F2, p2⟩ := assigns_ok p1 r (fun k hk => by simpa using List.all_eq_true.mp hg k hk) e2
    exact ⟨post _ F2 H1 p2 agr_all, fun H2 sm => post _ F2 H2 (p2.same sm) agr_all⟩
  · have hf : ((walked os).all fun k => !is.contains k) = false := by simpa using hg
    rw [hf, R.grd_false] at post
    exact post.elim
theorem snd_par2 {i j : Nat} {x y : Str} {a b : Expr} {g : Ev → R (List O)} {px py pt pos : Pos} {kt k2 pt2} (hl : ∀ ρ os ρ1, g ρ = .ok os ρ1 → os.length = 2) (hc : X.calm = true) (hN : X.N.Nodup) (hi : X.N[i]? = some x) (hj : X.N[j]? = some y) (hij : i ≠ j)
    (hx : X.env.scope.names.lookup x = some .local) (hy : X.env.scope.names.lookup y = some .local) (ha : PA X [a, b] (LA Z E g))
    (hw : swappedStores [.Tuple [.Name x px, .Name y py] kt pt] (.Tuple [a, b] k2 pt2) X.env = pure (some [x, y])) :
    PS X (.Assign [.Tuple [.Name x px, .Name y py] kt pt] (.Tuple [a, b] k2 pt2) pos) (LS Z E [i, j] (parF [i, j] g)) := by
  refine psImp (ps_par hc hN hi hj hij hx hy ha hw) fun D σ H ⟨F, ρ, s, p⟩ => ?_
  have q := parImp (es := [a, b]) s p
  obtain ⟨F0, H0, ρ0, F1, ρ1, p1, q⟩ := q
  refine ⟨F0, H0, ρ0, F1, ρ1, p1, ?_⟩
  cases e : g ρ1 with
  | stuck => rw [e] at q; exact q
  | exc c ρ2 => rw [e] at q; exact q
  | ok os ρ2 =>
    rw [e] at q
    intro vs F' H' p' r
    have h2 := hl _ _ _ e
    rw [OutL.len r] at h2
    match vs, h2 with
    | [v, w], _ => exact ⟨v, w, rfl, (q [v, w] F' H' p' r).1⟩
theorem snd_par3 {i j l : Nat} {x y z : Str} {a b c : Expr} {g : Ev → R (List O)} {px py pz pt pos : Pos} {kt k2 pt2} (hln : ∀ ρ os ρ1, g ρ = .ok os ρ1 → os.length = 3) (hc : X.calm = true) (hN : X.N.Nodup) (hi : X.N[i]? = some x) (hj : X.N[j]? = some y) (hl : X.N[l]? = some z) (hij : i ≠ j) (hil : i ≠ l) (hjl : j ≠ l)
    (hx : X.env.scope.names.lookup x = some .local) (hy : X.env.scope.names.lookup y = some .local) (hz : X.env.scope.names.lookup z = some .local) (ha : PA X [a, b, c] (LA Z E g))
    (hw : swappedStores [.Tuple [.Name x px, .Name y py, .Name z pz] kt pt] (.Tuple [a, b, c] k2 pt2) X.env = pure (some [x, y, z])) :
    PS X (.Assign [.Tuple [.Name x px, .Name y py, .Name z pz] kt pt] (.Tuple [a, b, c] k2 pt2) pos) (LS Z E [i, j, l] (parF [i, j, l] g)) := by
  refine psImp (ps_par3 hc hN hi hj hl hij hil hjl hx hy hz ha hw) fun D σ H ⟨F, ρ, s, p⟩ => ?_
  have q := parImp (es := [a, b, c]) s p
  obtain ⟨F0, H0, ρ0, F1, ρ1, p1, q⟩ := q
  refine ⟨F0, H0, ρ0, F1, ρ1, p1, ?_⟩
  cases e : g ρ1 with
  | stuck => rw [e] at q; exact q
  | exc c ρ2 => rw [e] at q; exact q
  | ok os ρ2 =>
    rw [e] at q
    intro vs F' H' p' r
    have h2 := hln _ _ _ e
    rw [OutL.len r] at h2
    match vs, h2 with
    | [u, v, w], _ => exact ⟨u, v, w, rfl, (q [u, v, w] F' H' p' r).1⟩
/-- several plain names, one after the other -/
def gAll (is : List Nat) : TGs := fun vs σ H Q => vs.length = is.length ∧ Q (setAll σ is vs) H
theorem gall_nil : PGs X [] (gAll []) := pgsImp pgs_nil fun v σ H Q ⟨hl, q⟩ => by
  obtain rfl : v = [] := List.length_eq_zero_iff.mp hl
  exact ⟨rfl, q⟩
theorem gall_cons {e : Expr} {es : List Expr} {i : Nat} {is : List Nat} (h : PG X e (gName i)) (h2 : PGs X es (gAll is)) (hs : (assignEach (e :: es) X.env).map (·.2) = PySem.assign e X.env :: (assignEach es X.env).map (·.2)) : PGs X (e :: es) (gAll (i :: is)) :=
  pgsImp (pgs_cons h h2 hs) fun v σ H Q ⟨hl, q⟩ => by
    cases v with
    | nil => simp at hl
    | cons v vs => exact ⟨v, vs, rfl, by simpa using hl, q⟩
theorem snd_parG {ts es : List Expr} {is : List Nat} {g : Ev → R (List O)} {kt k2 : Nat} {pt pt2 pos : Pos} (hK : X.K = Z.K) (hln : ∀ ρ os ρ1, g ρ = .ok os ρ1 → os.length = is.length) (hz : is.length ≤ 1000) (hc : X.calm = true) (hg : PGs X ts (gAll is)) (hn : (assignEach ts X.env).length = is.length) (hst : (assignEach ts X.env).findIdx? (·.1) = none)
    (ha : PA X es (LA Z E g)) (hs : swapsWithSole [.Tuple ts kt pt] (.Tuple es k2 pt2) pos.line X.env = pure false) (hw : swappedStores [.Tuple ts kt pt] (.Tuple es k2 pt2) X.env = pure none) (h1 : (assignEach [.Tuple ts kt pt] X.env).map (·.2) = [PySem.assign (.Tuple ts kt pt) X.env]) :
    PS X (.Assign [.Tuple ts kt pt] (.Tuple es k2 pt2) pos) (LS Z E is (parF is g)) := by
  refine psImp (ps_asg (pe_tup ha) (pg_tup hc hg hn hst) hs hw h1) fun D σ H ⟨F, ρ, s, p⟩ => ?_
  have q := parImp (es := es) s p
  obtain ⟨F0, H0, ρ0, F1, ρ1, p1, q⟩ := q
  refine ⟨F0, H0, ρ0, F1, ρ1, p1, ?_⟩
  cases e : g ρ1 with
  | stuck => rw [e] at q; exact q
  | exc c ρ2 => rw [e] at q; exact q
  | ok os ρ2 =>
    rw [e] at q
    intro vs F' H' p' r
    have h2 := hln _ _ _ e
    rw [OutL.len r] at h2
    refine ⟨by rw [sizeLine_eq]; omega, fun a hn => ⟨a, vs, rfl, SqT.of upd_same, h2, h2, ?_⟩⟩
    refine (q vs F' H' p' r).2 _ fun b o eb => ?_
    rw [upd_ne (fun z => by rw [z, hn] at eb; cases eb)]
    exact eb
/-! ### loops -/
theorem snd_for {iter tg : Expr} {body : List Stmt} {t : Tg} {gi : Ev → R (List Ev.D × List Nat)} {fb : Ev → R Fl} {pos : Pos} (hp : PassesOwn (model X.prog X.w) X.A X.env X.xe) (hc : X.calm = true) (hi : PI X tg iter (LI Z E gi)) (hg : PG X tg (LGt Z t)) (hb : PSs X body (LS Z E B fb)) (hA : A = slots t ++ B) (hs : ∀ x, foldedSetIterable iter X.env x = pure x) :
    PS X (.For tg iter body [] pos) (LS Z E A fun ρ => (gi ρ).bind fun p ρ1 => R.grd (p.2.all fun i => !A.contains i) (forL p.2 ρ1 t fb p.1 ρ1)) := by
  subst hA
  have hb := PSs.more (B := slots t ++ B) hb fun i h => List.mem_append_right _ h
  refine psImp (ps_for hp hc hi hg hb hs) fun D σ H ⟨F, ρ, s, p⟩ => ?_
  refine partS s p fun xw ρ1 J F1 H1 _ p1 r post => ?_
  obtain ⟨xs, ws⟩ := xw
  obtain ⟨St, iw, hst⟩ := r
  simp only at iw hst post
  by_cases hwa : (ws.all fun i => !(slots t ++ B).contains i) = true
  · rw [hwa, R.grd_true] at post
    have nw : ∀ i ∈ ws, i ∉ slots t ++ B := fun i hi => by simpa using List.all_eq_true.mp hwa i hi
    refine ⟨fun i m σ' H' => m = xs.length - i ∧ i ≤ xs.length ∧ ∃ F' ρ', Path Z σ F1 H1 ρ1 σ' F' H' ρ' ∧ Agr (slots t ++ B) σ σ' ∧ PostS Z E (slots t ++ B) σ' F' H' ρ' (forL ws ρ1 t fb (xs.drop i) ρ') D,
      ⟨xs.length, by omega, Nat.zero_le _, F1, ρ1, .refl p1.st, .refl, by rw [List.drop_zero]; exact post.step p1 .refl⟩, ?_⟩
    rintro i m σ' H' ⟨rfl, hi, F', ρ', p', a', q⟩
    have std : stands ρ1 ρ' ws = true → St F' H' := fun h => hst _ _ _ _ (p'.later p1.st) (fun j hj => a'.out j (nw j hj)) h
    rcases Nat.lt_or_ge i xs.length with hlt | hge
    · have ed : xs.drop i = xs[i] :: xs.drop (i + 1) := List.drop_eq_getElem_cons hlt
      rw [ed] at q
      simp only [forL] at q
      cases hsd : stands ρ1 ρ' ws with
      | false => simp only [hsd, Bool.false_eq_true, if_false] at q; exact q.elim
      | true =>
        simp only [hsd, if_true] at q
        refine .inr ⟨iw.go i F' H' (std hsd) hlt, fun σ2 H2 => ∃ F2 ρ2, Path Z σ F1 H1 ρ1 σ2 F2 H2 ρ2 ∧ Agr (slots t ++ B) σ σ2 ∧ PostS Z E (slots t ++ B) σ2 F2 H2 ρ2 (forL ws ρ1 t fb (xs.drop (i + 1)) ρ2) D,
          fun σ2 H2 nx => ⟨xs.length - (i + 1), by omega, rfl, hlt, nx⟩, fun v Hy y => ?_⟩
        obtain ⟨sm, rx⟩ := iw.yld i xs[i] F' H' v Hy (std hsd) (List.getElem?_eq_getElem hlt) y
        have py := p'.same sm
        have q := q.step ((Path.refl p'.st).same sm) .refl
        cases eb : bindT t xs[i] ρ' with
        | none => rw [eb] at q; exact q.elim
        | some ρ2 =>
          rw [eb] at q
          simp only [R.opt_some] at q
          refine ⟨F', ρ', xs[i], ρ2, py.st, rx, eb, fun σ2 pb kb lb => ?_⟩
          have ab : Agr (slots t ++ B) σ' σ2 := ⟨lb, fun j hj => kb j fun z => hj (List.mem_append_left _ z)⟩
          have q := q.step pb ab
          refine ⟨F', ρ2, pb.st, ?_⟩
          cases ef : fb ρ2 with
          | stuck => rw [ef] at q; exact q.elim
          | exc c ρ3 => rw [ef] at q; exact q
          | ok fl ρ3 =>
            rw [ef] at q
            simp only [R.bind_ok] at q
            intro σ3 F3 H3 p3 a3
            cases fl with
            | nx => exact ⟨F3, ρ3, (py.trans pb).trans p3, (a'.trans ab).trans a3, q.step p3 a3⟩
            | cont => exact ⟨F3, ρ3, (py.trans pb).trans p3, (a'.trans ab).trans a3, q.step p3 a3⟩
            | brk => exact q σ3 F3 H3 p3 a3
            | ret o => exact q σ3 F3 H3 p3 a3
    · have ei : i = xs.length := by omega
      subst ei
      rw [List.drop_length] at q
      simp only [forL] at q
      cases hsd : stands ρ1 ρ' ws with
      | false => simp only [hsd, Bool.false_eq_true, if_false] at q; exact q.elim
      | true =>
        simp only [hsd, if_true] at q
        exact .inl ⟨iw.stop F' H' (std hsd), q σ' F' H' (.refl p'.st) .refl⟩
  · have hf : (ws.all fun i => !(slots t ++ B).contains i) = false := by simpa using hwa
    rw [hf, R.grd_false] at post
    exact post.elim
theorem snd_while {c : Expr} {body : List Stmt} {fc : Ev → R Bool} {fb : Ev → R Fl} {pos : Pos} {fuel : Nat} (hp : PassesOwn (model X.prog X.w) X.A X.env X.xe) (hc : PT X c (LT Z E fc)) (hb : PSs X body (LS Z E A fb)) :
    PS X (.While c body [] pos) (LS Z E A fun ρ => whileL fc fb fuel ρ) := by
  refine psImp (ps_while hp hc hb) fun D σ H ⟨F, ρ, s, p⟩ => ?_
  refine ⟨fun m σ' H' => ∃ F' ρ', Path Z σ F H ρ σ' F' H' ρ' ∧ Agr A σ σ' ∧ PostS Z E A σ' F' H' ρ' (whileL fc fb m ρ') D, ⟨fuel, F, ρ, .refl s, .refl, p⟩, ?_⟩
  rintro m σ' H' ⟨F', ρ', p', a', q⟩
  cases m with
  | zero => exact q.elim
  | succ m =>
    simp only [whileL, ifB] at q
    refine partS p'.st q fun b ρ2 b' F2 H2 _ p2 r q => ?_
    obtain rfl : b' = b := r
    cases b' with
    | true =>
      simp only [if_true] at q ⊢
      refine ⟨fun σ3 H3 => ∃ F3 ρ3, Path Z σ F H ρ σ3 F3 H3 ρ3 ∧ Agr A σ σ3 ∧ PostS Z E A σ3 F3 H3 ρ3 (whileL fc fb m ρ3) D, fun σ3 H3 nx => ⟨m, by omega, nx⟩, F2, ρ2, p2.st, ?_⟩
      have q := q.step p2 .refl
      cases ef : fb ρ2 with
      | stuck => rw [ef] at q; exact q.elim
      | exc c ρ3 => rw [ef] at q; exact q
      | ok fl ρ3 =>
        rw [ef] at q
        simp only [R.bind_ok] at q
        intro σ3 F3 H3 p3 a3
        cases fl with
        | nx => exact ⟨F3, ρ3, (p'.trans p2).trans p3, a'.trans a3, q.step p3 a3⟩
        | cont => exact ⟨F3, ρ3, (p'.trans p2).trans p3, a'.trans a3, q.step p3 a3⟩
        | brk => exact q σ3 F3 H3 p3 a3
        | ret o => exact q σ3 F3 H3 p3 a3
    | false =>
      simp only [Bool.false_eq_true, if_false] at q ⊢
      exact q σ' F2 H2 p2 .refl
end
end Ev
/-! Ev11: x[k] = v, name op= e, raise; the context of a comprehension's block. -/
namespace Ev
open PySem PySem.Spec PyProof.Rows L2
section
variable {n : Nat} {E : XK} {X : Cx} {Z : Wo} {σ : L2.St} {F F0 : Fz} {H H0 : Hp} {ρ ρ0 ρ2 : Ev} {A : List Nat} {D : Ends}
theorem place_ixN {n : Nat} {i : Int} : place n i = ixN n i := by
  unfold place ixN
  by_cases h : 0 ≤ i
  · simp only [if_pos h]
  · simp only [if_neg h]
    congr 2
    rw [Int.add_comm]
def setIxF (i : Nat) (fe fk : Ev → R O) (ρ : Ev) : R Fl := (fe ρ).bind fun o ρ1 => R.opt (keep ρ1 o) fun p => R.grd (isL p.2 i) ((fk p.2).bind fun y ρ2 => nxt (setAt ρ2 i y p.1))
theorem snd_setIx {i : Nat} {x : Str} {ke e : Expr} {fe fk : Ev → R O} {px p2 pos : Pos} (hv : PE X (.Name x px) (tVar i)) (he : PE X e (LE Z E fe)) (hk : PE X ke (LE Z E fk)) (hsl : isSlice ke = false) (hs : swapsWithSole [.Subscript (.Name x px) ke p2] e pos.line X.env = pure false) :
    PS X (.Assign [.Subscript (.Name x px) ke p2] e pos) (LS Z E A (setIxF i fe fk)) := by
  have ha : ∀ v, PySem.assign (.Subscript (.Name x px) ke p2) X.env v = (do
      let ov ← holding [v] (eval (.Name x px) X.env)
      let iv ← holding [v, ov] (eval ke X.env)
      standAt p2
      holding [v, ov, iv] (setItem ov iv v)
      release [v, ov, iv] []) := fun v => by
    cases ke <;> first | rfl | (cases hsl)
  refine psImp (ps_asg he (pg_sub hv hk set_list ha) hs (by rfl) (by rfl)) fun D σ H ⟨F, ρ, s, p⟩ => ?_
  refine partS s p fun o ρ1 v F1 H1 _ p1 r post => ?_
  cases ek : keep ρ1 o with
  | none => simp only [ek] at post; exact post.elim
  | some q =>
    obtain ⟨d, ρ2⟩ := q
    simp only [ek, R.opt_some] at post
    obtain ⟨F2, p2, rd, _⟩ := keep_ok p1 r.1 r.2 ek
    by_cases hi : isL ρ2 i = true
    · rw [hi, R.grd_true] at post
      have hq : ∃ q xs, ρ2[i]? = some (some (W.L q xs)) := by
        unfold isL at hi
        split at hi
        · rename_i q xs e
          exact ⟨q, xs, e⟩
        · cases hi
      obtain ⟨q0, xs0, e0⟩ := hq
      obtain ⟨a, vs0, ea, _⟩ := p2.st.ownL e0
      refine ⟨.ref a, ea, partS p2.st (post.step p2 .refl) fun y ρ3 w F3 H3 _ p3 r3 post3 => ?_⟩
      obtain ⟨ρ4, e4, post3⟩ := nxt_some post3
      unfold setAt at e4
      generalize hg : ρ3[i]? = gi at e4
      split at e4
      · rename_i q xs j _
        have e5 := hg
        obtain ⟨m, em, rfl⟩ := Option.map_eq_some_iff.mp e4
        obtain ⟨a', vs, es, eh, rx⟩ := p3.st.ownL e5
        rw [ea] at es
        cases (Option.some.inj (Option.some.inj es))
        have up := p2.st.up p3.sp
        rw [place_ixN, rx.len] at em
        have ew : w = .int j := Rp.inv_int (Out.dp r3.1)
        exact ⟨a, vs, j, m, rfl, ew, eh, em, post3 σ F3 _ (set_own p3 e5 ea (Rps.set (rd.up up) m rx)).1 .refl⟩
      · cases e4
    · have hf : isL ρ2 i = false := by simpa using hi
      rw [hf, R.grd_false] at post
      exact post.elim
/-! ### name op= e, of ints -/
def augF (op : Bop) (i : Nat) (fe : Ev → R O) (ρ : Ev) : R Fl := match ρ[i]? with
  | some (some (.d (.int a))) => (fe ρ).bind fun o ρ1 => R.opt (optInt o) fun b => R.opt (augI op a b) fun z => nxt (store ρ1 i (.d (.int z)))
  | _ => .stuck
theorem snd_aug {i : Nat} {x : Str} {e : Expr} {fe : Ev → R O} {op : Bop} {o : Operator} {pos pos' : Pos} {h : Int → Int → Int} (ho : PIp X o (ipI h)) (hop : ∀ a b z, augI op a b = some z → z = h a b) (hN : X.N.Nodup) (hi : X.N[i]? = some x) (hx : Loc X.env.scope x) (hf : X.fn x = true ∨ X.env.scope.names.lookup x = some .local) (he : PE X e (LE Z E fe)) :
    PS X (.AugAssign (.Name x pos') o e pos) (LS Z E [i] (augF op i fe)) := by
  refine psImp (ps_aug hN hi hx he ho hf) fun D σ H ⟨F, ρ, s, p⟩ => ?_
  unfold augF at p
  split at p
  · rename_i a ea
    obtain ⟨v, ev, rv⟩ := s.rep i _ ea
    have ev' : v = .int a := Rp.inv_int (show Rp Z F H (.int a) v from rv)
    refine ⟨v, ev, partS s p fun o ρ1 w F1 H1 _ p1 r post => ?_⟩
    unfold optInt at post
    split at post
    · rename_i b _
      simp only [R.opt_some] at post
      cases ez : augI op a b with
      | none => rw [ez] at post; exact post.elim
      | some z =>
        rw [ez] at post
        obtain ⟨ρ2, e2, post⟩ := nxt_some post
        unfold store at e2
        split at e2
        · cases e2
          refine ⟨a, b, ev', Rp.inv_int r.1.dp, ?_⟩
          rw [← hop a b z ez]
          exact post _ F1 H1 (p1.trans (put_d p1.st (by simp only [Rp]))) (agr_set (List.mem_singleton.mpr rfl))
        · cases e2
    · exact post.elim
  · exact p.elim
/-! ### raise -/
structure Exc (Y : Gw) (c : Nat) (x : Str) (C : Addr) : Prop where
  cls : Y.Z.cls c = .ref C
  base : ∃ B newId initId bmB, ExcBaseFacts B newId initId bmB ∧ PySem.W.excIn Y.Z.K C bmB newId = true
  mg : Y.mg x = some (.ref C)
  kp : PySem.W.keepIn Y.Z.K (.ref C) = true
  sub : PySem.W.subIn Y.Z.K (.ref C) (.type "BaseException") = some true
  ty : PySem.W.typeIn Y.Z.K (.ref C) = some (.type "type")
theorem snd_raise {Y : Gw} {c : Nat} {x m : Str} {C : Addr} {j : Nat} {p p2 pos pos' : Pos} (hK : X.K = Y.Z.K) (hmg : X.mg = Y.mg) (hc : X.calm = true) (tk : Takes X (fun cls d _ H => E cls d H)) (e : Exc Y c x C) (hg : Gl X x) (hd : (x == ("__debug__" : Str)) = false) :
    PS X (.Raise (some (.Call (.Name x p) [.Constant (.str m) j p2] [] pos)) none pos') (LS Y.Z E A fun ρ => .exc c ρ) := by
  obtain ⟨B, newId, initId, bmB, F, q⟩ := e.base
  refine psImp (ps_raise hc tk (pmk_own F (by rw [hK]; exact q) (by rw [hmg]; exact e.mg) (by rw [hK]; exact e.kp) (raises_own (by rw [hK]; exact e.sub) (by rw [hK]; exact e.ty)) hg hd)) fun D σ H ⟨F, ρ, s, p⟩ => ?_
  have z := p σ F H (.refl s)
  rw [e.cls] at z
  exact z
end
end Ev
/-! Ev12: a list comprehension of two clauses. -/
namespace Ev
open PySem PySem.Spec PyProof.Rows L2
section
variable {n : Nat} {E : XK} {X : Cx} {Z : Wo} {σ σ' σ0 σ1 σ2 : L2.St} {F F' F0 F1 F2 : Fz} {H H' H1 H0 H2 : Hp} {ρ ρ' ρ0 ρ1 ρ2 : Ev} {α β γ δ : Type}
/-- a path on which the list at D may be written, too -/
structure PD (Z : Wo) (D : Addr) (σ0 : L2.St) (F0 : Fz) (H0 : Hp) (ρ0 : Ev) (σ : L2.St) (F : Fz) (H : Hp) (ρ : Ev) : Prop where
  keep : ∀ b o, H0 b = some o → ¬ Own σ0 ρ0 b → b ≠ D → (∀ ps, o ≠ .tbl ps) → H b = some o
  there : ∀ b, ¬ NoO (H0 b) → ¬ NoO (H b)
  fin : ∀ b, F0 b → F b
  dn : ∃ vs, H0 D = some (.lst vs)
  dF : ¬ F0 D
  sub : ∀ b, Own σ ρ b → Own σ0 ρ0 b ∨ NoO (H0 b)
theorem PD.path {D : Addr} (a : PD Z D σ0 F0 H0 ρ0 σ F H ρ) (p : Path Z σ F H ρ σ' F' H' ρ') : PD Z D σ0 F0 H0 ρ0 σ' F' H' ρ' := by
  have own : ∀ b o, H0 b = some o → ¬ Own σ0 ρ0 b → (∀ ps, o ≠ .tbl ps) → ¬ Own σ ρ b := fun b o e n t z => by
    rcases a.sub b z with y | y
    · exact n y
    · rw [e] at y
      obtain ⟨ps, y⟩ := y.tbl
      exact t ps y
  refine ⟨fun b o e n d t => p.sp.keep b o (a.keep b o e n d t) (own b o e n t) t, fun b n => p.sp.there b (a.there b n), fun b f => p.sp.fin b (a.fin b f), a.dn, a.dF, fun b z => ?_⟩
  rcases p.sub b z with y | y
  · exact a.sub b y
  · exact .inr (.of_not fun q => a.there b q y)
theorem PD.kept {D : Addr} (a : PD Z D σ0 F0 H0 ρ0 σ F H ρ) (hf : ∀ b, F b → F2 b) (ho : ∀ b, Own σ ρ2 b → Own σ ρ b) : PD Z D σ0 F0 H0 ρ0 σ F2 H ρ2 := ⟨a.keep, a.there, fun b f => hf b (a.fin b f), a.dn, a.dF, fun b z => a.sub b (ho b z)⟩
theorem PD.grow {D : Addr} {ws : List V} (a : PD Z D σ0 F0 H0 ρ0 σ F H ρ) : PD Z D σ0 F0 H0 ρ0 σ F (upd H D (.lst ws)) ρ := by
  refine ⟨fun b o e n d t => ?_, fun b n => ?_, a.fin, a.dn, a.dF, a.sub⟩
  · rw [upd_ne d]
    exact a.keep b o e n d t
  · by_cases z : b = D
    · rw [z, upd_same]; exact id
    · rw [upd_ne z]; exact a.there b n
theorem PD.later {D : Addr} (a : PD Z D σ1 F1 H1 ρ1 σ F H ρ) (s1 : Sta Z F1 H1 σ1 ρ1) (s : Sta Z F H σ ρ) (h0 : ¬ NoO (H0 D)) : Later Z H0 σ1 F1 H1 ρ1 σ F H ρ := by
  obtain ⟨vd, ed⟩ := a.dn
  have nD : ∀ b o, H1 b = some o → (∀ vs, o ≠ .lst vs) → b ≠ D := fun b o e n z => by
    rw [z, ed] at e
    cases e
    exact n vd rfl
  have nO : ∀ b o, H1 b = some o → (∀ vs, o ≠ .lst vs) → (∀ ps, o ≠ .dK ps) → (∀ ps, o ≠ .dT ps) → ¬ Own σ1 ρ1 b := fun b o e n1 n2 n3 z => by
    rcases (s1.kind z).1 with ⟨_, q⟩ | ⟨_, q⟩ | ⟨_, q⟩
    · rw [e] at q; cases q; exact n1 _ rfl
    · rw [e] at q; cases q; exact n2 _ rfl
    · rw [e] at q; cases q; exact n3 _ rfl
  refine ⟨s, ⟨fun b vs e => ?_, fun b o u e => ?_, a.fin, fun b vs f e => ?_⟩, fun b o e0 e n t => a.keep b o e n (fun z => h0 (by rw [← z]; exact e0)) t⟩
  · exact a.keep b _ e (nO b _ e (fun _ z => by cases z) (fun _ z => by cases z) fun _ z => by cases z) (nD b _ e fun _ z => by cases z) fun _ z => by cases z
  · exact a.keep b _ e (nO b _ e (fun _ z => by cases z) (fun _ z => by cases z) fun _ z => by cases z) (nD b _ e fun _ z => by cases z) fun _ z => by cases z
  · exact a.keep b _ e (fun z => (s1.kind z).2 f) (fun z => a.dF (by rw [← z]; exact f)) fun _ z => by cases z
theorem snd_comp2 {elt tg iter tg1 iter1 : Expr} {ifs1 : List Expr} {scope : Scope} {own : List (Str × Nat)} {ow : List Nat} {pos : Pos} {gi g2 : Ev → R (List D × List Nat)} {t t2 : Tg} {ft : Ev → R Bool} {fe : Ev → R O} (hc : X.calm = true) (hN : X.N.Nodup) (hi : PI X tg iter (LI Z E gi)) (ok : BlkOk X.N X.env.scope scope own)
    (hw : own.map (·.2) = ow) (hts : ∀ i ∈ slots t, i ∈ ow) (hts2 : ∀ i ∈ slots t2, i ∈ ow)
    (hg : ∀ (s : Shared) (H : Hp) (C : Addr) (cl : List (Str × Addr)) (fp : List Addr), PG (X.blk s H scope (compEnvC scope cl C X.env) fp) tg (LGt Z t))
    (hi1 : ∀ (s : Shared) (H : Hp) (C : Addr) (cl : List (Str × Addr)) (fp : List Addr), PI (X.blk s H scope (compEnvC scope cl C X.env) fp) tg1 iter1 (LI Z E0 g2))
    (hg1 : ∀ (s : Shared) (H : Hp) (C : Addr) (cl : List (Str × Addr)) (fp : List Addr), PG (X.blk s H scope (compEnvC scope cl C X.env) fp) tg1 (LGt Z t2))
    (ht1 : ∀ (s : Shared) (H : Hp) (C : Addr) (cl : List (Str × Addr)) (fp : List Addr), PTs (X.blk s H scope (compEnvC scope cl C X.env) fp) ifs1 (LT Z E0 ft))
    (he : ∀ (s : Shared) (H : Hp) (C : Addr) (cl : List (Str × Addr)) (fp : List Addr), PE (X.blk s H scope (compEnvC scope cl C X.env) fp) elt (LE Z E0 fe)) (hs : ∀ x, foldedSetIterable iter X.env x = pure x) (hs1 : ∀ env x, foldedSetIterable iter1 env x = pure x) :
    PE X (.ListComp elt [⟨tg, iter, [], 0⟩, ⟨tg1, iter1, ifs1, 0⟩] scope pos) (LE Z E fun ρ => (gi ρ).bind fun p ρ1 => compEnd ow ρ1 p.2 (walkL (compTurn2 ow ρ1 p.2 t g2 (slots t2) fun ρ3 ws2 => compTurn (slots t2) ρ3 ws2 t2 ft fe) p.1 [] (wipe ρ1 ow))) := by
  subst hw
  refine peImp (pe_lc2 (vs1 := slots t2) hc hN hi ok hts2 hg (fun _ _ _ _ _ => pts_nil) hi1 hg1 ht1 he hs hs1) fun σ H Q q => lcImp2 hts hts2 q
where
  lcImp2 {σ : L2.St} {H : Hp} {Q : VK} {gi g2 : Ev → R (List D × List Nat)} {ow : List Nat} {t t2 : Tg} {ft : Ev → R Bool} {fe : Ev → R O} (hts : ∀ i ∈ slots t, i ∈ ow) (hts2 : ∀ i ∈ slots t2, i ∈ ow)
      (q : LE Z E (fun ρ => (gi ρ).bind fun p ρ1 => compEnd ow ρ1 p.2 (walkL (compTurn2 ow ρ1 p.2 t g2 (slots t2) fun ρ3 ws2 => compTurn (slots t2) ρ3 ws2 t2 ft fe) p.1 [] (wipe ρ1 ow))) σ H Q) :
      tLc2 (LI Z E gi) (LGt Z t) tYes (LI Z E0 g2) (LGt Z t2) (LT Z E0 ft) (LE Z E0 fe) ow (slots t2) σ H Q := by
    obtain ⟨F0, H0, ρ0, F, ρ, p, post⟩ := q
    refine run p post fun xw ρ1 J F1 H1 p1 p01 r post => ?_
    obtain ⟨xs, ws⟩ := xw
    obtain ⟨St, iw, hst⟩ := r
    intro D hD
    unfold compEnd at post
    generalize hturn : (compTurn2 ow ρ1 ws t g2 (slots t2) fun ρ3 ws2 => compTurn (slots t2) ρ3 ws2 t2 ft fe) = turn at post
    cases e : walkL turn xs [] (wipe ρ1 ow) with
    | stuck => simp only [e, R.bind_stuck, R.calm] at post; exact post.elim
    | exc c ρ5 => simp only [e, R.bind_exc, R.calm] at post; exact post.elim
    | ok accf ρ5 =>
      simp only [e, R.bind_ok] at post
      by_cases hs5 : stands ρ1 ρ5 ws = true
      · rw [if_pos hs5] at post
        have w0 := wipe_path ow p01.st
        have n1 : ¬ F1 D := fun f => p01.st.ft D f (.none hD)
        have c0 : CI Z (L2.wipe σ ow) F1 H1 (wipe ρ1 ow) D (L2.wipe σ ow) F1 (upd H1 D (.lst [])) (wipe ρ1 ow) [] := by
          have sm : Same H1 (upd H1 D (.lst [])) := fun b o e => by
            rw [upd_ne (fun z => by rw [z, hD] at e; cases e)]; exact e
          refine ⟨(Path.refl w0.st).same sm, ⟨[], upd_same, .nil⟩, n1, fun z => ?_⟩
          rcases (w0.st.kind z).1 with ⟨_, y⟩ | ⟨_, y⟩ | ⟨_, y⟩ <;> · rw [hD] at y; cases y
        refine ⟨fun i m H => m = xs.length - i ∧ i ≤ xs.length ∧ ∃ F ρ acc, CI Z (L2.wipe σ ow) F1 H1 (wipe ρ1 ow) D (L2.wipe σ ow) F H ρ acc ∧ walkL turn (xs.drop i) acc ρ = .ok accf ρ5,
          ⟨xs.length, by omega, Nat.zero_le _, F1, wipe ρ1 ow, [], c0, by rw [List.drop_zero]; exact e⟩, ?_⟩
        rintro i m H ⟨rfl, hi, F, ρ, acc, c, ew⟩
        have std : stands ρ1 ρ ws = true → St F H := fun h => by
          refine hst _ _ _ _ ((w0.trans c.path).later p01.st) (fun j hj => ?_) h
          obtain ⟨p', q', ys, e1, e2⟩ := stands_get h hj
          obtain ⟨v, ev, _⟩ := c.path.st.rep j _ e2
          obtain ⟨h1, h2⟩ := wipe_some ev
          rw [ev, h1]
        rcases Nat.lt_or_ge i xs.length with hlt | hge
        · have ed : xs.drop i = xs[i] :: xs.drop (i + 1) := List.drop_eq_getElem_cons hlt
          rw [ed] at ew
          simp only [walkL] at ew
          have hsd : stands ρ1 ρ ws = true := by
            cases b : stands ρ1 ρ ws with
            | true => rfl
            | false => rw [← hturn] at ew; simp [compTurn2, b] at ew
          have et : turn xs[i] acc ρ = R.opt (bindT t xs[i] ρ) fun ρ2 => (g2 ρ2).bind fun p ρ3 => (walkL (compTurn (slots t2) ρ3 p.2 t2 ft fe) p.1 acc (wipe ρ3 (slots t2))).bind fun acc' ρ6 =>
              if stands ρ3 ρ6 p.2 = true then .ok acc' (wipe ρ6 ow) else .stuck := by
            rw [← hturn]
            simp only [compTurn2, hsd, if_true]
          rw [et] at ew
          refine .inr ⟨iw.go i F H (std hsd) hlt, fun H => ∃ F ρ acc, CI Z (L2.wipe σ ow) F1 H1 (wipe ρ1 ow) D (L2.wipe σ ow) F H ρ acc ∧ walkL turn (xs.drop (i + 1)) acc ρ = .ok accf ρ5,
            fun H' nx => ⟨xs.length - (i + 1), by omega, rfl, hlt, nx⟩, fun v H' y => ?_⟩
          obtain ⟨sm, rx⟩ := iw.yld i xs[i] F H v H' (std hsd) (List.getElem?_eq_getElem hlt) y
          have c1 := c.step ((Path.refl c.path.st).same sm)
          cases eb : bindT t xs[i] ρ with
          | none => rw [eb] at ew; simp at ew
          | some ρ2 =>
            rw [eb] at ew
            simp only [R.opt_some] at ew
            refine ⟨F, ρ, xs[i], ρ2, c1.path.st, rx, eb, fun σ2 pb kb lb => ?_⟩
            have c2 := c1.step pb
            have hwp : L2.wipe σ2 ow = L2.wipe σ ow := wipe_same (fun j hj => kb j fun z => hj (hts j z)) lb
            refine ⟨hwp, ?_⟩
            unfold tYes
            simp only [if_true]
            refine here c2.path.st ?_
            cases eg : g2 ρ2 with
            | stuck => rw [eg] at ew; simp at ew
            | exc k ρ3 => rw [eg] at ew; simp at ew
            | ok pw ρ3 =>
              obtain ⟨ys, ws2⟩ := pw
              rw [eg] at ew
              simp only [R.bind_ok] at ew
              intro J1 F3 H3 p3 r3
              obtain ⟨St1, iw1, hst1⟩ := r3
              have c3 := c2.step p3
              obtain ⟨vd, eD3, _⟩ := c3.lst
              -- the inner loop's end
              cases ei : walkL (compTurn (slots t2) ρ3 ws2 t2 ft fe) ys acc (wipe ρ3 (slots t2)) with
              | stuck => rw [ei] at ew; simp at ew
              | exc k ρ4 => rw [ei] at ew; simp at ew
              | ok acc6 ρ6 =>
                rw [ei] at ew
                simp only [R.bind_ok] at ew
                by_cases hs6 : stands ρ3 ρ6 ws2 = true
                · rw [if_pos hs6] at ew
                  simp only [R.bind_ok] at ew
                  have w3 := wipe_path (slots t2) c3.path.st
                  have hD' : ¬ NoO (H' D) := by
                    obtain ⟨vs, q, _⟩ := c2.lst
                    rw [q]; exact id
                  refine ⟨fun j k H => k = ys.length - j ∧ j ≤ ys.length ∧ ∃ F ρ acc, CI Z (L2.wipe σ ow) F1 H1 (wipe ρ1 ow) D (L2.wipe σ2 (slots t2)) F H ρ acc ∧ PD Z D σ2 F3 H3 ρ3 (L2.wipe σ2 (slots t2)) F H ρ ∧ walkL (compTurn (slots t2) ρ3 ws2 t2 ft fe) (ys.drop j) acc ρ = .ok acc6 ρ6,
                    ⟨ys.length, by omega, Nat.zero_le _, F3, wipe ρ3 (slots t2), acc, c3.step w3, PD.path ⟨fun b o e _ _ _ => e, fun b n => n, fun b f => f, ⟨vd, eD3⟩, c3.nf, fun b z => .inl z⟩ w3, by rw [List.drop_zero]; exact ei⟩, ?_⟩
                  rintro j k H ⟨rfl, hj, F, ρ, acc, cj, pd, ewj⟩
                  have std1 : stands ρ3 ρ ws2 = true → St1 F H := fun h => by
                    refine hst1 _ _ _ _ (pd.later c3.path.st cj.path.st hD') (fun j hj => ?_) h
                    obtain ⟨p', q', zs, e1, e2⟩ := stands_get h hj
                    obtain ⟨v, ev, _⟩ := cj.path.st.rep j _ e2
                    obtain ⟨h1, h2⟩ := wipe_some ev
                    rw [ev, h1]
                  rcases Nat.lt_or_ge j ys.length with hltj | hgej
                  · have edj : ys.drop j = ys[j] :: ys.drop (j + 1) := List.drop_eq_getElem_cons hltj
                    rw [edj] at ewj
                    simp only [walkL] at ewj
                    have hsdj : stands ρ3 ρ ws2 = true := by
                      cases b : stands ρ3 ρ ws2 with
                      | true => rfl
                      | false => simp [compTurn, b] at ewj
                    simp only [compTurn, hsdj, if_true] at ewj
                    refine .inr ⟨iw1.go j F H (std1 hsdj) hltj, fun H => ∃ F ρ acc, CI Z (L2.wipe σ ow) F1 H1 (wipe ρ1 ow) D (L2.wipe σ2 (slots t2)) F H ρ acc ∧ PD Z D σ2 F3 H3 ρ3 (L2.wipe σ2 (slots t2)) F H ρ ∧ walkL (compTurn (slots t2) ρ3 ws2 t2 ft fe) (ys.drop (j + 1)) acc ρ = .ok acc6 ρ6,
                      fun H' nx => ⟨ys.length - (j + 1), by omega, rfl, hltj, nx⟩, fun v Hy y => ?_⟩
                    obtain ⟨smj, rxj⟩ := iw1.yld j ys[j] F H v Hy (std1 hsdj) (List.getElem?_eq_getElem hltj) y
                    have pj := (Path.refl cj.path.st).same smj
                    have d1 := cj.step pj
                    have q1 := pd.path pj
                    cases ebj : bindT t2 ys[j] ρ with
                    | none => rw [ebj] at ewj; simp at ewj
                    | some ρb =>
                      rw [ebj] at ewj
                      simp only [R.opt_some] at ewj
                      refine ⟨F, ρ, ys[j], ρb, d1.path.st, rxj, ebj, fun σ5 pb5 kb5 lb5 => ?_⟩
                      have d2 := d1.step pb5
                      have q2 := q1.path pb5
                      have hwp5 : L2.wipe σ5 (slots t2) = L2.wipe σ2 (slots t2) := wipe_same (fun j hj => kb5 j hj) lb5
                      refine ⟨by rw [hwp5], here d2.path.st ?_⟩
                      unfold ifB at ewj
                      cases et5 : ft ρb with
                      | stuck => rw [et5] at ewj; simp at ewj
                      | exc k ρ3 => rw [et5] at ewj; simp at ewj
                      | ok b ρt =>
                        rw [et5] at ewj
                        simp only [R.bind_ok] at ewj
                        intro b' Ft Ht pt eb'
                        have eb' : b' = b := eb'
                        subst eb'
                        have d3 := d2.step pt
                        have q3 := q2.path pt
                        cases b' with
                        | false =>
                          simp only [Bool.false_eq_true, if_false, R.bind_ok] at ewj ⊢
                          have wp := wipe_path (slots t2) d3.path.st
                          rw [hwp5] at wp
                          exact ⟨Ft, wipe ρt (slots t2), acc, d3.step wp, q3.path wp, ewj⟩
                        | true =>
                          simp only [if_true] at ewj ⊢
                          refine here d3.path.st ?_
                          cases ee : fe ρt with
                          | stuck => rw [ee] at ewj; simp at ewj
                          | exc k ρ4 => rw [ee] at ewj; simp at ewj
                          | ok o ρ4 =>
                            rw [ee] at ewj
                            simp only [R.bind_ok] at ewj
                            intro y4 F4 H4 p4 r4
                            have d4 := d3.step p4
                            have q4 := q3.path p4
                            cases ek : keep ρ4 o with
                            | none => rw [ek] at ewj; simp at ewj
                            | some kp =>
                              obtain ⟨x5, ρ5'⟩ := kp
                              rw [ek] at ewj
                              simp only [R.opt_some] at ewj
                              split at ewj
                              · rename_i hlen
                                simp only [R.bind_ok] at ewj
                                obtain ⟨F5, d5, rx5, kf, ko⟩ := d4.keep' r4.1 (fun hn z => by
                                  obtain ⟨vs, eD, _⟩ := d3.lst
                                  have q := r4.2 hn D z
                                  rw [eD] at q
                                  cases q) (r4.2.back d3.path) ek
                                obtain ⟨vs, eD, rvs⟩ := d5.lst
                                have wp := wipe_path (slots t2) d5.path.st
                                rw [hwp5] at wp
                                have d6 := d5.step wp
                                have q6 := (q4.kept kf ko).path wp
                                exact ⟨vs, eD, by rw [← rvs.len, sizeLine_eq]; exact hlen, F5, wipe ρ5' (slots t2), acc ++ [x5], d6.grow hD (rvs.append (.cons rx5 .nil)), q6.grow, ewj⟩
                              · simp at ewj
                  · have ej : j = ys.length := by omega
                    subst ej
                    rw [List.drop_length] at ewj
                    simp only [walkL, R.ok.injEq] at ewj
                    obtain ⟨rfl, rfl⟩ := ewj
                    refine .inl ⟨iw1.stop F H (std1 hs6), ?_⟩
                    have wp := wipe_path ow cj.path.st
                    have hww : L2.wipe (L2.wipe σ2 (slots t2)) ow = L2.wipe σ ow := by
                      rw [← hwp]
                      exact wipe_same (fun j hj => by rw [wipe_out fun z => hj (hts2 j z), wipe_out hj]) (by rw [wipe_length, wipe_length])
                    rw [hww] at wp
                    exact ⟨F, wipe ρ ow, acc, cj.step wp, ew⟩
                · rw [if_neg hs6] at ew
                  simp at ew
        · have ei : i = xs.length := by omega
          subst ei
          rw [List.drop_length] at ew
          simp only [walkL, R.ok.injEq] at ew
          obtain ⟨rfl, rfl⟩ := ew
          refine .inl ⟨iw.stop F H (std hs5), ?_⟩
          obtain ⟨vs, eD, rvs⟩ := c.lst
          obtain ⟨pb, ob⟩ := back_path ow p01.st c.path
          refine post (.ref D) F H (p01.trans pb) ⟨⟨D, vs, rfl, eD, rvs, c.nf, fun z => ?_⟩, fun _ a ea => ?_⟩
          · rcases ob D z with z | z
            · rcases (p01.st.kind z).1 with ⟨_, y⟩ | ⟨_, y⟩ | ⟨_, y⟩ <;> · rw [hD] at y; cases y
            · exact c.no z
          · cases ea
            exact .of_not fun y => p01.sp.there D y (.none hD)
      · rw [if_neg hs5] at post
        exact post.elim
end
end Ev
/-! Ev13: told(lambda: ..). -/
namespace Ev
open PySem PySem.Spec PyProof.Rows L2
section
variable {Z : Wo} {E : XK} {σ : L2.St} {F : Fz} {H H' : Hp} {ρ : Ev}
/-- the tables may grow -/
theorem ext_path (s : Sta Z F H σ ρ) (e : LamX.ExtN H H') (t : LamX.Tabs Z.TT H') : Path Z σ F H ρ σ F H' ρ := by
  have sp : Stp Z (Own σ ρ) F H F H' := ⟨fun b o h _ n => e b o h n, fun b n => by
    cases q : H b with
    | none => exact absurd (.none q) n
    | some o =>
      rw [q] at n
      rw [e b o q fun ps z => n (by rw [z]; trivial)]
      exact n, fun _ h => h, fun _ h => .inl h⟩
  have u := s.up sp
  refine ⟨⟨s.len, fun i w ei => ?_, s.inj, t, fun a f => sp.there a (s.ft a f)⟩, sp, fun _ h => .inl h, .refl⟩
  obtain ⟨v, ev, r⟩ := s.rep i w ei
  refine ⟨v, ev, r.up u fun a ea ho => ?_⟩
  subst ea
  have k := s.kind (own_of ei ho ev)
  refine ⟨fun o q => e a o q fun ps z => ?_, k.2⟩
  rcases k.1 with ⟨_, y⟩ | ⟨_, y⟩ | ⟨_, y⟩ <;> · rw [q] at y; cases y; cases z
end
/-! ### the def that tells -/
/-- the text of told -/
def toldBody (rd ev oor : Str) (r o : Str) (j k : Nat) (ja jb jc jd : Nat) (p1 p2 p3 p4 p5 p6 p7 p8 p9 q1 q2 q3 q4 q5 q6 q7 q8 q9 q10 q11 : Pos) : List Stmt :=
  [.Try [.Return (some (.Tuple [.Constant (.int 0) ja p1, .Call (.Name rd p2) [.Call (.Name "call" p3) [] [] p4] [] p5] j p6)) p7]
    [.ExceptHandler (some (.Name ev p8)) (some "e") [.Return (some (.Tuple [.Constant (.int 1) jb p9, .IfExp (.Call (.Name "isinstance" q1) [.Name "e" q2, .Name oor q3] [] q4) (.Constant (.str r) jc q5) (.Constant (.str o) jd q6) q7] k q8)) q9] q10] [] [] q11]
/-- an error that told knows: its class, whether it is out of range -/
structure ErrT (K : PySem.W.Frag) (CE CO : Addr) (c : Addr) (b : Bool) : Prop where
  exc : L2.ExcC K c
  ev : PySem.W.exmOne K (.ref c) (.ref CE) = some true
  oor : PySem.W.kitOne K (.ref c) (.ref CO) = some b
/-- told, as it stands -/
structure TolF (Y : Gw) (x : Str) : Prop where
  ex : ∃ (g : Addr) (pg : Arguments) (bg : List Stmt) (sg : Scope) (dV kV doc pm cdv ct oc : Value) (an od : Option Addr) (osl : Array (Option Value)) (rd ev oor r o : Str) (CE CO : Addr) (j k ja jb jc jd : Nat) (p1 p2 p3 p4 p5 p6 p7 p8 p9 q1 q2 q3 q4 q5 q6 q7 q8 q9 q10 q11 : Pos) (kr ko : Nat),
    Y.mg x = some (.ref g) ∧ PySem.W.keepIn Y.Z.K (.ref g) = true ∧ Y.Z.K.lookup g = some ⟨oc, od, .func (PySem.W.fnOf x x pg bg sg dV kV doc pm an cdv ct), osl⟩ ∧ PySem.W.codeIn Y.Z.K cdv x = true ∧ L2.Binds Y.Z.K (PySem.W.fnOf x x pg bg sg dV kV doc pm an cdv ct) ["call"] [] ∧
    FnScope ["call", "e"] ["call"] sg ∧ sg.names.lookup ("e" : Str) = some .local ∧ sg.names.lookup rd = some .globalImplicit ∧ sg.names.lookup ev = some .globalImplicit ∧ sg.names.lookup oor = some .globalImplicit ∧ sg.names.lookup ("isinstance" : Str) = some .globalImplicit ∧
    bg = toldBody rd ev oor r o j k ja jb jc jd p1 p2 p3 p4 p5 p6 p7 p8 p9 q1 q2 q3 q4 q5 q6 q7 q8 q9 q10 q11 ∧ Y.nm.fns[Y.T.read]? = some rd ∧ odd rd = false ∧ odd ev = false ∧ odd oor = false ∧ Y.mg ev = some (.ref CE) ∧ Y.mg oor = some (.ref CO) ∧ Y.mg "isinstance" = none ∧
    Y.Z.ST[kr]? = some r ∧ Y.Z.ST[ko]? = some o ∧ Y.ar Y.T.read = 1 ∧
    ∀ c, c < Y.T.ne → ∃ C b, Y.Z.cls c = .ref C ∧ ErrT Y.Z.K CE CO C b ∧ Y.T.word c = if b then kr else ko
section
variable {n : Nat} {E : XK} {X : Cx} {Y : Gw} {σ : L2.St} {H : Hp}
/-- what told makes of the lambda -/
def TTe (Y : Gw) (m : Nat) : (XK → Hp → VK → Prop) → Hp → VK → Prop := fun tl H Q =>
  tl (fun cls d H' => d = none ∧ ∃ c, c < Y.T.ne ∧ cls = Y.Z.cls c ∧ ∀ x, Y.Z.ST[Y.T.word c]? = some x → ∀ p, H' p = none → Q (.ref p) (upd H' p (.tup [.int 1, .str x]))) H
    fun v H1 => spF Y (m + 1) Y.T.read ([v] ++ []) H1 (fun w H2 => [V.int 0, w].length ≤ sizeLine ∧ ∀ p, H2 p = none → Q (.ref p) (upd H2 p (.tup [.int 0, w]))) E0
theorem vis_start {g : Addr} : (L2.start ["call", "e"] [V.ref g])[0]? = some (some (V.ref g)) := rfl
theorem told_gives {m : Nat} {q : Str} {rd ev oor r o : Str} {g CE CO : Addr} {sg : Scope} {cdg : Value} {j k ja jb jc jd : Nat} {p1 p2 p3 p4 p5 p6 p7 p8 p9 q1 q2 q3 q4 q5 q6 q7 q8 q9 q10 q11 : Pos} {x : Str} {kr ko : Nat}
    (hP : X.prog = Y.P) (hW : X.w = Y.w) (hK : X.K = Y.Z.K) (hmg : X.mg = Y.mg) (hbs : X.base = Y.base) (K : Fok Y (m + 1)) (hr : Room (m + 2) X.A)
    (Sg : FnScope ["call", "e"] ["call"] sg) (hle : sg.names.lookup ("e" : Str) = some .local) (grd : sg.names.lookup rd = some .globalImplicit) (gev : sg.names.lookup ev = some .globalImplicit) (goor : sg.names.lookup oor = some .globalImplicit) (gis : sg.names.lookup ("isinstance" : Str) = some .globalImplicit)
    (hf : Y.nm.fns[Y.T.read]? = some rd) (ord : odd rd = false) (oev : odd ev = false) (ooor : odd oor = false) (mev : Y.mg ev = some (.ref CE)) (moor : Y.mg oor = some (.ref CO)) (mis : Y.mg "isinstance" = none) (str_ : Y.Z.ST[kr]? = some r) (sto : Y.Z.ST[ko]? = some o)
    (errs : ∀ c, c < Y.T.ne → ∃ C b, Y.Z.cls c = .ref C ∧ ErrT Y.Z.K CE CO C b ∧ Y.T.word c = if b then kr else ko) :
    LamX.GivesTo X ["call", "e"] x sg g cdg (toldBody rd ev oor r o j k ja jb jc jd p1 p2 p3 p4 p5 p6 p7 p8 p9 q1 q2 q3 q4 q5 q6 q7 q8 q9 q10 q11) "call" q (TTe Y m) := by
  intro f c' s H Q tl act hc h
  obtain ⟨a, fd, ps, hm, hk, hb, FO⟩ := K.fn Y.T.read rd hf
  have FO := FO (m + 1) (Nat.le_refl _)
  rw [← hP, ← hW, ← hK, ← hmg, ← hbs] at FO
  rw [← hmg] at hm mev moor mis
  rw [← hK] at hk hb
  have rr : Room (m + 1) (cxOf C8.CX0 X.prog X.w X.K X.mg X.base ["call", "e"] x sg g cdg X.A X.stack s H C8.E0).A := hr.deeper _
  have rdd := (odd_no ord).1
  have evd := (odd_no oev).1
  have ood := (odd_no ooor).1
  refine ⟨_, pss_one (ps_try_as (X := (cxOf C8.CX0 X.prog X.w X.K X.mg X.base ["call", "e"] x sg g cdg X.A X.stack s H C8.E0).nox) (i := 1) (n := "e") (c := .ref CE)
      (tb := fun W D σ H => ∃ Ech : XK, (∀ cls d σ' H', Ech cls d H' → W cls d σ' H') ∧ σ[0]? = some (some (.ref f)) ∧ H c' = some (LamX.CodeO c' q) ∧ tl Ech H fun v H1 => spF Y (m + 1) Y.T.read ([v] ++ []) H1 (fun w H2 => [V.int 0, w].length ≤ sizeLine ∧ ∀ p, H2 p = none → D.rt (.ref p) (upd H2 p (.tup [.int 0, w]))) E0)
      (ts := fun a' cls d D σ H => (∃ σ0 : L2.St, σ = σ0.set 1 (some (.ref a'))) ∧ d = none ∧ ∃ c C b, cls = .ref C ∧ Y.Z.cls c = .ref C ∧ ErrT X.K CE CO C b ∧ ∀ p, H p = none → D.rt (.ref p) (upd H p (.tup [.int 1, .str (if b then r else o)])))
      (Wout := fun _ _ _ _ => False)
      rfl rfl Sg.nd rfl hle ⟨gev, evd, .inl mev⟩ takes0 (fun W pn xe tk _ => ?_) (fun a' oe cls d pn hz hv => ?_)), ?_⟩
  · refine ⟨fun pins s' σ H' D I h' => ?_⟩
    obtain ⟨Ech, hW', h1, h2, h3⟩ := h'
    have hp := act W pn xe Ech p3 p4 tk hW'
    have hcall := pe_call (X := (cxOf C8.CX0 X.prog X.w X.K X.mg X.base ["call", "e"] x sg g cdg X.A X.stack s H C8.E0).tr pn xe) (E := E0) (p := p2) (pos := p5) FO rr grd hm hk hb .nil passL (pa_cons hp pa_nil) rdd (by rfl) (by rfl)
    have ht := pe_tup (x1 := j) (pos := p6) (pa_cons (pe_int (i := 0) (j := ja) (pos := p1)) (pa_cons hcall pa_nil (by rfl)) (by rfl))
    refine (pss_one (ps_ret (pos := p7) ht)).run pins s' σ H' D I ?_
    exact ⟨h1, h2, h3⟩
  · refine ⟨fun pins s' σ H' D I h' => ?_⟩
    obtain ⟨⟨σ0, h1⟩, hd, c, C, b, ec, ec2, er, h2⟩ := h'
    subst ec hd
    have hlen : σ.length = 2 := I.len
    have hs1 : σ[1]? = some (some (.ref a')) := by
      rw [h1] at hlen ⊢
      rw [List.length_set] at hlen
      rw [List.getElem?_set_self (by omega)]
    have hv1 : PE (((cxOf C8.CX0 X.prog X.w X.K X.mg X.base ["call", "e"] x sg g cdg X.A X.stack s H C8.E0).nox).suite a' ((a', oe) :: pn)) (.Name "e" q2) (tVar 1) := pe_var rfl (.inl hle) (by decide) (by decide)
    have hv2 : PE (((cxOf C8.CX0 X.prog X.w X.K X.mg X.base ["call", "e"] x sg g cdg X.A X.stack s H C8.E0).nox).suite a' ((a', oe) :: pn)) (.Name oor q3) (tC (.ref CO)) := pe_glob goor moor rfl ood
    have hci := pe_callB (p := q1) (pos := q4) (call_isE (X := (cxOf C8.CX0 X.prog X.w X.K X.mg X.base ["call", "e"] x sg g cdg X.A X.stack s H C8.E0).nox) er.exc hz hv) gis mis (by decide +kernel) (pa_cons hv1 (pa_cons hv2 pa_nil (by rfl)) (by rfl)) (by decide) (by decide) (by rfl) (by rfl)
    have hif := pe_ifExp (pos := q7) (pt_truth hci (fun _ => rfl)) (pe_str (x := r) (j := jc) (pos := q5)) (pe_str (x := o) (j := jd) (pos := q6))
    have ht := pe_tup (x1 := k) (pos := q8) (pa_cons (pe_int (i := 1) (j := jb) (pos := p9)) (pa_cons hif pa_nil (by rfl)) (by rfl))
    refine (pss_one (ps_ret (pos := q9) ht)).run pins s' σ H' D I ?_
    refine ⟨.ref a', hs1, .ref CO, .ref CO, b, rfl, fun u hu => hu, er.oor, b, rfl, ?_⟩
    cases b with
    | true => exact ⟨by show 2 ≤ sizeLine; decide, h2⟩
    | false => exact ⟨by show 2 ≤ sizeLine; decide, h2⟩
  · refine ⟨fun cls d H' => d = none ∧ ∃ c, c < Y.T.ne ∧ cls = Y.Z.cls c ∧ ∀ x, Y.Z.ST[Y.T.word c]? = some x → ∀ p, H' p = none → Q (.ref p) (upd H' p (.tup [.int 1, .str x])), fun cls d σ' H' hx => ?_, rfl, hc, h⟩
    obtain ⟨hd, c, hcn, ec, hq⟩ := hx
    obtain ⟨C, b, e1, er, ew⟩ := errs c hcn
    rw [e1] at ec
    subst ec hd
    rw [← hK] at er
    refine ⟨true, er.ev, fun _ a' na => ⟨⟨σ', rfl⟩, rfl, c, C, b, rfl, e1, er, fun p hp => hq _ ?_ p hp⟩, fun z => by cases z⟩
    rw [ew]
    cases b with
    | true => exact str_
    | false => exact sto
/-- the code object of a def that makes lambdas, its table -/
structure LamAt (Y : Gw) (X : Cx) (c P : Addr) : Prop where
  tb : LamX.TabB Y.base Y.mg c P
  code : X.env.code = .ref c
  mem : (P, X.env.qual ++ "<lambda>") ∈ Y.Z.TT
  un : ∀ p ∈ Y.Z.TT, p.1 = P → p.2 = X.env.qual ++ "<lambda>"
theorem defs_none {params : Arguments} {env : Env} (h1 : params.defaults = []) (h2 : params.kw_defaults = []) : defaultsOf params env = ([], []) := by
  obtain ⟨_, _, _, _, kw, _, d⟩ := params
  dsimp only at h1 h2
  subst h1 h2
  rfl
theorem snd_told {m : Nat} {c : Cs} {x : Str} {cd P : Addr} {params : Arguments} {body : Expr} {scope : Scope} {fb : Ev → R O} {p lpos pos : Pos} (G : Good Y (m + 2) c E X) (K : Fok Y (m + 1)) (T : TolF Y x) (L : LamAt Y X cd P) (hg : Gl X x) (hx : odd x = false) (ls : LamX.LamS X.env.scope scope)
    (hd1 : params.defaults = []) (hd2 : params.kw_defaults = []) (hbind : ∀ (q : Str) (cl : List (Str × Addr)) (pm cv ctv : Value), bindArgs (PySem.W.kla_fn "<lambda>" q params body scope cl pm cv ctv) ⟨[], []⟩ = pure [])
    (hbody : ∀ (A : Around) (outer : List Env) (s : Shared) (H : Hp) (E : XK) (f c' : Addr), Room m (A.deeper (LamX.lamEnv X scope s.heap.objs.size f c')) → PE (LamX.lamCx X A outer s H E scope f c') body (LE Y.Z E fb)) :
    PE X (.Call (.Name x p) [.Lambda params body scope lpos] [] pos) (LE Y.Z E fun ρ => toldS Y.T Y.C m (fb ρ)) := by
  obtain ⟨g, pg, bg, sg, dV, kV, doc, pm, cdv, ct, oc, an, od, osl, rd, ev, oor, r, o, CE, CO, j, k, ja, jb, jc, jd, p1, p2, p3, p4, p5, p6, p7, p8, p9, q1, q2, q3, q4, q5, q6, q7, q8, q9, q10, q11, kr, ko, hm, hk, lk, hcd, hb, Sg, hle, grd, gev, goor, gis, ebg, hf, ord, oev, ooor, mev, moor, mis, str_, sto, har, errs⟩ := T.ex
  subst ebg
  have xdd := (odd_no hx).1
  have hG := told_gives (Y := Y) (m := m) (q := X.env.qual ++ "<lambda>") (x := x) (g := g) (cdg := cdv) (j := j) (k := k) (ja := ja) (jb := jb) (jc := jc) (jd := jd) (p1 := p1) (p2 := p2) (p3 := p3) (p4 := p4) (p5 := p5) (p6 := p6) (p7 := p7) (p8 := p8) (p9 := p9) (q1 := q1) (q2 := q2) (q3 := q3) (q4 := q4) (q5 := q5) (q6 := q6) (q7 := q7) (q8 := q8) (q9 := q9) (q10 := q10) (q11 := q11) G.prog G.w G.K G.mg G.base K G.room Sg hle grd gev goor gis hf ord oev ooor mev moor mis str_ sto errs
  have tb := L.tb
  rw [← G.mg] at hm
  rw [← G.K] at hk lk hcd hb
  rw [← G.base, ← G.mg] at tb
  refine peImp (LamX.pe_lamcall (X := X) (t := fun E => LE Y.Z E fb) hg hm hk lk hcd hb Sg rfl ((Sg.par "call" List.mem_cons_self).elim .inl fun z => .inr (.inl z)) hG tb L.code L.mem L.un G.room ls (defs_none hd1 hd2) hbind hbody xdd (by decide) (by decide)) fun σ H Q ⟨F0, H0, ρ0, F, ρ, p, post⟩ => ?_
  refine ⟨p.st.tabs, fun H1 eN T1 => ?_⟩
  have ep := ext_path p.st eN T1
  have p1 := p.trans ep
  refine here p1.st ?_
  cases e : fb ρ with
  | stuck => simp only [e, toldS] at post; exact post.elim
  | exc c ρ1 =>
    simp only [e, toldS] at post
    intro F2 H2 q2
    by_cases hc : c < Y.T.ne
    · rw [decide_eq_true hc, R.grd_true] at post
      refine ⟨rfl, c, hc, rfl, fun x hx p' hp => ?_⟩
      exact fin_new (p1.trans q2) post (new_tup hp (.cons (by simp only [Rp]) (.cons (by simp only [Rp]; exact ⟨x, hx, rfl⟩) .nil)))
    · rw [decide_eq_false hc, R.grd_false] at post
      exact post.elim
  | ok o1 ρ1 =>
    simp only [e, toldS] at post
    intro v F2 H2 q2 r2
    refine call_sp (p1.trans q2) (os := [o1]) (vs := [v]) (H0 := H0) ⟨v, [], rfl, r2.1, r2.2.back p1, fun _ _ _ => trivial, rfl⟩ (by rw [har]; rfl) ?_
    cases ec : callF Y.C (m + 1) Y.T.read [o1] ρ1 with
    | stuck => simp only [ec, R.calm, R.bind_stuck] at post; exact post.elim
    | exc c ρ2 => simp only [ec, R.calm, R.bind_stuck] at post; exact post.elim
    | ok r ρ2 =>
      simp only [ec, R.calm, R.bind_ok] at post
      intro w F3 H3 q3 r3
      refine ⟨by show 2 ≤ sizeLine; decide, fun p' hp => ?_⟩
      cases ek : keep ρ2 r with
      | none => rw [ek] at post; exact post.elim
      | some kp =>
        obtain ⟨d, ρ3⟩ := kp
        rw [ek] at post
        obtain ⟨F4, p4, rd4, _⟩ := keep_ok q3 r3.1 r3.2 ek
        exact fin_new p4 post (new_tup hp (.cons (by simp only [Rp]) (.cons rd4 .nil)))
end
end Ev
/-! Ev14: which text an expression is; that the evaluator tells of it. -/
namespace Ev
open PySem PySem.Spec PyProof.Rows L2
/-! ### contexts -/
structure Gk (Y : Gw) : Prop where
  ok : Gok Y
  ar : ∀ f, Y.ar f = Y.nm.ars.getD f 0
  exc : ∀ (c : Nat) (x : Str), Y.nm.exs[c]? = some x → ∃ C, Exc Y c x C
  tol : ∀ x, Y.nm.told = some x → TolF Y x
structure Gd (Y : Gw) (n : Nat) (c : Cs) (E : XK) (X : Cx) : Prop where
  g : Good Y n c E X
  cel : ∀ x, (c.sc.names.lookup x = some .cell ∨ c.sc.names.lookup x = some .free) → (X.env.scope.names.lookup x = some .cell ∨ X.env.scope.names.lookup x = some .free)
  lam : c.lam = true → ∃ cd P, LamAt Y X cd P
section
variable {Y : Gw} {n : Nat} {c : Cs} {E : XK} {X : Cx}
theorem vis_of {c : Cs} {x : Str} (h : visB c x = true) : c.sc.names.lookup x = some .local ∨ c.sc.names.lookup x = some .cell ∨ c.sc.names.lookup x = some .free := by
  unfold visB at h
  split at h
  · rename_i e; exact .inl e
  · rename_i e; exact .inr (.inl e)
  · rename_i e; exact .inr (.inr e)
  · cases h
theorem loc_of {c : Cs} {x : Str} (h : locB c x = true) : c.sc.names.lookup x = some .local ∨ c.sc.names.lookup x = some .cell := by
  unfold locB at h
  split at h
  · rename_i e; exact .inl e
  · rename_i e; exact .inr e
  · cases h
theorem gl_of {c : Cs} {x : Str} (h : glB c x = true) : c.sc.names.lookup x = some .globalImplicit := by
  unfold glB at h
  split at h
  · rename_i e; exact e
  · cases h
theorem free_relS {sc : Scope} : ∀ {names : List (Str × NameKind)} {x : Str}, names.lookup x = some .free →
    (names.map fun (n, k) => if (k == NameKind.free && sc.kind == .function && sc.names.lookup n == some .cell) then (n, NameKind.cell) else (n, k)).lookup x = some .free ∨
    (names.map fun (n, k) => if (k == NameKind.free && sc.kind == .function && sc.names.lookup n == some .cell) then (n, NameKind.cell) else (n, k)).lookup x = some .cell
  | [], _, h => by simp at h
  | (m, k₀) :: r, x, h => by
    have ih := @free_relS sc r x
    show List.lookup x ((if (k₀ == NameKind.free && sc.kind == .function && sc.names.lookup m == some .cell) = true then (m, NameKind.cell) else (m, k₀)) :: (r.map _)) = some .free ∨
      List.lookup x ((if (k₀ == NameKind.free && sc.kind == .function && sc.names.lookup m == some .cell) = true then (m, NameKind.cell) else (m, k₀)) :: (r.map _)) = some .cell
    cases hx : x == m with
    | true =>
      simp only [List.lookup_cons, hx] at h
      cases h
      split
      · exact .inr (by simp only [List.lookup_cons, hx])
      · exact .inl (by simp only [List.lookup_cons, hx])
    | false =>
      simp only [List.lookup_cons, hx] at h
      split
      · simp only [List.lookup_cons, hx]; exact ih h
      · simp only [List.lookup_cons, hx]; exact ih h
/-- the context of a comprehension's block -/
theorem Gd.blk {scope : Scope} (G : Gd Y n c E X) (s : Shared) (H : Hp) (C : Addr) (cl : List (Str × Addr)) (fp : List Addr) : Gd Y n ⟨c.N, scope, c.lam⟩ E0 (X.blk s H scope (compEnvC scope cl C X.env) fp) := by
  have sc : (X.blk s H scope (compEnvC scope cl C X.env) fp).env.scope = relS scope X.env.scope := rfl
  have keep : ∀ {x : Str} {k : NameKind}, k ≠ .free → scope.names.lookup x = some k → (relS scope X.env.scope).names.lookup x = some k := fun hk h => lookup_relS_keep hk h
  refine ⟨⟨G.g.prog, G.g.w, G.g.K, G.g.mg, G.g.base, G.g.N, G.g.nd, fun x h => ?_, fun x h => ?_, fun x h => ?_, G.g.calm, G.g.room, passL⟩, fun x h => ?_, fun h => ?_⟩
  · rcases vis_of h with h | h | h
    · exact .inl (keep (by decide) h)
    · exact .inr (.inl (keep (by decide) h))
    · rcases free_relS (sc := X.env.scope) h with z | z
      · exact .inr (.inr z)
      · exact .inr (.inl z)
  · rcases loc_of h with h | h
    · exact ⟨.inl (keep (by decide) h), .inr (keep (by decide) h)⟩
    · refine ⟨.inr (keep (by decide) h), .inl ?_⟩
      show (scope.names.lookup x == some NameKind.cell) = true
      rw [show scope.names.lookup x = _ from h]
      rfl
  · exact keep (by decide) (gl_of h)
  · rcases h with h | h
    · exact .inl (keep (by decide) h)
    · rcases free_relS (sc := X.env.scope) h with z | z
      · exact .inr z
      · exact .inl z
  · obtain ⟨cd, P, L⟩ := G.lam h
    exact ⟨cd, P, L.tb, L.code, L.mem, L.un⟩
theorem Gd.blkOk {scope : Scope} {own : List (Str × Nat)} (G : Gd Y n c E X) (h : BlkOk c.N c.sc scope own) : BlkOk X.N X.env.scope scope own :=
  ⟨h.kind, h.uniq, by rw [G.g.N]; exact h.ix, fun y hy e => G.cel _ (h.free y hy e), by rw [G.g.N]; exact h.own⟩
/-- the context of a lambda's body -/
theorem Gd.lamb {m : Nat} {scope : Scope} (G : Gd Y (m + 2) c E X) (ls : LamX.LamS X.env.scope scope) (A : Around) (outer : List Env) (s : Shared) (H : Hp) (E' : XK) (f c' : Addr) (hr : Room m (A.deeper (LamX.lamEnv X scope s.heap.objs.size f c'))) :
    Gd Y m ⟨c.N, scope, false⟩ E' (LamX.lamCx X A outer s H E' scope f c') := by
  refine ⟨⟨G.g.prog, G.g.w, G.g.K, G.g.mg, G.g.base, G.g.N, G.g.nd, fun x h => vis_of h, fun x h => ?_, fun x h => gl_of h, rfl, hr, ?_⟩, fun x h => h, fun h => by cases h⟩
  · rcases loc_of h with h | h
    · exact absurd rfl (ls.own _ (PySem.mem_of_lookup h)).1
    · exact absurd rfl (ls.own _ (PySem.mem_of_lookup h)).2
  · exact passes_call (takes_of (X := LamX.lamCx X A outer s H E' scope f c') (E := E') rfl rfl rfl rfl) fun _ _ _ _ h => h
theorem Gd.lamS {scope : Scope} (G : Gd Y n c E X) (ls : LamX.LamS c.sc scope) : LamX.LamS X.env.scope scope := ⟨ls.kind, ls.co, ls.gen, ls.own, fun y hy e => G.cel _ (ls.free y hy e)⟩
end
/-! ### small rules -/
section
variable {n : Nat} {E : XK} {X : Cx} {Z : Wo}
theorem peStuck {e : Expr} : PE X e (LE Z E fun _ => .stuck) := ⟨fun _ _ _ _ _ _ ⟨_, _, _, _, _, _, post⟩ => post.elim⟩
theorem snd_neg {a : Expr} {pos : Pos} {f : Ev → R O} (h : PE X a (LE Z E f)) : PE X (.UnaryOp .USub a pos) (LE Z E fun ρ => (f ρ).bind fun x ρ1 => R.opt (optInt x) fun i => .ok (.d (.int (-i))) ρ1) := by
  refine peImp (pe_un un_neg h) fun σ H Q q => one q fun a ρ1 x F1 H1 F0 H0 ρ0 p o fr post => ?_
  unfold optInt at post
  split at post
  · rename_i i
    exact ⟨i, Rp.inv_int o.dp, here_d p post (by simp only [Rp])⟩
  · exact post.elim
/-- a clause's tests, one after the other -/
theorem tests_no {env : Env} : ∀ {cs : List Expr}, (forIn cs false fun c r => if r = true then do let ok ← isTrue c env (eval c env); pure (ForInStep.yield ok) else pure (ForInStep.yield r) : Sem Bool) = pure false
  | [] => by rw [List.forIn_nil]
  | c :: cs => by
    rw [List.forIn_cons, if_neg Bool.false_ne_true, pure_bind]
    exact tests_no
theorem snd_tests {c : Expr} {cs : List Expr} {f g : Ev → R Bool} (h : PT X c (LT Z E f)) (t : PTs X cs (LT Z E g)) : PTs X (c :: cs) (LT Z E fun ρ => ifB (f ρ) g fun ρ1 => .ok false ρ1) := by
  refine ⟨fun pins s σ H Q I ⟨F0, H0, ρ0, F, ρ, p, post⟩ => ?_⟩
  rw [List.forIn_cons, if_pos rfl]
  refine wpAny_bind (wpAny_bind (thn (h.run pins s σ H _ I (run p post fun b ρ1 b' F1 H1 _ p1 r post => (show (if b' = true then LT Z E g σ H1 Q else Q false H1) from ?_))) fun b s1 ⟨H1, I1, q1⟩ => wpAny_pure ?_))
  · obtain rfl : b' = b := r
    cases b' with
    | true =>
      simp only [if_true] at post ⊢
      exact ⟨F0, H0, ρ0, F1, ρ1, p1, post⟩
    | false =>
      simp only [Bool.false_eq_true, if_false] at post ⊢
      exact fin_t p1 post
  · cases b with
    | true =>
      simp only [if_true] at q1
      exact t.run pins s1 σ H1 Q I1 q1
    | false =>
      simp only [Bool.false_eq_true, if_false] at q1
      show wpAny _ _ (forIn cs false _) _ _ _
      rw [tests_no]
      exact wpAny_pure ⟨H1, I1, q1⟩
theorem snd_tests0 : PTs X [] (LT Z E fun ρ => .ok true ρ) := ⟨fun pins s σ H Q I ⟨F0, H0, ρ0, F, ρ, p, post⟩ => pts_nil.run pins s σ H Q I (fin_t p post)⟩
theorem noSet {e : Expr} {env : Env} (h : (match e with | .Set _ _ _ => false | _ => true) = true) : ∀ x, foldedSetIterable e env x = pure x := by
  intro x
  cases e <;> first | rfl | (cases h)
end
end Ev
/-! Ev15: the look at expressions; its soundness. -/
namespace Ev
open PySem PySem.Spec PyProof.Rows L2
/-- a test's text is no conditional expression -/
def okT : Expr → Bool
  | .IfExp _ _ _ _ => false
  | _ => true
def noSetB : Expr → Bool
  | .Set _ _ _ => false
  | _ => true
def noPar (a : Arguments) : Bool := match a with
  | ⟨[], [], none, [], [], none, []⟩ => true
  | _ => false
def isAnd : PySem.BoolOp → Bool
  | .And => true
  | .Or => false
/-- how many the built-in takes -/
def bltA (b : Blt) (k : Nat) : Bool := match b with
  | .max2 => k == 2
  | .min2 => k == 2
  | .min3 => false
  | .sortedSet => false
  | .dict => false
  | _ => k == 1
def isSS : Blt → Bool
  | .sortedSet => true
  | _ => false
def Pos.same (a b : Pos) : Bool := a.endLine == b.line
def ownP (c : Cs) (own : List Nat) : List (Str × Nat) := own.map fun i => (c.N.getD i ⟨#[]⟩, i)
mutual
def chkTg (c : Cs) : Tg → Expr → Bool
  | .nm i, x => match x with
    | .Name y _ => stoB c i y
    | _ => false
  | .tp ts, x => match x with
    | .Tuple xs _ _ => chkTgs c ts xs
    | _ => false
def chkTgs (c : Cs) : List Tg → List Expr → Bool
  | [], xs => xs.isEmpty
  | t :: ts, xs => match xs with
    | [] => false
    | x :: xs => chkTg c t x && chkTgs c ts xs
end
def isTp : Expr → Bool
  | .Tuple _ _ _ => true
  | _ => false
def isOp (a b : CmpOp) : Bool := decide (a = b)
/-- a built-in's name, called -/
def bName (c : Cs) (x y : Str) : Bool := decide (x = y) && glB c y
/-- what is walked: a value; range(..); enumerate(..), zip(.., ..) with a tuple as target -/
def chkIt (k : Ik) (c : Cs) (t x : Expr) (L : List Expr → Bool) : Bool := match k with
  | .seq => noSetB x && L [x]
  | .rng => (match x with
    | .Call (.Name y _) xs [] _ => bName c "range" y && (decide (1 ≤ xs.length) && decide (xs.length ≤ 2)) && L xs
    | _ => false)
  | .enum => (match x with
    | .Call (.Name y _) xs [] _ => bName c "enumerate" y && decide (xs.length = 1) && isTp t && L xs
    | _ => false)
  | .zip => (match x with
    | .Call (.Name y _) xs [] _ => bName c "zip" y && decide (xs.length = 2) && isTp t && L xs
    | _ => false)
mutual
def chkE (nm : Nm) : E → Cs → Expr → Bool
  | .non, _, x => match x with
    | .Constant k _ _ => (match k with | .none => true | _ => false)
    | _ => false
  | .bl b, _, x => match x with
    | .Constant k _ _ => (match k with | .bool b' => b == b' | _ => false)
    | _ => false
  | .int i, _, x => match x with
    | .Constant k _ _ => (match k with | .int j => decide (i = j) | _ => false)
    | _ => false
  | .str n, _, x => match x with
    | .Constant k _ _ => (match k with | .str y => nth nm.txt n y | _ => false)
    | _ => false
  | .abs, _, _ => false
  | .var i, c, x => match x with
    | .Name y _ => varB c i y
    | _ => false
  | .con k, c, x => match x with
    | .Name y _ => nth nm.cons k y && (glB c y && !odd y)
    | _ => false
  | .bin op a b, c, x => match x with
    | .BinOp l o r _ => decide (o = bopOf op) && (chkE nm a c l && chkE nm b c r)
    | _ => false
  | .neg a, c, x => match x with
    | .UnaryOp o y _ => (match o with | .USub => chkE nm a c y | _ => false)
    | _ => false
  | .andL es, c, x => match x with
    | .BoolOp o xs _ => isAnd o && (chkL nm es c xs && xs.all okT)
    | _ => false
  | .orL es, c, x => match x with
    | .BoolOp o xs _ => !isAnd o && (chkL nm es c xs && xs.all okT)
    | _ => false
  | .not_ a, c, x => match x with
    | .UnaryOp o y _ => (match o with | .Not => chkE nm a c y && okT y | _ => false)
    | _ => false
  | .cmp op a b, c, x => match x with
    | .Compare l os rs _ => (match os, rs with | [o], [r] => isOp o (copOf op) && (noSetB r && (chkE nm a c l && chkE nm b c r)) | _, _ => false)
    | _ => false
  | .chain o1 o2 a b d, c, x => match x with
    | .Compare l os rs _ => (match os, rs with | [p, q], [r, t] => isOp p (copOf o1) && isOp q (copOf o2) && (noSetB r && noSetB t && (chkE nm a c l && (chkE nm b c r && chkE nm d c t))) | _, _ => false)
    | _ => false
  | .ite t a b, c, x => match x with
    | .IfExp y l r _ => okT y && (chkE nm t c y && (chkE nm a c l && chkE nm b c r))
    | _ => false
  | .tup es, c, x => match x with
    | .Tuple xs _ _ => decide (es.length ≤ 1000) && chkL nm es c xs
    | _ => false
  | .lst es, c, x => match x with
    | .List xs _ => decide (es.length ≤ 1000) && chkL nm es c xs
    | _ => false
  | .dnew _, _, _ => false
  | .ix a i, c, x => match x with
    | .Subscript y k _ => !isSlice k && (chkE nm a c y && chkE nm i c k)
    | _ => false
  | .sl a lo hi, c, x => match x with
    | .Subscript y k _ => (match k with
      | .Slice l h none _ => chkE nm a c y && ((match l with | none => isAbs lo | some l => !isAbs lo && chkE nm lo c l) && (match h with | none => isAbs hi | some h => !isAbs hi && chkE nm hi c h))
      | _ => false)
    | _ => false
  | .rev _, _, _ => false
  | .call f es, c, x => match x with
    | .Call g xs kws _ => (match g, kws with
      | .Name y _, [] => nth nm.fns f y && (glB c y && !odd y) && (decide (es.length = nm.ars.getD f 0) && !es.isEmpty) && chkL nm es c xs
      | _, _ => false)
    | _ => false
  | .blt b es, c, x => match x with
    | .Call g xs kws _ => (match g, kws with
      | .Name y _, [] => if isSS b = true then bName c "sorted" y && (match xs with
          | [.Call (.Name z _) us [] _] => bName c "set" z && decide (es.length = 1) && chkL nm es c us
          | _ => false)
        else bName c (bltS b) y && bltA b es.length && chkL nm es c xs
      | _, _ => false)
    | _ => false
  | .isi a t, c, x => match x with
    | .Call g xs kws _ => (match g, xs, kws with
      | .Name y _, [u, .Name z _], [] => bName c "isinstance" y && bName c (tyS t) z && !isStar u && chkE nm a c u
      | _, _, _ => false)
    | _ => false
  | .app i e, c, x => match x with
    | .Call g xs kws cpos => (match g, xs, kws with
      | .Attribute (.Name y _) at_ apos, [u], [] => decide (at_ = "append") && varB c i y && (apos.endLine == cpos.line) && !isStar u && chkE nm e c u
      | _, _, _ => false)
    | _ => false
  | .pop i, c, x => match x with
    | .Call g xs kws cpos => (match g, xs, kws with
      | .Attribute (.Name y _) at_ apos, [], [] => decide (at_ = "pop") && varB c i y && (apos.endLine == cpos.line)
      | _, _, _ => false)
    | _ => false
  | .get2 _ _ _, _, _ => false
  | .sdef _ _ _, _, _ => false
  | .comp elt tg k es ifs own, c, x => match x with
    | .ListComp y gs sc _ => (match gs with
      | [⟨t, it, fs, 0⟩] => chkE nm elt ⟨c.N, sc, c.lam⟩ y && chkTg ⟨c.N, sc, c.lam⟩ tg t && chkIt k c t it (fun xs => chkL nm es c xs) && chkTs nm ifs ⟨c.N, sc, c.lam⟩ fs && blkC c.N c.sc sc (ownP c own) && (slots tg).all (fun i => own.contains i)
      | _ => false)
    | _ => false
  | .comp2 elt t1 k1 e1 t2 k2 e2 ifs own, c, x => match x with
    | .ListComp y gs sc _ => (match gs with
      | [⟨t, it, [], 0⟩, ⟨t', it', fs, 0⟩] => chkE nm elt ⟨c.N, sc, c.lam⟩ y && chkTg ⟨c.N, sc, c.lam⟩ t1 t && chkIt k1 c t it (fun xs => chkL nm e1 c xs) && chkTg ⟨c.N, sc, c.lam⟩ t2 t' && chkIt k2 ⟨c.N, sc, c.lam⟩ t' it' (fun xs => chkL nm e2 ⟨c.N, sc, c.lam⟩ xs) && chkTs nm ifs ⟨c.N, sc, c.lam⟩ fs && blkC c.N c.sc sc (ownP c own) && (slots t1).all (fun i => own.contains i) && (slots t2).all (fun i => own.contains i)
      | _ => false)
    | _ => false
  | .dcomp _ _ _ _ _ _ _ _, _, _ => false
  | .told b, c, x => match x with
    | .Call g xs kws _ => (match g, xs, kws with
      | .Name y _, [.Lambda ps body sc _], [] => (match nm.told with | some z => decide (z = y) | none => false) && (glB c y && !odd y) && c.lam && LamX.lamSB c.sc sc && noPar ps && chkE nm b ⟨c.N, sc, false⟩ body
      | _, _, _ => false)
    | _ => false
termination_by structural e => e
def chkL (nm : Nm) : List E → Cs → List Expr → Bool
  | [], _, xs => xs.isEmpty
  | e :: es, c, xs => match xs with
    | [] => false
    | x :: xs => !isStar x && (chkE nm e c x && chkL nm es c xs)
termination_by structural es => es
def chkTs (nm : Nm) : List E → Cs → List Expr → Bool
  | [], _, xs => xs.isEmpty
  | e :: es, c, xs => match xs with
    | [] => false
    | x :: xs => okT x && (chkE nm e c x && chkTs nm es c xs)
termination_by structural es => es
end
end Ev
/-! Ev16: soundness of the look at expressions. -/
namespace Ev
open PySem PySem.Spec PyProof.Rows L2
section
variable {Y : Gw} {n : Nat} {c : Cs} {K0 : XK} {X : Cx} {x : Expr} {f : Ev → R O}
/-- as a value, as a test -/
def Both (Y : Gw) (K0 : XK) (X : Cx) (x : Expr) (f : Ev → R O) : Prop := PE X x (LE Y.Z K0 f) ∧ (okT x = true → PT X x (LT Y.Z K0 fun ρ => asT (f ρ)))
theorem both (G : Gd Y n c K0 X) (h : PE X x (LE Y.Z K0 f)) (hp : plainT x = true) : Both Y K0 X x f := ⟨h, fun _ => snd_truth G.g.K h hp⟩
theorem nosetI {op : CmpOp} {r : Expr} (h : noSetB r = true) : behindInMarks op r = false := by
  cases r <;> first | rfl | (cases h)
theorem op_cmp (Yk : Gk Y) (G : Gd Y n c K0 X) (op : Cop) : OpR X (compareOp (copOf op)) (rNb Y.Z (cmp op)) := by
  have hK := G.g.K
  have hu := G.g.hu
  have hs := Yk.ok.st
  cases op with
  | eq => exact op_eqO hK hs (by omega)
  | ne => exact op_neO hK hs (by omega)
  | lt => exact op_ltO hK (by omega)
  | le => exact op_leO
  | gt => exact op_gtO
  | ge => exact op_geO
  | isin => exact op_inSeq hK hs hu
  | notin => exact op_notinSeq hK hs hu
  | is_ => exact op_isO
  | isnot => exact op_isnotO
theorem bName_of {z y : Str} (h : bName c z y = true) (G : Gd Y n c K0 X) (Yk : Gk Y) (hz : z ∈ bltN) : y = z ∧ Gl X z ∧ X.mg z = none := by
  unfold bName at h
  simp only [Bool.and_eq_true, decide_eq_true_eq] at h
  obtain ⟨h1, h2⟩ := h
  subst h1
  exact ⟨rfl, G.g.gl _ h2, by rw [G.g.mg]; exact Yk.ok.blt _ hz⟩
/-- targets -/
theorem sndTg (G : Gd Y n c K0 X) : ∀ {t : Tg} {x : Expr}, chkTg c t x = true → PG X x (LGt Y.Z t) ∧ isStar x = false
  | .nm i, x, h => by
    simp only [chkTg] at h
    split at h
    · rename_i y p
      unfold stoB at h
      simp only [Bool.and_eq_true, Bool.not_eq_true'] at h
      obtain ⟨h1, h2, h3⟩ := h
      obtain ⟨l1, l2⟩ := G.g.loc y h2
      exact ⟨snd_nm (pg_name (by rw [G.g.N]; exact G.g.nd) (by rw [G.g.N]; exact nth_of h1) l1 l2), rfl⟩
    · cases h
  | .tp ts, x, h => by
    simp only [chkTg] at h
    split at h
    · rename_i xs k p
      obtain ⟨h1, h2, h3⟩ := sndTgs G h
      exact ⟨snd_tp G.g.K G.g.calm h1 h2 h3, rfl⟩
    · cases h
where
  sndTgs (G : Gd Y n c K0 X) : ∀ {ts : List Tg} {xs : List Expr}, chkTgs c ts xs = true → PGs X xs (LGts Y.Z ts) ∧ (assignEach xs X.env).length = ts.length ∧ (assignEach xs X.env).findIdx? (·.1) = none
    | [], xs, h => by
      simp only [chkTgs] at h
      cases xs with
      | nil => exact ⟨snd_tnil, rfl, rfl⟩
      | cons x xs => cases h
    | t :: ts, xs, h => by
      simp only [chkTgs] at h
      cases xs with
      | nil => cases h
      | cons x xs =>
        simp only [Bool.and_eq_true] at h
        obtain ⟨h1, h2⟩ := h
        obtain ⟨a1, a2⟩ := sndTg G h1
        obtain ⟨b1, b2, b3⟩ := sndTgs G h2
        have e : assignEach (x :: xs) X.env = (false, PySem.assign x X.env) :: assignEach xs X.env := by
          cases x <;> first | rfl | (cases a2)
        refine ⟨snd_tcons a1 b1 (by rw [e]; rfl), by rw [e, List.length_cons, List.length_cons, b2], ?_⟩
        rw [e]
        simp [List.findIdx?_cons, b3]
/-- what a list of texts gives -/
structure ArgsOk (Y : Gw) (K0 : XK) (X : Cx) (xs : List Expr) (g : Ev → R (List O)) : Prop where
  pa : PA X xs (LA Y.Z K0 g)
  len : ∀ ρ os ρ1, g ρ = .ok os ρ1 → os.length = xs.length
  st : xs.all (fun e => !isStar e) = true
theorem snd_it {k : Ik} {t : Expr} {g : Ev → R (List O)} {L : List Expr → Bool} (Yk : Gk Y) (G : Gd Y n c K0 X) (h : chkIt k c t x L = true) (hL : ∀ xs, L xs = true → ArgsOk Y K0 X xs g) (h1 : ∀ x, L [x] = true → ∃ f, PE X x (LE Y.Z K0 f) ∧ g = fun ρ => (f ρ).bind fun o ρ1 => .ok [o] ρ1) :
    PI X t x (LI Y.Z K0 fun ρ => iterF k (g ρ)) ∧ noSetB x = true := by
  cases k with
  | seq =>
    simp only [chkIt, Bool.and_eq_true] at h
    obtain ⟨f, pf, rfl⟩ := h1 x h.2
    refine ⟨?_, h.1⟩
    have e : (fun ρ => (f ρ).bind fun o ρ1 => R.opt (walk .seq [rs ρ1 o]) fun xs => R.ok (xs, walked [o]) ρ1) = fun ρ => iterF .seq ((f ρ).bind fun o ρ1 => .ok [o] ρ1) := by
      funext ρ
      cases f ρ <;> rfl
    rw [← e]
    exact snd_seq G.g.K pf
  | rng =>
    simp only [chkIt] at h
    split at h
    · rename_i y p xs q
      simp only [Bool.and_eq_true, decide_eq_true_eq] at h
      obtain ⟨⟨hb, h2, h3⟩, h4⟩ := h
      obtain ⟨rfl, hg, hm⟩ := bName_of hb G Yk (by decide)
      have a := hL xs h4
      cases xs with
      | nil => simp at h2
      | cons e es => exact ⟨snd_range a.len hg hm a.pa a.st (by simpa using h3), rfl⟩
    · cases h
  | enum =>
    simp only [chkIt] at h
    split at h
    · rename_i y p xs q
      simp only [Bool.and_eq_true, decide_eq_true_eq] at h
      obtain ⟨⟨⟨hb, h2⟩, h3⟩, h4⟩ := h
      obtain ⟨rfl, hg, hm⟩ := bName_of hb G Yk (by decide)
      have a := hL xs h4
      match xs, h2 with
      | [e], _ =>
        have s := a.st
        simp only [List.all_cons, List.all_nil, Bool.and_true, Bool.not_eq_true'] at s
        cases t <;> first | exact ⟨snd_enum G.g.K a.len hg hm a.pa s, rfl⟩ | (cases h3)
    · cases h
  | zip =>
    simp only [chkIt] at h
    split at h
    · rename_i y p xs q
      simp only [Bool.and_eq_true, decide_eq_true_eq] at h
      obtain ⟨⟨⟨hb, h2⟩, h3⟩, h4⟩ := h
      obtain ⟨rfl, hg, hm⟩ := bName_of hb G Yk (by decide)
      have a := hL xs h4
      match xs, h2 with
      | [e, e2], _ =>
        have s := a.st
        simp only [List.all_cons, List.all_nil, Bool.and_true, Bool.and_eq_true, Bool.not_eq_true'] at s
        cases t <;> first | exact ⟨snd_zip G.g.K a.len hg hm a.pa s.1 s.2, rfl⟩ | (cases h3)
    · cases h
/-- built-ins -/
theorem snd_bltAll {b : Blt} {e : Expr} {es : List Expr} {g : Ev → R (List O)} {y : Str} {p pos : Pos} (Yk : Gk Y) (G : Gd Y n c K0 X) (hb : bName c (bltS b) y = true) (hA : bltA b (e :: es).length = true) (a : ArgsOk Y K0 X (e :: es) g) :
    PE X (.Call (.Name y p) (e :: es) [] pos) (LE Y.Z K0 fun ρ => (g ρ).bind fun os ρ1 => oko (blt b (os.map (rs ρ1))) ρ1) := by
  have hz : bltS b ∈ bltN := by cases b <;> decide
  obtain ⟨rfl, hg, hm⟩ := bName_of hb G Yk hz
  have hK := G.g.K
  have hc := G.g.calm
  cases b with
  | len => exact snd_blt (cr_len hK) hg hm (by decide +kernel) (by decide) (by decide) a.pa a.st
  | abs => exact snd_blt cr_abs hg hm (by decide +kernel) (by decide) (by decide) a.pa a.st
  | int => exact snd_bty cr_int hg hm (by decide +kernel) (by decide) (by decide) a.pa a.st
  | tuple => exact snd_bty (cr_tuple hK) hg hm (by decide +kernel) (by decide) (by decide) a.pa a.st
  | list => exact snd_bty (cr_list hK) hg hm (by decide +kernel) (by decide) (by decide) a.pa a.st
  | sum => exact snd_blt (cr_sumO hK hc) hg hm (by decide +kernel) (by decide) (by decide) a.pa a.st
  | max => exact snd_blt (cr_maxO hK hc) hg hm (by decide +kernel) (by decide) (by decide) a.pa a.st
  | min => exact snd_blt (cr_minO hK hc) hg hm (by decide +kernel) (by decide) (by decide) a.pa a.st
  | max2 => exact snd_blt (cr_max2 hc) hg hm (by decide +kernel) (by decide) (by decide) a.pa a.st
  | min2 => exact snd_blt (cr_min2 hc) hg hm (by decide +kernel) (by decide) (by decide) a.pa a.st
  | min3 => cases hA
  | all => exact snd_blt (cr_allO hK hc) hg hm (by decide +kernel) (by decide) (by decide) a.pa a.st
  | any => exact snd_blt (cr_anyO hK hc) hg hm (by decide +kernel) (by decide) (by decide) a.pa a.st
  | sorted => exact snd_blt (cr_sortO hK) hg hm (by decide +kernel) (by decide) (by decide) a.pa a.st
  | sortedSet => cases hA
  | dict => cases hA
/-- sorted(set(a)) -/
theorem snd_sortSet {a : Expr} {f : Ev → R O} {y z : Str} {p p2 q pos : Pos} (Yk : Gk Y) (G : Gd Y n c K0 X) (h1 : bName c "sorted" y = true) (h2 : bName c "set" z = true) (ha : PE X a (LE Y.Z K0 f)) (hs : isStar a = false) :
    PE X (.Call (.Name y p) [.Call (.Name z p2) [a] [] q] [] pos) (LE Y.Z K0 fun ρ => ((f ρ).bind fun o ρ1 => .ok [o] ρ1).bind fun os ρ1 => oko (blt .sortedSet (os.map (rs ρ1))) ρ1) := by
  obtain ⟨rfl, g1, m1⟩ := bName_of h1 G Yk (by decide)
  obtain ⟨rfl, g2, m2⟩ := bName_of h2 G Yk (by decide)
  refine peImp (pe_sortSet G.g.calm g1 m1 g2 m2 ha (star_cons hs)) fun σ H Q q => ?_
  simp only [bind_assoc, R.bind_ok] at q
  refine one q fun o ρ1 x F1 H1 F0 H0 ρ0 p oa fr post => ?_
  cases e : blt .sortedSet ([o].map (rs ρ1)) with
  | none => rw [e] at post; exact post.elim
  | some r =>
    rw [e] at post
    obtain ⟨l, ns, el, sq, er⟩ := intsF_ok (os := [rs ρ1 o]) (vs := [x]) ⟨x, [], rfl, oa.rv p.st, rfl⟩ e
    cases el
    split at er
    · rename_i hl
      cases er
      rw [G.g.K]
      exact ⟨l, ns, rfl, sq, hl, fun b hb => fin_new p post (new_lst hb (Rps.ints _))⟩
    · cases er
end
end Ev
/-! Ev17: soundness of the look at expressions, all of them. -/
namespace Ev
open PySem PySem.Spec PyProof.Rows L2
theorem isAnd_of {o : PySem.BoolOp} (h : isAnd o = true) : o = .And := by cases o <;> first | rfl | (cases h)
theorem isOr_of {o : PySem.BoolOp} (h : (!isAnd o) = true) : o = .Or := by cases o <;> first | rfl | (cases h)
theorem noPar_of {a : Arguments} (h : noPar a = true) : a = ⟨[], [], none, [], [], none, []⟩ := by
  unfold noPar at h
  split at h
  · rfl
  · cases h
theorem chkIt_ns {k : Ik} {c : Cs} {t x : Expr} {L : List Expr → Bool} (h : chkIt k c t x L = true) : noSetB x = true := by
  cases k with
  | seq =>
    simp only [chkIt, Bool.and_eq_true] at h
    exact h.1
  | rng =>
    simp only [chkIt] at h
    split at h
    · rfl
    · cases h
  | enum =>
    simp only [chkIt] at h
    split at h
    · rfl
    · cases h
  | zip =>
    simp only [chkIt] at h
    split at h
    · rfl
    · cases h
def stopOf : PySem.BoolOp → Bool
  | .And => false
  | .Or => true
theorem evAO_two {T : Top} {C : Calls} {b : Bool} {e e2 : Ev.E} {es : List Ev.E} {n : Nat} : evAO T C b (e :: e2 :: es) n = fun ρ => onB b (evE T C e n ρ) (evAO T C b (e2 :: es) n) := rfl
theorem evAO_one {T : Top} {C : Calls} {b : Bool} {e : Ev.E} {n : Nat} : evAO T C b [e] n = evE T C e n := rfl
section
variable {Y : Gw}
/-- and, or -/
def AO (Y : Gw) (K0 : XK) (X : Cx) (op : PySem.BoolOp) (xs : List Expr) (f : Ev → R O) : Prop := ∀ pos, PE X (.BoolOp op xs pos) (LE Y.Z K0 f) ∧ PW X (.BoolOp op xs pos) (LT Y.Z K0 fun ρ => asT (f ρ))
mutual
theorem sndE (Yk : Gk Y) : ∀ {e : Ev.E} {n : Nat} {c : Cs} {K0 : XK} {X : Cx} {x : Expr}, Gd Y n c K0 X → Fok Y n → chkE Y.nm e c x = true → Both Y K0 X x (evE Y.T Y.C e n)
  | .non, n, c, K0, X, x, G, K, h => by
    simp only [chkE] at h
    split at h
    · split at h
      · exact both G (snd_const pe_non fun _ _ => by simp only [Rp]) rfl
      · cases h
    · cases h
  | .bl b, n, c, K0, X, x, G, K, h => by
    simp only [chkE] at h
    split at h
    · split at h
      · rename_i b'
        have e : b = b' := by simpa using h
        subst e
        exact both G (snd_const pe_bl fun _ _ => by simp only [Rp]) rfl
      · cases h
    · cases h
  | .int i, n, c, K0, X, x, G, K, h => by
    simp only [chkE] at h
    split at h
    · split at h
      · have e : i = _ := of_decide_eq_true h
        subst e
        exact both G (snd_const pe_int fun _ _ => by simp only [Rp]) rfl
      · cases h
    · cases h
  | .str k, n, c, K0, X, x, G, K, h => by
    simp only [chkE] at h
    split at h
    · split at h
      · have e := nth_of h
        rw [← Yk.ok.sts] at e
        exact both G (snd_const pe_str fun _ _ => by simp only [Rp]; exact ⟨_, e, rfl⟩) rfl
      · cases h
    · cases h
  | .abs, n, c, K0, X, x, G, K, h => by
    simp only [chkE] at h
    cases h
  | .var i, n, c, K0, X, x, G, K, h => by
    simp only [chkE] at h
    split at h
    · unfold varB at h
      simp only [Bool.and_eq_true, Bool.not_eq_true'] at h
      obtain ⟨h1, h2, h3⟩ := h
      obtain ⟨d1, d2, _⟩ := odd_no h3
      exact both G (snd_var (pe_var (by rw [G.g.N]; exact nth_of h1) (G.g.vis _ h2) d1 d2)) rfl
    · cases h
  | .con k, n, c, K0, X, x, G, K, h => by
    simp only [chkE] at h
    split at h
    · simp only [Bool.and_eq_true, Bool.not_eq_true'] at h
      obtain ⟨h1, h2, h3⟩ := h
      obtain ⟨d1, d2, _⟩ := odd_no h3
      obtain ⟨d, v, u, e1, e2, e3, e4⟩ := Yk.ok.con k _ (nth_of h1)
      have ee : evE Y.T Y.C (.con k) n = fun ρ => .ok (.d d) ρ := by
        funext ρ
        simp only [evE, e1, okd, R.opt_some]
      rw [ee]
      exact both G (snd_const (pe_glob (G.g.gl _ h2) (by rw [G.g.mg]; exact e2) e3 d1) e4) rfl
    · cases h
  | .bin op a b, n, c, K0, X, x, G, K, h => by
    simp only [chkE] at h
    split at h
    · simp only [Bool.and_eq_true, decide_eq_true_eq] at h
      obtain ⟨h1, h2, h3⟩ := h
      subst h1
      exact both G (snd_bin (sndE Yk G K h2).1 (sndE Yk G K h3).1 (op_bin G.g.K Yk.ok.st op)) rfl
    · cases h
  | .neg a, n, c, K0, X, x, G, K, h => by
    simp only [chkE] at h
    split at h
    · split at h
      · exact both G (snd_neg (sndE Yk G K h).1) rfl
      · cases h
    · cases h
  | .andL es, n, c, K0, X, x, G, K, h => by
    simp only [chkE] at h
    split at h
    · rename_i o xs pos
      simp only [Bool.and_eq_true] at h
      obtain ⟨h1, h2, h3⟩ := h
      rw [isAnd_of h1]
      have z := (sndAO Yk (op := .And) G K h2 h3) pos
      exact ⟨z.1, fun _ => z.2.pt⟩
    · cases h
  | .orL es, n, c, K0, X, x, G, K, h => by
    simp only [chkE] at h
    split at h
    · rename_i o xs pos
      simp only [Bool.and_eq_true] at h
      obtain ⟨h1, h2, h3⟩ := h
      rw [isOr_of h1]
      have z := (sndAO Yk (op := .Or) G K h2 h3) pos
      exact ⟨z.1, fun _ => z.2.pt⟩
    · cases h
  | .not_ a, n, c, K0, X, x, G, K, h => by
    simp only [chkE] at h
    split at h
    · split at h
      · simp only [Bool.and_eq_true] at h
        have z := sndE Yk G K h.1
        exact ⟨snd_notV G.g.K z.1, fun _ => snd_not (z.2 h.2)⟩
      · cases h
    · cases h
  | .cmp op a b, n, c, K0, X, x, G, K, h => by
    simp only [chkE] at h
    split at h
    · split at h
      · simp only [Bool.and_eq_true, isOp, decide_eq_true_eq] at h
        obtain ⟨h1, h2, h3, h4⟩ := h
        subst h1
        have za := sndE Yk G K h3
        have zb := sndE Yk G K h4
        exact ⟨snd_cmp za.1 zb.1 (op_cmp Yk G op) (nosetI h2), fun _ => snd_cmpT za.1 zb.1 (op_cmp Yk G op) (nosetI h2)⟩
      · cases h
    · cases h
  | .chain o1 o2 a b d, n, c, K0, X, x, G, K, h => by
    simp only [chkE] at h
    split at h
    · split at h
      · simp only [Bool.and_eq_true, isOp, decide_eq_true_eq] at h
        obtain ⟨⟨h1, h2⟩, ⟨h3, h4⟩, h5, h6, h7⟩ := h
        subst h1 h2
        have za := sndE Yk G K h5
        have zb := sndE Yk G K h6
        have zd := sndE Yk G K h7
        exact ⟨snd_chain (op_cmp Yk G o1) (op_cmp Yk G o2) za.1 zb.1 zd.1 (nosetI h3) (nosetI h4), fun _ => snd_chainT (op_cmp Yk G o1) (op_cmp Yk G o2) za.1 zb.1 zd.1 (nosetI h3) (nosetI h4)⟩
      · cases h
    · cases h
  | .ite t a b, n, c, K0, X, x, G, K, h => by
    simp only [chkE] at h
    split at h
    · simp only [Bool.and_eq_true] at h
      obtain ⟨h1, h2, h3, h4⟩ := h
      exact ⟨snd_ite ((sndE Yk G K h2).2 h1) (sndE Yk G K h3).1 (sndE Yk G K h4).1, fun z => by cases z⟩
    · cases h
  | .tup es, n, c, K0, X, x, G, K, h => by
    simp only [chkE] at h
    split at h
    · simp only [Bool.and_eq_true, decide_eq_true_eq] at h
      exact both G (snd_tup (sndL Yk G K h.2).pa fun ρ os ρ1 e => by rw [evL_len e]; exact h.1) rfl
    · cases h
  | .lst es, n, c, K0, X, x, G, K, h => by
    simp only [chkE] at h
    split at h
    · simp only [Bool.and_eq_true, decide_eq_true_eq] at h
      exact both G (snd_lst (sndL Yk G K h.2).pa fun ρ os ρ1 e => by rw [evL_len e]; exact h.1) rfl
    · cases h
  | .dnew t, n, c, K0, X, x, G, K, h => by
    simp only [chkE] at h
    cases h
  | .ix a i, n, c, K0, X, x, G, K, h => by
    simp only [chkE] at h
    split at h
    · simp only [Bool.and_eq_true, Bool.not_eq_true'] at h
      obtain ⟨h1, h2, h3⟩ := h
      exact both G (snd_ix (sndE Yk G K h2).1 (sndE Yk G K h3).1 (ix_seqO G.g.K) h1) rfl
    · cases h
  | .sl a lo hi, n, c, K0, X, x, G, K, h => by
    simp only [chkE] at h
    split at h
    · split at h
      · rename_i l hh p2
        simp only [Bool.and_eq_true] at h
        obtain ⟨h1, h2, h3⟩ := h
        have po : ∀ {b : Ev.E} {o : Option Expr}, (∀ y, chkE Y.nm b c y = true → Both Y K0 X y (evE Y.T Y.C b n)) → (match o with | none => isAbs b | some y => !isAbs b && chkE Y.nm b c y) = true →
            PO X o (fun σ H Q => LG Y.Z K0 relI (fun ρ => if isAbs b = true then .ok none ρ else asI (evE Y.T Y.C b n ρ)) σ H Q) := fun {b o} hb q => by
          cases o with
          | none =>
            simp only at q
            simp only [q, if_true]
            exact snd_absent
          | some y =>
            simp only [Bool.and_eq_true, Bool.not_eq_true'] at q
            simp only [q.1, Bool.false_eq_true, if_false]
            exact snd_some (hb y q.2).1
        exact both G (snd_slice G.g.K (sndE Yk G K h1).1 (po (fun y hy => sndE Yk G K hy) h2) (po (fun y hy => sndE Yk G K hy) h3)) rfl
      · cases h
    · cases h
  | .rev a, n, c, K0, X, x, G, K, h => by
    simp only [chkE] at h
    cases h
  | .call f es, n, c, K0, X, x, G, K, h => by
    simp only [chkE] at h
    split at h
    · rename_i g xs kws pos
      split at h
      · rename_i y p
        simp only [Bool.and_eq_true, Bool.not_eq_true', decide_eq_true_eq] at h
        obtain ⟨⟨⟨h1, h2, h3⟩, h4, h5⟩, h6⟩ := h
        have a := sndL Yk G K h6
        have hlen := chkL_len h6
        cases xs with
        | nil =>
          rw [List.length_nil] at hlen
          have : es = [] := List.length_eq_zero_iff.mp hlen.symm
          rw [this] at h5
          cases h5
        | cons e xs =>
          exact both G (snd_call G.g K (nth_of h1) (G.g.gl _ h2) (odd_no h3).1 a.pa a.st fun ρ os ρ1 eg => by rw [evL_len eg, Yk.ar, h4]) rfl
      · cases h
    · cases h
  | .blt b es, n, c, K0, X, x, G, K, h => by
    simp only [chkE] at h
    split at h
    · rename_i g xs kws pos
      split at h
      · split at h
        · rename_i hb
          have eb : b = .sortedSet := by cases b <;> first | rfl | cases hb
          subst eb
          simp only [Bool.and_eq_true] at h
          obtain ⟨h1, h2⟩ := h
          split at h2
          · rename_i z p2 us q
            simp only [Bool.and_eq_true, decide_eq_true_eq] at h2
            obtain ⟨⟨h2, h3⟩, h4⟩ := h2
            have hl := chkL_len h4
            rw [h3] at hl
            match us, hl with
            | [u], _ =>
              obtain ⟨f, pf, ef⟩ := snd1 Yk G K h4
              have st := (sndL Yk G K h4).st
              have hs : isStar u = false := by simpa using st
              have ee : evE Y.T Y.C (.blt .sortedSet es) n = fun ρ => ((f ρ).bind fun o ρ1 => .ok [o] ρ1).bind fun os ρ1 => oko (blt .sortedSet (os.map (rs ρ1))) ρ1 := by
                funext ρ
                simp only [evE]
                rw [ef]
              rw [ee]
              exact both G (snd_sortSet Yk G h1 h2 pf hs) rfl
          · cases h2
        · simp only [Bool.and_eq_true] at h
          obtain ⟨⟨h1, h2⟩, h3⟩ := h
          have a := sndL Yk G K h3
          have hlen := chkL_len h3
          cases xs with
          | nil =>
            rw [← hlen] at h2
            cases b <;> cases h2
          | cons e xs => exact both G (snd_bltAll Yk G h1 (by rw [hlen]; exact h2) a) rfl
      · cases h
    · cases h
  | .isi a t, n, c, K0, X, x, G, K, h => by
    simp only [chkE] at h
    split at h
    · split at h
      · simp only [Bool.and_eq_true, Bool.not_eq_true'] at h
        obtain ⟨⟨⟨h1, h2⟩, h3⟩, h4⟩ := h
        obtain ⟨rfl, g1, m1⟩ := bName_of h1 G Yk (by decide)
        obtain ⟨rfl, g2, m2⟩ := bName_of h2 G Yk (by cases t <;> decide)
        have q : bootBuiltins (tyS t) = some (.type (tyN t)) := by cases t <;> decide +kernel
        exact both G (snd_isi G.g.K (sndE Yk G K h4).1 g1 m1 (by decide +kernel) (by decide) (by decide) g2 m2 q (by cases t <;> decide) (by cases t <;> decide) h3) rfl
      · cases h
    · cases h
  | .app i e, n, c, K0, X, x, G, K, h => by
    simp only [chkE] at h
    split at h
    · split at h
      · simp only [Bool.and_eq_true, Bool.not_eq_true', decide_eq_true_eq] at h
        obtain ⟨⟨⟨⟨h1, h2⟩, h3⟩, h4⟩, h5⟩ := h
        subst h1
        unfold varB at h2
        simp only [Bool.and_eq_true, Bool.not_eq_true'] at h2
        obtain ⟨v1, v2, v3⟩ := h2
        obtain ⟨d1, d2, _⟩ := odd_no v3
        exact both G (snd_app G.g.K (pe_var (by rw [G.g.N]; exact nth_of v1) (G.g.vis _ v2) d1 d2) (sndE Yk G K h5).1 h4 h3) rfl
      · cases h
    · cases h
  | .pop i, n, c, K0, X, x, G, K, h => by
    simp only [chkE] at h
    split at h
    · split at h
      · simp only [Bool.and_eq_true, decide_eq_true_eq] at h
        obtain ⟨⟨h1, h2⟩, h3⟩ := h
        subst h1
        unfold varB at h2
        simp only [Bool.and_eq_true, Bool.not_eq_true'] at h2
        obtain ⟨v1, v2, v3⟩ := h2
        obtain ⟨d1, d2, _⟩ := odd_no v3
        exact both G (snd_pop G.g.K (pe_var (by rw [G.g.N]; exact nth_of v1) (G.g.vis _ v2) d1 d2) h3) rfl
      · cases h
    · cases h
  | .get2 d k e, n, c, K0, X, x, G, K, h => by
    simp only [chkE] at h
    cases h
  | .sdef i k e, n, c, K0, X, x, G, K, h => by
    simp only [chkE] at h
    cases h
  | .comp elt tg k es ifs own, n, c, K0, X, x, G, K, h => by
    simp only [chkE] at h
    split at h
    · rename_i y gs sc pos
      split at h
      · rename_i t it fs
        simp only [Bool.and_eq_true] at h
        obtain ⟨⟨⟨⟨⟨h1, h2⟩, h3⟩, h4⟩, h5⟩, h6⟩ := h
        have it := snd_it Yk G h3 (fun xs hx => sndL Yk G K hx) (fun x hx => snd1 Yk G K hx)
        exact both G (snd_comp G.g.calm (by rw [G.g.N]; exact G.g.nd) it.1 (G.blkOk (blkOk_by h5)) (by unfold ownP; simp [List.map_map, Function.comp_def]) (fun i hi => by simpa using List.all_eq_true.mp h6 i hi)
          (fun s H C cl fp => (sndTg (G.blk s H C cl fp) h2).1) (fun s H C cl fp => sndTs Yk (G.blk s H C cl fp) K h4) (fun s H C cl fp => (sndE Yk (G.blk s H C cl fp) K h1).1) (noSet it.2)) rfl
      · cases h
    · cases h
  | .comp2 elt t1 k1 e1 t2 k2 e2 ifs own, n, c, K0, X, x, G, K, h => by
    simp only [chkE] at h
    split at h
    · rename_i y gs sc pos
      split at h
      · rename_i t it t' it' fs
        simp only [Bool.and_eq_true] at h
        obtain ⟨⟨⟨⟨⟨⟨⟨⟨h1, h2⟩, h3⟩, h4⟩, h5⟩, h6⟩, h7⟩, h8⟩, h9⟩ := h
        have it1 := snd_it Yk G h3 (fun xs hx => sndL Yk G K hx) (fun x hx => snd1 Yk G K hx)
        have it2 := fun (s : Shared) (H : Hp) (C : Addr) (cl : List (Str × Addr)) (fp : List Addr) => snd_it Yk (G.blk (scope := sc) s H C cl fp) h5 (fun xs hx => sndL Yk (G.blk (scope := sc) s H C cl fp) K hx) (fun x hx => snd1 Yk (G.blk (scope := sc) s H C cl fp) K hx)
        have ns : noSetB it' = true := chkIt_ns h5
        exact both G (snd_comp2 G.g.calm (by rw [G.g.N]; exact G.g.nd) it1.1 (G.blkOk (blkOk_by h7)) (by unfold ownP; simp [List.map_map, Function.comp_def]) (fun i hi => by simpa using List.all_eq_true.mp h8 i hi) (fun i hi => by simpa using List.all_eq_true.mp h9 i hi)
          (fun s H C cl fp => (sndTg (G.blk s H C cl fp) h2).1) (fun s H C cl fp => (it2 s H C cl fp).1) (fun s H C cl fp => (sndTg (G.blk s H C cl fp) h4).1) (fun s H C cl fp => sndTs Yk (G.blk s H C cl fp) K h6) (fun s H C cl fp => (sndE Yk (G.blk s H C cl fp) K h1).1) (noSet it1.2) (fun env => noSet (env := env) ns)) rfl
      · cases h
    · cases h
  | .dcomp t k v tg ik es ifs own, n, c, K0, X, x, G, K, h => by
    simp only [chkE] at h
    cases h
  | .told b, n, c, K0, X, x, G, K, h => by
    simp only [chkE] at h
    split at h
    · split at h
      · rename_i y p ps body sc lp
        simp only [Bool.and_eq_true, Bool.not_eq_true'] at h
        obtain ⟨⟨⟨⟨⟨h1, h2, h3⟩, h4⟩, h5⟩, h6⟩, h7⟩ := h
        have ht : Y.nm.told = some y := by
          cases q : Y.nm.told with
          | none => rw [q] at h1; cases h1
          | some z => rw [q] at h1; rw [of_decide_eq_true h1]
        obtain ⟨cd, P, L⟩ := G.lam h4
        have ls := G.lamS (LamX.lamS_by h5)
        have ep := noPar_of h6
        subst ep
        match n, G, K with
        | 0, G, K => exact both G peStuck rfl
        | 1, G, K => exact both G peStuck rfl
        | m + 2, G, K =>
          have K1 : Fok Y (m + 1) := ⟨fun f x e => by
            obtain ⟨a, fd, ps, h1, h2, h3, h4⟩ := K.fn f x e
            exact ⟨a, fd, ps, h1, h2, h3, fun k hk => h4 k (by omega)⟩⟩
          have K2 : Fok Y m := ⟨fun f x e => by
            obtain ⟨a, fd, ps, h1, h2, h3, h4⟩ := K.fn f x e
            exact ⟨a, fd, ps, h1, h2, h3, fun k hk => h4 k (by omega)⟩⟩
          exact both G (snd_told G.g K1 (Yk.tol _ ht) L (G.g.gl _ h2) h3 ls rfl rfl (fun _ _ _ _ _ => rfl) fun A outer s H E' f c' hr => (sndE Yk (G.lamb ls A outer s H E' f c' hr) K2 h7).1) rfl
      · cases h
    · cases h
theorem sndL (Yk : Gk Y) : ∀ {es : List Ev.E} {n : Nat} {c : Cs} {K0 : XK} {X : Cx} {xs : List Expr}, Gd Y n c K0 X → Fok Y n → chkL Y.nm es c xs = true → ArgsOk Y K0 X xs (evL Y.T Y.C es n)
  | [], n, c, K0, X, xs, G, K, h => by
    simp only [chkL] at h
    cases xs with
    | nil => exact ⟨snd_nil, fun ρ os ρ1 e => by rw [evL_len e]; rfl, rfl⟩
    | cons x xs => cases h
  | e :: es, n, c, K0, X, xs, G, K, h => by
    simp only [chkL] at h
    cases xs with
    | nil => cases h
    | cons x xs =>
      simp only [Bool.and_eq_true, Bool.not_eq_true'] at h
      obtain ⟨h1, h2, h3⟩ := h
      have a := sndL Yk G K h3
      exact ⟨snd_cons (sndE Yk G K h2).1 a.pa h1, fun ρ os ρ1 e => by rw [evL_len e, List.length_cons, List.length_cons, chkL_len h3], by rw [List.all_cons, a.st, h1]; rfl⟩
theorem snd1 (Yk : Gk Y) : ∀ {es : List Ev.E} {n : Nat} {c : Cs} {K0 : XK} {X : Cx} {x : Expr}, Gd Y n c K0 X → Fok Y n → chkL Y.nm es c [x] = true → ∃ f, PE X x (LE Y.Z K0 f) ∧ evL Y.T Y.C es n = fun ρ => (f ρ).bind fun o ρ1 => .ok [o] ρ1
  | [], n, c, K0, X, x, G, K, h => by
    simp only [chkL] at h
    cases h
  | e :: es, n, c, K0, X, x, G, K, h => by
    simp only [chkL, Bool.and_eq_true] at h
    obtain ⟨_, h2, h3⟩ := h
    have e0 : es = [] := List.length_eq_zero_iff.mp (by rw [← chkL_len h3]; rfl)
    subst e0
    exact ⟨_, (sndE Yk G K h2).1, by funext ρ; simp only [evL, R.bind_ok]⟩
theorem sndTs (Yk : Gk Y) : ∀ {es : List Ev.E} {n : Nat} {c : Cs} {K0 : XK} {X : Cx} {xs : List Expr}, Gd Y n c K0 X → Fok Y n → chkTs Y.nm es c xs = true → PTs X xs (LT Y.Z K0 (evTs Y.T Y.C es n))
  | [], n, c, K0, X, xs, G, K, h => by
    simp only [chkTs] at h
    cases xs with
    | nil => exact snd_tests0
    | cons x xs => cases h
  | e :: es, n, c, K0, X, xs, G, K, h => by
    simp only [chkTs] at h
    cases xs with
    | nil => cases h
    | cons x xs =>
      simp only [Bool.and_eq_true] at h
      obtain ⟨h1, h2, h3⟩ := h
      exact snd_tests ((sndE Yk G K h2).2 h1) (sndTs Yk G K h3)
theorem sndAO (Yk : Gk Y) {op : PySem.BoolOp} : ∀ {es : List Ev.E} {n : Nat} {c : Cs} {K0 : XK} {X : Cx} {xs : List Expr}, Gd Y n c K0 X → Fok Y n → chkL Y.nm es c xs = true → xs.all okT = true → AO Y K0 X op xs (evAO Y.T Y.C (stopOf op) es n)
  | [], n, c, K0, X, xs, G, K, h, ht => fun pos => ⟨peStuck, ⟨fun _ _ _ _ _ _ _ ⟨_, _, _, _, _, _, post⟩ => post.elim⟩⟩
  | e :: es, n, c, K0, X, xs, G, K, h, ht => by
    simp only [chkL] at h
    cases xs with
    | nil => cases h
    | cons x xs =>
      simp only [Bool.and_eq_true, Bool.not_eq_true'] at h
      obtain ⟨h1, h2, h3⟩ := h
      rw [List.all_cons, Bool.and_eq_true] at ht
      have z := sndE Yk G K h2
      cases es with
      | nil =>
        have e0 : xs = [] := List.length_eq_zero_iff.mp (chkL_len h3)
        subst e0
        intro pos
        have ee : evAO Y.T Y.C (stopOf op) [e] n = evE Y.T Y.C e n := by
          exact evAO_one
        rw [ee]
        refine ⟨snd_ao1 z.1, ?_⟩
        cases op with
        | And => exact pw_and1 (z.2 ht.1)
        | Or => exact pw_or1 (z.2 ht.1)
      | cons e2 es =>
        cases xs with
        | nil => simp [chkL] at h3
        | cons x2 xs =>
          have w := sndAO Yk (op := op) G K h3 ht.2
          intro pos
          have ee : evAO Y.T Y.C (stopOf op) (e :: e2 :: es) n = fun ρ => onB (stopOf op) (evE Y.T Y.C e n ρ) (evAO Y.T Y.C (stopOf op) (e2 :: es) n) := by
            exact evAO_two
          rw [ee]
          cases op with
          | And => exact ⟨snd_and z.1 (w pos).1, snd_andT (z.2 ht.1) (w pos).2⟩
          | Or => exact ⟨snd_or z.1 (w pos).1, snd_orT (z.2 ht.1) (w pos).2⟩
theorem chkL_len : ∀ {es : List Ev.E} {c : Cs} {xs : List Expr}, chkL Y.nm es c xs = true → xs.length = es.length
  | [], c, xs, h => by
    simp only [chkL] at h
    cases xs with
    | nil => rfl
    | cons x xs => cases h
  | e :: es, c, xs, h => by
    simp only [chkL] at h
    cases xs with
    | nil => cases h
    | cons x xs =>
      simp only [Bool.and_eq_true] at h
      rw [List.length_cons, List.length_cons, chkL_len h.2.2]
end
end
end Ev
/-! Ev18: the look at statements; its soundness. -/
namespace Ev
open PySem PySem.Spec PyProof.Rows L2
/-! ### a list comprehension that is put to a name at once -/
section
variable {n : Nat} {E : XK} {X : Cx} {Z : Wo}
theorem snd_setLc {i : Nat} {y : Str} {py pos spos : Pos} {elt tg iter : Expr} {ifs : List Expr} {scope : Scope} {own : List (Str × Nat)} {ow : List Nat} {gi : Ev → R (List D × List Nat)} {t : Tg} {ft : Ev → R Bool} {fe : Ev → R O} (hc : X.calm = true) (hN : X.N.Nodup) (hy : X.N[i]? = some y) (hyl : X.env.scope.names.lookup y = some .local)
    (hsw : swapsWith (.ListComp elt [⟨tg, iter, ifs, 0⟩] scope pos) (some (.Name y py)) spos.line X.env = pure true) (hi : PI X tg iter (LI Z E gi)) (ok : BlkOk X.N X.env.scope scope own)
    (hw : own.map (·.2) = ow) (hts : ∀ i ∈ slots t, i ∈ ow)
    (hg : ∀ (s : Shared) (H : Hp) (C : Addr) (cl : List (Str × Addr)) (fp : List Addr), PG (X.blk s H scope (compEnvC scope cl C X.env) fp) tg (LGt Z t)) (ht : ∀ (s : Shared) (H : Hp) (C : Addr) (cl : List (Str × Addr)) (fp : List Addr), PTs (X.blk s H scope (compEnvC scope cl C X.env) fp) ifs (LT Z E0 ft))
    (he : ∀ (s : Shared) (H : Hp) (C : Addr) (cl : List (Str × Addr)) (fp : List Addr), PE (X.blk s H scope (compEnvC scope cl C X.env) fp) elt (LE Z E0 fe)) (hs : ∀ x, foldedSetIterable iter X.env x = pure x) :
    PS X (.Assign [.Name y py] (.ListComp elt [⟨tg, iter, ifs, 0⟩] scope pos) spos) (LS Z E [i] fun ρ => ((gi ρ).bind fun p ρ1 => compEnd ow ρ1 p.2 (walkL (compTurn ow ρ1 p.2 t ft fe) p.1 [] (wipe ρ1 ow))).bind fun o ρ1 => nxt (assign ρ1 i o)) := by
  subst hw
  exact psImp (ps_setLc hc hN hy hyl hsw hi ok hg ht he hs) fun D σ H q => snd_comp.lcImp hts (setImp (e := elt) (List.mem_singleton.mpr rfl) D σ H q)
theorem snd_setLc2 {i : Nat} {y : Str} {py pos spos : Pos} {elt tg iter tg1 iter1 : Expr} {ifs1 : List Expr} {scope : Scope} {own : List (Str × Nat)} {ow : List Nat} {gi g2 : Ev → R (List D × List Nat)} {t t2 : Tg} {ft : Ev → R Bool} {fe : Ev → R O} (hc : X.calm = true) (hN : X.N.Nodup) (hy : X.N[i]? = some y) (hyl : X.env.scope.names.lookup y = some .local)
    (hsw : swapsWith (.ListComp elt [⟨tg, iter, [], 0⟩, ⟨tg1, iter1, ifs1, 0⟩] scope pos) (some (.Name y py)) spos.line X.env = pure true) (hi : PI X tg iter (LI Z E gi)) (ok : BlkOk X.N X.env.scope scope own)
    (hw : own.map (·.2) = ow) (hts : ∀ i ∈ slots t, i ∈ ow) (hts2 : ∀ i ∈ slots t2, i ∈ ow)
    (hg : ∀ (s : Shared) (H : Hp) (C : Addr) (cl : List (Str × Addr)) (fp : List Addr), PG (X.blk s H scope (compEnvC scope cl C X.env) fp) tg (LGt Z t))
    (hi1 : ∀ (s : Shared) (H : Hp) (C : Addr) (cl : List (Str × Addr)) (fp : List Addr), PI (X.blk s H scope (compEnvC scope cl C X.env) fp) tg1 iter1 (LI Z E0 g2))
    (hg1 : ∀ (s : Shared) (H : Hp) (C : Addr) (cl : List (Str × Addr)) (fp : List Addr), PG (X.blk s H scope (compEnvC scope cl C X.env) fp) tg1 (LGt Z t2))
    (ht1 : ∀ (s : Shared) (H : Hp) (C : Addr) (cl : List (Str × Addr)) (fp : List Addr), PTs (X.blk s H scope (compEnvC scope cl C X.env) fp) ifs1 (LT Z E0 ft))
    (he : ∀ (s : Shared) (H : Hp) (C : Addr) (cl : List (Str × Addr)) (fp : List Addr), PE (X.blk s H scope (compEnvC scope cl C X.env) fp) elt (LE Z E0 fe)) (hs : ∀ x, foldedSetIterable iter X.env x = pure x) (hs1 : ∀ env x, foldedSetIterable iter1 env x = pure x) :
    PS X (.Assign [.Name y py] (.ListComp elt [⟨tg, iter, [], 0⟩, ⟨tg1, iter1, ifs1, 0⟩] scope pos) spos) (LS Z E [i] fun ρ => ((gi ρ).bind fun p ρ1 => compEnd ow ρ1 p.2 (walkL (compTurn2 ow ρ1 p.2 t g2 (slots t2) fun ρ3 ws2 => compTurn (slots t2) ρ3 ws2 t2 ft fe) p.1 [] (wipe ρ1 ow))).bind fun o ρ1 => nxt (assign ρ1 i o)) := by
  subst hw
  exact psImp (ps_setLc2 (vs1 := slots t2) hc hN hy hyl hsw hi ok hts2 hg (fun _ _ _ _ _ => pts_nil) hi1 hg1 ht1 he hs hs1) fun D σ H q => snd_comp2.lcImp2 hts hts2 (setImp (e := elt) (List.mem_singleton.mpr rfl) D σ H q)
end
/-! ### the look -/
def isCompX : Expr → Bool
  | .ListComp _ _ _ _ => true
  | .SetComp _ _ _ _ => true
  | .DictComp _ _ _ _ _ => true
  | _ => false
theorem swaps_no {x : Expr} {t : Option Expr} {l : Nat} {env : Env} (h : isCompX x = false) : swapsWith x t l env = pure false := by
  cases x <;> first | rfl | (cases h)
/-- whether a comprehension is put to the name at once -/
def swB (c : Cs) (y : Str) (py pos : Pos) (sc : Scope) : Bool := (match c.sc.names.lookup y with | some .local => true | _ => false) && (py.line == pos.line) && !(sc.names.any fun (n, k) => n == y && (k == .local || k == .cell))
theorem swaps_is {c : Cs} {y : Str} {py pos : Pos} {elt : Expr} {gs : List Comprehension} {sc : Scope} {l : Nat} {env : Env} (hk : env.scope.kind = .function) (he : env.scope = c.sc) : swapsWith (.ListComp elt gs sc pos) (some (.Name y py)) l env = pure (swB c y py pos sc) := by
  have hb : env.blockKind = .function := by unfold Env.blockKind; rw [hk]; rfl
  have ky : env.kindOf y = c.sc.names.lookup y := by unfold Env.kindOf; rw [he]
  unfold swapsWith swB
  simp only [hb, ky, Expr.pos]
  congr 1
  cases c.sc.names.lookup y with
  | none => simp
  | some k => cases k <;> simp
/-- which names the stores of a pair are swapped with -/
def swapC (sc : Scope) (ts vs : List Expr) : Option (Option (List Str)) :=
  if (!(ts.length == 2 || ts.length == 3) || vs.length != ts.length) = true then some none
  else if (vs.any isStar) = true then some none
  else if ((ts.filterMap fun | .Name id pos => if sc.names.lookup id == some .local && pos.line == (ts.head?.map (·.pos.line)).getD 0 then some id else none | _ => none).length != ts.length ||
    (ts.filterMap fun | .Name id pos => if sc.names.lookup id == some .local && pos.line == (ts.head?.map (·.pos.line)).getD 0 then some id else none | _ => none).eraseDups.length != (ts.filterMap fun | .Name id pos => if sc.names.lookup id == some .local && pos.line == (ts.head?.map (·.pos.line)).getD 0 then some id else none | _ => none).length) = true then some none
  else if (vs.all (foldedForSure 8)) = true then some none
  else if (vs.all (constantsAlone 8)) = true then none
  else some (some (ts.filterMap fun | .Name id pos => if sc.names.lookup id == some .local && pos.line == (ts.head?.map (·.pos.line)).getD 0 then some id else none | _ => none))
theorem swap_is {sc : Scope} {ts vs : List Expr} {env : Env} {k k2 : Nat} {p p2 : Pos} {r : Option (List Str)} (hk : env.scope.kind = .function) (he : env.scope = sc) (h : swapC sc ts vs = some r) : swappedStores [.Tuple ts k p] (.Tuple vs k2 p2) env = pure r := by
  have hb : env.blockKind = .function := by unfold Env.blockKind; rw [hk]; rfl
  have ky : ∀ y, env.kindOf y = sc.names.lookup y := fun y => by unfold Env.kindOf; rw [he]
  have hst : (vs.any fun | .Starred .. => true | _ => false) = vs.any isStar := by
    congr 1
  unfold swapC at h
  unfold swappedStores
  simp only [hb, ky]
  by_cases h1 : (!(ts.length == 2 || ts.length == 3) || vs.length != ts.length) = true
  · rw [if_pos h1] at h
    cases h
    have : (!(ts.length == 2 || ts.length == 3) || vs.length != ts.length || (ScopeKind.function != ScopeKind.function)) = true := by rw [h1]; rfl
    rw [if_pos this]
  · rw [if_neg h1] at h
    have : ¬ (!(ts.length == 2 || ts.length == 3) || vs.length != ts.length || (ScopeKind.function != ScopeKind.function)) = true := by simpa using h1
    rw [if_neg this]
    by_cases h2 : (vs.any isStar) = true
    · rw [if_pos h2] at h
      cases h
      exact (if_pos (hst.trans h2)).trans rfl
    · rw [if_neg h2] at h
      refine (if_neg (fun z => h2 (hst.symm.trans z))).trans ?_
      split at h
      · rename_i h3
        cases h
        exact (if_pos h3).trans rfl
      · rename_i h3
        refine (if_neg h3).trans ?_
        split at h
        · rename_i h4
          cases h
          exact (if_pos h4).trans rfl
        · rename_i h4
          refine (if_neg h4).trans ?_
          split at h
          · cases h
          · rename_i h5
            cases h
            exact (if_neg h5).trans rfl
end Ev
/-! Ev19: the look at statements; its soundness. -/
namespace Ev
open PySem PySem.Spec PyProof.Rows L2
def isTupX : Expr → Bool
  | .Tuple _ _ _ => true
  | _ => false
/-- plain names in slots, none twice -/
def chkNs (c : Cs) : List Nat → List Expr → Bool
  | [], xs => xs.isEmpty
  | i :: is, xs => match xs with
    | [] => false
    | x :: xs => (match x with | .Name y _ => stoB c i y | _ => false) && !is.contains i && chkNs c is xs
def augOp : Bop → Operator → Bool
  | .add, .Add => true
  | .sub, .Sub => true
  | _, _ => false
def isLoc (c : Cs) (y : Str) : Bool := match c.sc.names.lookup y with
  | some .local => true
  | _ => false
def setOk (c : Cs) (y : Str) (py : Pos) (x : Expr) : Bool := match x with
  | .ListComp _ _ sc p => !swB c y py p sc || isLoc c y
  | .SetComp _ _ _ _ => false
  | .DictComp _ _ _ _ _ => false
  | _ => true
mutual
def chkS (nm : Nm) : S → Cs → Stmt → Bool
  | .ex e, c, st => match st with
    | .Expr x _ => !isCompX x && chkE nm e c x
    | _ => false
  | .ret e, c, st => match st with
    | .Return (some x) _ => chkE nm e c x
    | _ => false
  | .retN, _, st => match st with
    | .Return none _ => true
    | _ => false
  | .set i e, c, st => match st with
    | .Assign [.Name y py] x _ => stoB c i y && chkE nm e c x && setOk c y py x
    | _ => false
  | .setT ts e, c, st => match st with
    | .Assign [.Tuple xs _ _] x _ => chkTgs c ts xs && chkE nm e c x && !isTupX x
    | _ => false
  | .par is es, c, st => match st with
    | .Assign [.Tuple ts _ _] (.Tuple xs _ _) _ => chkNs c is ts && chkL nm es c xs && decide (is.length = es.length) && decide (is.length ≤ 1000) && (match swapC c.sc ts xs with
      | none => false
      | some none => true
      | some (some ns) => decide (ns.length = is.length) && ts.all (fun t => match t with | .Name y _ => isLoc c y | _ => false) && decide (ns = ts.filterMap fun t => match t with | .Name y _ => some y | _ => none) && decide (is.length = 2 ∨ is.length = 3))
    | _ => false
  | .setIx i k e, c, st => match st with
    | .Assign [.Subscript (.Name y _) ke _] x _ => varB c i y && chkE nm k c ke && chkE nm e c x && !isSlice ke
    | _ => false
  | .aug i op e, c, st => match st with
    | .AugAssign (.Name y _) o x _ => stoB c i y && augOp op o && chkE nm e c x
    | _ => false
  | .augIx _ _ _ _, _, _ => false
  | .ite t a b, c, st => match st with
    | .If x xs ys _ => okT x && chkE nm t c x && chkB nm a c xs && chkB nm b c ys
    | _ => false
  | .for_ tg k es b, c, st => match st with
    | .For t it xs [] _ => chkTg c tg t && chkIt k c t it (fun xs => chkL nm es c xs) && chkB nm b c xs
    | _ => false
  | .while_ t b, c, st => match st with
    | .While x xs [] _ => okT x && chkE nm t c x && chkB nm b c xs
    | _ => false
  | .raise k, c, st => match st with
    | .Raise (some (.Call (.Name y _) [.Constant (.str _) _ _] [] _)) none _ => nth nm.exs k y && (glB c y && !odd y)
    | _ => false
  | .pass, _, st => match st with
    | .Pass _ => true
    | .Expr (.Constant (.str _) _ _) _ => true
    | _ => false
  | .brk, _, st => match st with
    | .Break _ => true
    | _ => false
  | .cont, _, st => match st with
    | .Continue _ => true
    | _ => false
termination_by structural s => s
def chkB (nm : Nm) : List S → Cs → List Stmt → Bool
  | [], _, xs => xs.isEmpty
  | s :: ss, c, xs => match xs with
    | [] => false
    | x :: xs => chkS nm s c x && chkB nm ss c xs
termination_by structural ss => ss
end
/-- the context of a def's body -/
structure Gs (Y : Gw) (n : Nat) (c : Cs) (E : XK) (X : Cx) : Prop where
  gd : Gd Y n c E X
  sc : X.env.scope = c.sc
  fn : c.sc.kind = .function
  po : PassesOwn (model X.prog X.w) X.A X.env X.xe
  tk : Takes X (fun cls d _ H => E cls d H)
section
variable {Y : Gw} {n : Nat} {c : Cs} {K0 : XK} {X : Cx} {A : List Nat}
theorem sto_of {i : Nat} {y : Str} (G : Gd Y n c K0 X) (h : stoB c i y = true) : X.N[i]? = some y ∧ L2.Loc X.env.scope y ∧ (X.fn y = true ∨ X.env.scope.names.lookup y = some .local) := by
  unfold stoB at h
  simp only [Bool.and_eq_true, Bool.not_eq_true'] at h
  obtain ⟨h1, h2, _⟩ := h
  obtain ⟨l1, l2⟩ := G.g.loc y h2
  exact ⟨by rw [G.g.N]; exact nth_of h1, l1, l2⟩
theorem var_pe {i : Nat} {y : Str} {p : Pos} (G : Gd Y n c K0 X) (h : varB c i y = true) : PE X (.Name y p) (tVar i) := by
  unfold varB at h
  simp only [Bool.and_eq_true, Bool.not_eq_true'] at h
  obtain ⟨v1, v2, v3⟩ := h
  obtain ⟨d1, d2, _⟩ := odd_no v3
  exact pe_var (by rw [G.g.N]; exact nth_of v1) (G.g.vis _ v2) d1 d2
theorem chkNs_ok (G : Gd Y n c K0 X) : ∀ {is : List Nat} {ts : List Expr}, chkNs c is ts = true → PGs X ts (gAll is) ∧ (assignEach ts X.env).length = is.length ∧ (assignEach ts X.env).findIdx? (·.1) = none ∧ ts.length = is.length
  | [], ts, h => by
    simp only [chkNs] at h
    cases ts with
    | nil => exact ⟨gall_nil, rfl, rfl, rfl⟩
    | cons x xs => cases h
  | i :: is, ts, h => by
    simp only [chkNs] at h
    cases ts with
    | nil => cases h
    | cons x xs =>
      simp only [Bool.and_eq_true] at h
      obtain ⟨⟨h1, _⟩, h2⟩ := h
      obtain ⟨b1, b2, b3, b4⟩ := chkNs_ok G h2
      split at h1
      · rename_i y p
        obtain ⟨s1, s2, s3⟩ := sto_of G h1
        refine ⟨gall_cons (pg_name (by rw [G.g.N]; exact G.g.nd) s1 s2 s3) b1 rfl, by simp only [assignEach, List.length_cons, b2], by simp [assignEach, List.findIdx?_cons, b3], by simp only [List.length_cons, b4]⟩
      · cases h1
theorem isLoc_of {y : Str} (h : isLoc c y = true) : c.sc.names.lookup y = some .local := by
  unfold isLoc at h
  split at h
  · assumption
  · cases h
theorem snd_par {is : List Nat} {es : List Ev.E} {ts xs : List Expr} {kt k2 : Nat} {pt pt2 pos : Pos} (Yk : Gk Y) (G : Gs Y n c K0 X) (K : Fok Y n) (h1 : chkNs c is ts = true) (h2 : chkL Y.nm es c xs = true) (h3 : is.length = es.length) (h4 : is.length ≤ 1000)
    (h5 : (match swapC c.sc ts xs with
      | none => false
      | some none => true
      | some (some ns) => decide (ns.length = is.length) && ts.all (fun t => match t with | .Name y _ => isLoc c y | _ => false) && decide (ns = ts.filterMap fun t => match t with | .Name y _ => some y | _ => none) && decide (is.length = 2 ∨ is.length = 3)) = true) :
    PS X (.Assign [.Tuple ts kt pt] (.Tuple xs k2 pt2) pos) (LS Y.Z K0 is (parF is (evL Y.T Y.C es n))) := by
  have a := sndL Yk G.gd K h2
  obtain ⟨b1, b2, b3, b4⟩ := chkNs_ok G.gd h1
  have hN : X.N.Nodup := by rw [G.gd.g.N]; exact G.gd.g.nd
  have hk : X.env.scope.kind = .function := by rw [G.sc]; exact G.fn
  have hl : ∀ ρ os ρ1, evL Y.T Y.C es n ρ = .ok os ρ1 → os.length = is.length := fun ρ os ρ1 e => by rw [evL_len e, h3]
  cases q : swapC c.sc ts xs with
  | none => rw [q] at h5; cases h5
  | some r =>
    have sw := fun (k k2 : Nat) (p p2 : Pos) => swap_is (k := k) (k2 := k2) (p := p) (p2 := p2) hk G.sc q
    cases r with
    | none => exact snd_parG G.gd.g.K hl h4 G.gd.g.calm b1 b2 b3 a.pa rfl (sw kt k2 pt pt2) rfl
    | some ns =>
      rw [q] at h5
      simp only [Bool.and_eq_true, decide_eq_true_eq] at h5
      obtain ⟨⟨⟨g1, g2⟩, g3⟩, g4⟩ := h5
      have lx := chkL_len h2
      rcases g4 with g4 | g4
      · match is, ts, xs, g4, b4, h3, lx, h1, g2, g3 with
        | [i, j], [t1, t2], [x1, x2], _, _, _, _, h1, g2, g3 =>
          simp only [chkNs, Bool.and_eq_true] at h1
          obtain ⟨⟨u1, u2⟩, ⟨v1, v2⟩, _⟩ := h1
          cases t1 with
          | Name y1 q1 =>
            cases t2 with
            | Name y2 q2 =>
              simp only [List.all_cons, List.all_nil, Bool.and_true, Bool.and_eq_true] at g2
              have e3 : ns = [y1, y2] := g3
              subst e3
              obtain ⟨s1, _, _⟩ := sto_of G.gd u1
              obtain ⟨s2, _, _⟩ := sto_of G.gd v1
              have nij : i ≠ j := by simpa using u2
              exact snd_par2 hl G.gd.g.calm hN s1 s2 nij (by rw [G.sc]; exact isLoc_of g2.1) (by rw [G.sc]; exact isLoc_of g2.2) a.pa (sw kt k2 pt pt2)
            | _ => cases v1
          | _ => cases u1
      · match is, ts, xs, g4, b4, h3, lx, h1, g2, g3 with
        | [i, j, l], [t1, t2, t3], [x1, x2, x3], _, _, _, _, h1, g2, g3 =>
          simp only [chkNs, Bool.and_eq_true] at h1
          obtain ⟨⟨u1, u2⟩, ⟨v1, v2⟩, ⟨w1, w2⟩, _⟩ := h1
          cases t1 with
          | Name y1 q1 =>
            cases t2 with
            | Name y2 q2 =>
              cases t3 with
              | Name y3 q3 =>
                simp only [List.all_cons, List.all_nil, Bool.and_true, Bool.and_eq_true] at g2
                have e3 : ns = [y1, y2, y3] := g3
                subst e3
                obtain ⟨s1, _, _⟩ := sto_of G.gd u1
                obtain ⟨s2, _, _⟩ := sto_of G.gd v1
                obtain ⟨s3, _, _⟩ := sto_of G.gd w1
                have n1 : i ≠ j ∧ i ≠ l := by simpa using u2
                have n2 : j ≠ l := by simpa using v2
                exact snd_par3 hl G.gd.g.calm hN s1 s2 s3 n1.1 n1.2 n2 (by rw [G.sc]; exact isLoc_of g2.1) (by rw [G.sc]; exact isLoc_of g2.2.1) (by rw [G.sc]; exact isLoc_of g2.2.2) a.pa (sw kt k2 pt pt2)
              | _ => cases w1
            | _ => cases v1
          | _ => cases u1
end
end Ev
/-! Ev20: soundness of the look at statements. -/
namespace Ev
open PySem PySem.Spec PyProof.Rows L2
section
variable {Y : Gw} {n : Nat} {c : Cs} {K0 : XK} {X : Cx} {A : List Nat}
/-- name = value -/
theorem snd_setAll {i : Nat} {e : Ev.E} {y : Str} {x : Expr} {py pos : Pos} (Yk : Gk Y) (G : Gs Y n c K0 X) (K : Fok Y n) (h1 : stoB c i y = true) (h2 : chkE Y.nm e c x = true) (h3 : setOk c y py x = true) : PS X (.Assign [.Name y py] x pos) (LS Y.Z K0 [i] fun ρ => (evE Y.T Y.C e n ρ).bind fun o ρ1 => nxt (assign ρ1 i o)) := by
  obtain ⟨s1, s2, s3⟩ := sto_of G.gd h1
  have hN : X.N.Nodup := by rw [G.gd.g.N]; exact G.gd.g.nd
  have hk : X.env.scope.kind = .function := by rw [G.sc]; exact G.fn
  by_cases hc : isCompX x = true
  · cases x with
    | ListComp elt gs sc p =>
      have sw := swaps_is (c := c) (y := y) (py := py) (pos := p) (elt := elt) (gs := gs) (sc := sc) (l := pos.line) hk G.sc
      cases q : swB c y py p sc with
      | false =>
        rw [q] at sw
        exact snd_set hN s1 s2 s3 (sndE Yk G.gd K h2).1 sw
      | true =>
        rw [q] at sw
        simp only [setOk, q, Bool.not_true, Bool.false_or] at h3
        have hl := isLoc_of h3
        rw [← G.sc] at hl
        have G' := G.gd
        cases e with
        | comp elt' tg k es ifs own =>
          simp only [chkE] at h2
          split at h2
          · rename_i t it fs
            simp only [Bool.and_eq_true] at h2
            obtain ⟨⟨⟨⟨⟨g1, g2⟩, g3⟩, g4⟩, g5⟩, g6⟩ := h2
            have it := snd_it Yk G' g3 (fun xs hx => sndL Yk G' K hx) (fun x hx => snd1 Yk G' K hx)
            exact snd_setLc G'.g.calm hN s1 hl sw it.1 (G'.blkOk (blkOk_by g5)) (by unfold ownP; simp [List.map_map, Function.comp_def]) (fun i hi => by simpa using List.all_eq_true.mp g6 i hi)
              (fun s H C cl fp => (sndTg (G'.blk s H C cl fp) g2).1) (fun s H C cl fp => sndTs Yk (G'.blk s H C cl fp) K g4) (fun s H C cl fp => (sndE Yk (G'.blk s H C cl fp) K g1).1) (noSet it.2)
          · cases h2
        | comp2 elt' t1 k1 e1 t2 k2 e2 ifs own =>
          simp only [chkE] at h2
          split at h2
          · rename_i t it t' it' fs
            simp only [Bool.and_eq_true] at h2
            obtain ⟨⟨⟨⟨⟨⟨⟨⟨g1, g2⟩, g3⟩, g4⟩, g5⟩, g6⟩, g7⟩, g8⟩, g9⟩ := h2
            have it1 := snd_it Yk G' g3 (fun xs hx => sndL Yk G' K hx) (fun x hx => snd1 Yk G' K hx)
            have it2 := fun (s : Shared) (H : Hp) (C : Addr) (cl : List (Str × Addr)) (fp : List Addr) => snd_it Yk (G'.blk (scope := sc) s H C cl fp) g5 (fun xs hx => sndL Yk (G'.blk (scope := sc) s H C cl fp) K hx) (fun x hx => snd1 Yk (G'.blk (scope := sc) s H C cl fp) K hx)
            exact snd_setLc2 G'.g.calm hN s1 hl sw it1.1 (G'.blkOk (blkOk_by g7)) (by unfold ownP; simp [List.map_map, Function.comp_def]) (fun i hi => by simpa using List.all_eq_true.mp g8 i hi) (fun i hi => by simpa using List.all_eq_true.mp g9 i hi)
              (fun s H C cl fp => (sndTg (G'.blk s H C cl fp) g2).1) (fun s H C cl fp => (it2 s H C cl fp).1) (fun s H C cl fp => (sndTg (G'.blk s H C cl fp) g4).1) (fun s H C cl fp => sndTs Yk (G'.blk s H C cl fp) K g6) (fun s H C cl fp => (sndE Yk (G'.blk s H C cl fp) K g1).1) (noSet it1.2) (fun env => noSet (env := env) (chkIt_ns g5))
          · cases h2
        | _ => simp only [chkE] at h2; cases h2
    | SetComp _ _ _ _ => cases h3
    | DictComp _ _ _ _ _ => cases h3
    | _ => cases hc
  · exact snd_set hN s1 s2 s3 (sndE Yk G.gd K h2).1 (swaps_no (by simpa using hc))
theorem aug_of {op : Bop} {o : Operator} (h : augOp op o = true) : ∃ g : Int → Int → Int, PIp X o (ipI g) ∧ ∀ a b z, augI op a b = some z → z = g a b := by
  cases op <;> cases o <;> first | (cases h; done) | skip
  · exact ⟨_, ip_add, fun a b z e => by simp only [augI, Option.some.injEq] at e; exact e.symm⟩
  · exact ⟨_, ip_sub, fun a b z e => by simp only [augI, Option.some.injEq] at e; exact e.symm⟩
theorem swSole {t x : Expr} {l : Nat} {env : Env} (h : (match t with | .Name _ _ => false | _ => true) = true) : swapsWithSole [t] x l env = pure false := by
  show swapsWith x (some t) l env = pure false
  by_cases hc : isCompX x = true
  · cases x <;> first | (cases hc; done) | (cases t <;> first | rfl | (cases h))
  · exact swaps_no (by simpa using hc)
mutual
theorem sndS (Yk : Gk Y) : ∀ {s : S} {n : Nat} {c : Cs} {K0 : XK} {X : Cx} {st : Stmt} {A : List Nat}, Gs Y n c K0 X → Fok Y n → chkS Y.nm s c st = true → (∀ i ∈ sets s, i ∈ A) → PS X st (LS Y.Z K0 A (evS Y.T Y.C s n))
  | .ex e, n, c, K0, X, st, A, G, K, h, hA => by
    simp only [chkS] at h
    split at h
    · simp only [Bool.and_eq_true, Bool.not_eq_true'] at h
      exact snd_ex (sndE Yk G.gd K h.2).1 (swaps_no h.1)
    · cases h
  | .ret e, n, c, K0, X, st, A, G, K, h, hA => by
    simp only [chkS] at h
    split at h
    · exact snd_ret (sndE Yk G.gd K h).1
    · cases h
  | .retN, n, c, K0, X, st, A, G, K, h, hA => by
    simp only [chkS] at h
    split at h
    · exact snd_retN
    · cases h
  | .set i e, n, c, K0, X, st, A, G, K, h, hA => by
    simp only [chkS] at h
    split at h
    · simp only [Bool.and_eq_true] at h
      obtain ⟨⟨h1, h2⟩, h3⟩ := h
      exact PS.more (snd_setAll Yk G K h1 h2 h3) fun j hj => hA j (by simpa [sets] using hj)
    · cases h
  | .setT ts e, n, c, K0, X, st, A, G, K, h, hA => by
    simp only [chkS] at h
    split at h
    · rename_i xs k p x pos
      simp only [Bool.and_eq_true, Bool.not_eq_true'] at h
      obtain ⟨⟨h1, h2⟩, h3⟩ := h
      have hg : PG X (.Tuple xs k p) (LGt Y.Z (.tp ts)) := (sndTg G.gd (t := .tp ts) (x := .Tuple xs k p) (by simp only [chkTg]; exact h1)).1
      refine PS.more (snd_setT (sndE Yk G.gd K h2).1 hg (swSole rfl) ?_ rfl) hA
      cases x <;> first | rfl | (cases h3)
    · cases h
  | .par is es, n, c, K0, X, st, A, G, K, h, hA => by
    simp only [chkS] at h
    split at h
    · simp only [Bool.and_eq_true, decide_eq_true_eq] at h
      obtain ⟨⟨⟨⟨h1, h2⟩, h3⟩, h4⟩, h5⟩ := h
      exact PS.more (snd_par Yk G K h1 h2 h3 h4 h5) hA
    · cases h
  | .setIx i k e, n, c, K0, X, st, A, G, K, h, hA => by
    simp only [chkS] at h
    split at h
    · simp only [Bool.and_eq_true, Bool.not_eq_true'] at h
      obtain ⟨⟨⟨h1, h2⟩, h3⟩, h4⟩ := h
      exact snd_setIx (var_pe G.gd h1) (sndE Yk G.gd K h3).1 (sndE Yk G.gd K h2).1 h4 (swSole rfl)
    · cases h
  | .aug i op e, n, c, K0, X, st, A, G, K, h, hA => by
    simp only [chkS] at h
    split at h
    · simp only [Bool.and_eq_true] at h
      obtain ⟨⟨h1, h2⟩, h3⟩ := h
      obtain ⟨s1, s2, s3⟩ := sto_of G.gd h1
      obtain ⟨g, g1, g2⟩ := aug_of (X := X) h2
      exact PS.more (snd_aug g1 g2 (by rw [G.gd.g.N]; exact G.gd.g.nd) s1 s2 s3 (sndE Yk G.gd K h3).1) fun j hj => hA j (by simpa [sets] using hj)
    · cases h
  | .augIx i k op e, n, c, K0, X, st, A, G, K, h, hA => by
    simp only [chkS] at h
    cases h
  | .ite t a b, n, c, K0, X, st, A, G, K, h, hA => by
    simp only [chkS] at h
    split at h
    · simp only [Bool.and_eq_true] at h
      obtain ⟨⟨⟨h1, h2⟩, h3⟩, h4⟩ := h
      exact snd_if ((sndE Yk G.gd K h2).2 h1) (sndB Yk G K h3 fun i hi => hA i (by simp only [sets]; exact List.mem_append_left _ hi)) (sndB Yk G K h4 fun i hi => hA i (by simp only [sets]; exact List.mem_append_right _ hi))
    · cases h
  | .for_ tg k es b, n, c, K0, X, st, A, G, K, h, hA => by
    simp only [chkS] at h
    split at h
    · simp only [Bool.and_eq_true] at h
      obtain ⟨⟨h1, h2⟩, h3⟩ := h
      have it := snd_it Yk G.gd h2 (fun xs hx => sndL Yk G.gd K hx) (fun x hx => snd1 Yk G.gd K hx)
      exact PS.more (snd_for G.po G.gd.g.calm it.1 (sndTg G.gd h1).1 (sndB (A := setss b) Yk G K h3 fun i hi => hi) rfl (noSet it.2)) hA
    · cases h
  | .while_ t b, n, c, K0, X, st, A, G, K, h, hA => by
    simp only [chkS] at h
    split at h
    · simp only [Bool.and_eq_true] at h
      obtain ⟨⟨h1, h2⟩, h3⟩ := h
      exact snd_while G.po ((sndE Yk G.gd K h2).2 h1) (sndB Yk G K h3 fun i hi => hA i hi)
    · cases h
  | .raise k, n, c, K0, X, st, A, G, K, h, hA => by
    simp only [chkS] at h
    split at h
    · simp only [Bool.and_eq_true, Bool.not_eq_true'] at h
      obtain ⟨h1, h2, h3⟩ := h
      obtain ⟨C, e⟩ := Yk.exc k _ (nth_of h1)
      exact snd_raise G.gd.g.K G.gd.g.mg G.gd.g.calm G.tk e (G.gd.g.gl _ h2) (odd_no h3).1
    · cases h
  | .pass, n, c, K0, X, st, A, G, K, h, hA => by
    simp only [chkS] at h
    split at h
    · exact snd_pass
    · exact snd_doc
    · cases h
  | .brk, n, c, K0, X, st, A, G, K, h, hA => by
    simp only [chkS] at h
    split at h
    · exact snd_brk
    · cases h
  | .cont, n, c, K0, X, st, A, G, K, h, hA => by
    simp only [chkS] at h
    split at h
    · exact snd_cont
    · cases h
theorem sndB (Yk : Gk Y) : ∀ {ss : List S} {n : Nat} {c : Cs} {K0 : XK} {X : Cx} {sts : List Stmt} {A : List Nat}, Gs Y n c K0 X → Fok Y n → chkB Y.nm ss c sts = true → (∀ i ∈ setss ss, i ∈ A) → PSs X sts (LS Y.Z K0 A (evB Y.T Y.C ss n))
  | [], n, c, K0, X, sts, A, G, K, h, hA => by
    simp only [chkB] at h
    cases sts with
    | nil => exact snd_bnil
    | cons x xs => cases h
  | s :: ss, n, c, K0, X, sts, A, G, K, h, hA => by
    simp only [chkB] at h
    cases sts with
    | nil => cases h
    | cons x xs =>
      simp only [Bool.and_eq_true] at h
      exact snd_bcons (sndS Yk G K h.1 fun i hi => hA i (by simp only [setss]; exact List.mem_append_left _ hi)) (sndB Yk G K h.2 fun i hi => hA i (by simp only [setss]; exact List.mem_append_right _ hi))
end
end
end Ev
/-! Ev21: a def runs. -/
namespace Ev
open PySem PySem.Spec PyProof.Rows L2
section
variable {Z : Wo} {E : XK} {σ σ' : L2.St} {F F' : Fz} {H H' : Hp} {ρ ρ' ρ2 args r : Ev} {N : List Str} {vs : List V} {k : Nat}
theorem start_in {i : Nat} (h : i < vs.length) : (L2.start N vs)[i]? = (vs.map some)[i]? := by
  unfold L2.start
  rw [List.getElem?_append_left (by rw [List.length_map]; exact h)]
theorem slot_in {i : Nat} {w : W} (h : (args ++ List.replicate k none)[i]? = some (some w)) : i < args.length ∧ args[i]? = some (some w) := by
  rcases Nat.lt_or_ge i args.length with hl | hl
  · rw [List.getElem?_append_left hl] at h
    exact ⟨hl, h⟩
  · rw [List.getElem?_append_right hl] at h
    obtain ⟨h1, h2⟩ := List.getElem?_eq_some_iff.mp h
    rw [List.getElem_replicate] at h2
    cases h2
theorem own_start (hl : args.length = vs.length) (b : Addr) : Own (L2.start N vs) (args ++ List.replicate k none) b ↔ Own (vs.map some) args b := by
  constructor
  · rintro ⟨i, w, e, ho, es⟩
    obtain ⟨h1, h2⟩ := slot_in e
    rw [start_in (by omega)] at es
    exact own_of h2 ho es
  · rintro ⟨i, w, e, ho, es⟩
    have h1 := (List.getElem?_eq_some_iff.mp e).1
    refine ⟨i, w, by rw [List.getElem?_append_left h1]; exact e, ho, ?_⟩
    rw [start_in (by omega)]
    exact es
/-- the state at a def's entry -/
theorem start_ok (s : Sta Z F H (vs.map some) args) (hl : args.length = vs.length) (hN : N.length = args.length + k) : Sta Z F H (L2.start N vs) (args ++ List.replicate k none) := by
  refine ⟨?_, fun i w e => ?_, fun i j wi wj a ei ej hi hj si sj => ?_, s.tabs, s.ft⟩
  · unfold L2.start
    rw [List.length_append, List.length_append, List.length_map, List.length_replicate, List.length_replicate]
    omega
  · obtain ⟨h1, h2⟩ := slot_in e
    rw [start_in (by omega)]
    exact s.rep i w h2
  · obtain ⟨h1, h2⟩ := slot_in ei
    obtain ⟨h3, h4⟩ := slot_in ej
    rw [start_in (by omega)] at si sj
    exact s.inj _ _ _ _ _ h2 h4 hi hj si sj
/-- what the caller gets back of its slots -/
theorem outs_ok : ∀ {args ρ r : Ev}, outs args.length args ρ = some r → r.length = args.length ∧ (∀ (i : Nat) (w : W), r[i]? = some (some w) → isP w = true ∧ ρ[i]? = some (some w) ∧ ∃ w0, args[i]? = some (some w0) ∧ isP w0 = true) ∧
    ∀ (i : Nat) (w0 : W), args[i]? = some (some w0) → isP w0 = true → ∃ w, r[i]? = some (some w)
  | [], ρ, r, h => by
    simp only [List.length_nil, outs, Option.some.injEq] at h
    subst h
    exact ⟨rfl, fun i w e => by simp at e, fun i w0 e => by simp at e⟩
  | a :: args, ρ, r, h => by
    cases ρ with
    | nil => simp [outs] at h
    | cons u ρ =>
      simp only [List.length_cons, outs] at h
      obtain ⟨w, e1, h⟩ := Option.bind_eq_some_iff.mp h
      obtain ⟨r', e2, rfl⟩ := Option.map_eq_some_iff.mp h
      obtain ⟨i1, i2, i3⟩ := outs_ok e2
      -- the first
      have hd : (∀ x, w = some x → isP x = true ∧ u = some x ∧ ∃ w0, a = some w0 ∧ isP w0 = true) ∧ ∀ w0, a = some w0 → isP w0 = true → ∃ x, w = some x := by
        split at e1
        · split at e1
          · cases e1
            exact ⟨fun x e => by cases e; exact ⟨rfl, rfl, _, rfl, rfl⟩, fun w0 e _ => ⟨_, rfl⟩⟩
          · cases e1
        · split at e1
          · split at e1
            · rename_i ht
              have ht := eq_of_beq ht
              subst ht
              cases e1
              exact ⟨fun x e => by cases e; exact ⟨rfl, rfl, _, rfl, rfl⟩, fun w0 e _ => ⟨_, rfl⟩⟩
            · cases e1
          · cases e1
        · rename_i n1 n2
          cases e1
          refine ⟨fun x e => (by cases e), fun w0 e hp => ?_⟩
          subst e
          cases w0 with
          | d x => cases hp
          | L p xs =>
            have hp : p = true := hp
            subst hp
            exact (n1 _ rfl).elim
          | M p t kvs =>
            have hp : p = true := hp
            subst hp
            exact (n2 _ _ rfl).elim
      refine ⟨by rw [List.length_cons, List.length_cons, i1], fun i x e => ?_, fun i w0 e hp => ?_⟩
      · cases i with
        | zero =>
          have e : w = some x := by simpa using e
          obtain ⟨h1, h2, w0, h3, h4⟩ := hd.1 x e
          exact ⟨h1, by rw [h2]; rfl, w0, by rw [h3]; rfl, h4⟩
        | succ i => simpa using i2 i x (by simpa using e)
      · cases i with
        | zero =>
          have e : a = some w0 := by simpa using e
          obtain ⟨x, hx⟩ := hd.2 w0 e hp
          exact ⟨x, by rw [hx]; rfl⟩
        | succ i => simpa using i3 i w0 (by simpa using e) hp
/-- the way back to the caller's slots -/
theorem outs_path (s : Sta Z F H (vs.map some) args) (hl : args.length = vs.length) (p : Path Z (L2.start N vs) F H (args ++ List.replicate k none) σ' F' H' ρ') (hs : ∀ (i : Nat) (w : W), ρ2[i]? = some (some w) → ρ'[i]? = some (some w)) (e : outs args.length args ρ2 = some r) :
    Path Z (vs.map some) F H args (vs.map some) F' H' r ∧ (∀ b, Own (vs.map some) r b → Own σ' ρ2 b) ∧
      ∀ (i : Nat) (w : W), r[i]? = some (some w) → isP w = true ∧ ρ'[i]? = some (some w) ∧ σ'[i]? = (vs.map some)[i]? := by
  obtain ⟨o1, o2, o3⟩ := outs_ok e
  have key : ∀ (i : Nat) (w : W), r[i]? = some (some w) → isP w = true ∧ ρ'[i]? = some (some w) ∧ σ'[i]? = (vs.map some)[i]? := fun i w ei => by
    obtain ⟨h1, h2, w0, h3, _⟩ := o2 i w ei
    have h4 := hs i w h2
    obtain ⟨_, h5⟩ := p.pp i w h4 h1
    have h6 := (List.getElem?_eq_some_iff.mp h3).1
    rw [start_in (by omega)] at h5
    exact ⟨h1, h4, h5⟩
  have own' : ∀ b, Own (vs.map some) r b → Own σ' ρ' b := fun b ⟨i, w, ei, ho, es⟩ => by
    obtain ⟨_, h2, h3⟩ := key i w ei
    rw [← h3] at es
    exact own_of h2 ho es
  refine ⟨⟨⟨by rw [o1, List.length_map, hl], fun i w ei => ?_, fun i j wi wj a ei ej hi hj si sj => ?_, p.st.tabs, p.st.ft⟩, ⟨fun b o eb nb t => p.sp.keep b o eb (fun z => nb ((own_start hl b).mp z)) t, p.sp.there, p.sp.fin, fun b f => ?_⟩, fun b ob => ?_, fun i w ei hp => ?_⟩, fun b ⟨i, w, ei, ho, es⟩ => ?_, key⟩
  · obtain ⟨_, h2, h3⟩ := key i w ei
    rw [← h3]
    exact p.st.rep i w h2
  · obtain ⟨_, h2, h3⟩ := key i wi ei
    obtain ⟨_, h4, h5⟩ := key j wj ej
    rw [← h3] at si
    rw [← h5] at sj
    exact p.st.inj _ _ _ _ _ h2 h4 hi hj si sj
  · rcases p.sp.fout b f with z | z | z
    · exact .inl z
    · exact .inr (.inl z)
    · exact .inr (.inr ((own_start hl b).mp z))
  · rcases p.sub b (own' b ob) with z | z
    · exact .inl ((own_start hl b).mp z)
    · exact .inr z
  · obtain ⟨_, _, w0, h3, h4⟩ := o2 i w ei
    exact ⟨⟨w0, h3, h4⟩, rfl⟩
  · obtain ⟨_, h2, _⟩ := o2 i w ei
    obtain ⟨_, _, h3⟩ := key i w ei
    rw [← h3] at es
    exact own_of h2 ho es
end
end Ev
/-! Ev22: each def keeps its promise, at each level. -/
namespace Ev
open PySem PySem.Spec PyProof.Rows L2
/-- the same world, other calls -/
def Gw.to (Y : Gw) (C : Calls) : Gw := { Y with C := C }
theorem Gk.to {Y : Gw} (h : Gk Y) (C : Calls) : Gk (Y.to C) :=
  ⟨⟨h.ok.st, h.ok.sts, h.ok.blt, h.ok.con⟩, h.ar, fun c x e => by
    obtain ⟨D, q⟩ := h.exc c x e
    exact ⟨D, q.cls, q.base, q.mg, q.kp, q.sub, q.ty⟩, fun x e => ⟨(h.tol x e).ex⟩⟩
/-- a def of the text -/
structure DefAt (Y : Gw) (f : Nat) (x : Str) (d : Def) (N ps : List Str) (st : Stmt) (lam : Bool) : Prop where
  ex : ∃ (g : Addr) (oc : Value) (od : Option Addr) (dV kV doc pm : Value) (an : Option Addr) (cdv ct : Value) (osl : Array (Option Value)), Y.mg x = some (.ref g) ∧ PySem.W.keepIn Y.Z.K (.ref g) = true ∧
    Y.Z.K.lookup g = some ⟨oc, od, .func (PySem.W.fnOf x x (defArgs st) (defBody st) (defScope st) dV kV doc pm an cdv ct), osl⟩ ∧ PySem.W.codeIn Y.Z.K cdv x = true ∧
    L2.Binds Y.Z.K (PySem.W.fnOf x x (defArgs st) (defBody st) (defScope st) dV kV doc pm an cdv ct) ps [] ∧
    (lam = true → ∃ c P, cdv = .ref c ∧ LamX.TabB Y.base Y.mg c P ∧ (P, (x ++ ".<locals>.") ++ "<lambda>") ∈ Y.Z.TT ∧ ∀ p ∈ Y.Z.TT, p.1 = P → p.2 = (x ++ ".<locals>.") ++ "<lambda>")
  sc : FnScope N ps (defScope st)
  np : ps.length = d.np
  nl : N.length = d.np + d.nl
  ar : Y.ar f = d.np
  chk : chkB Y.nm d.body ⟨N, defScope st, lam⟩ (defBody st) = true
section
variable {Y : Gw}
theorem give_ok {Z : Wo} {σ' : L2.St} {F' : Fz} {H' : Hp} {ρ' ρ2 : Ev} {o o2 : O} (h : give ρ' o = some (o2, ρ2)) : (∀ (i : Nat) (w : W), ρ2[i]? = some (some w) → ρ'[i]? = some (some w)) ∧ ((o2 = o ∧ isBor o = false ∧ ρ2 = ρ') ∨
    ∃ i, o = .bor i ∧ ρ2 = ρ'.set i none ∧ ((∃ xs, o2 = .L xs ∧ ρ'[i]? = some (some (.L false xs))) ∨ ∃ t kvs, o2 = .M t kvs ∧ ρ'[i]? = some (some (.M false t kvs)))) := by
  have off : ∀ i (j : Nat) (w : W), (ρ'.set i none)[j]? = some (some w) → ρ'[j]? = some (some w) := fun i j w e => by
    rcases getset e with ⟨_, z, _⟩ | ⟨_, z⟩
    · cases z
    · exact z
  cases o with
  | d x =>
    simp only [give, Option.some.injEq, Prod.mk.injEq] at h
    obtain ⟨rfl, rfl⟩ := h
    exact ⟨fun _ _ e => e, .inl ⟨rfl, rfl, rfl⟩⟩
  | L x =>
    simp only [give, Option.some.injEq, Prod.mk.injEq] at h
    obtain ⟨rfl, rfl⟩ := h
    exact ⟨fun _ _ e => e, .inl ⟨rfl, rfl, rfl⟩⟩
  | M t x =>
    simp only [give, Option.some.injEq, Prod.mk.injEq] at h
    obtain ⟨rfl, rfl⟩ := h
    exact ⟨fun _ _ e => e, .inl ⟨rfl, rfl, rfl⟩⟩
  | bor i =>
    simp only [give] at h
    split at h
    · rename_i xs e
      simp only [Option.some.injEq, Prod.mk.injEq] at h
      obtain ⟨rfl, rfl⟩ := h
      exact ⟨off i, .inr ⟨i, rfl, rfl, .inl ⟨xs, rfl, e⟩⟩⟩
    · rename_i t kvs e
      simp only [Option.some.injEq, Prod.mk.injEq] at h
      obtain ⟨rfl, rfl⟩ := h
      exact ⟨off i, .inr ⟨i, rfl, rfl, .inr ⟨t, kvs, rfl, e⟩⟩⟩
    · cases h
theorem fnD {f : Nat} {x : Str} {d : Def} {N ps : List Str} {st : Stmt} {lam : Bool} (D : DefAt Y f x d N ps st lam) :
    ∃ (g : Addr) (fd : FuncData), Y.mg x = some (.ref g) ∧ PySem.W.keepIn Y.Z.K (.ref g) = true ∧ L2.Binds Y.Z.K fd ps [] ∧ (∃ oc od osl, Y.Z.K.lookup g = some ⟨oc, od, .func fd, osl⟩) ∧ ∀ (C1 C2 : Calls) (n : Nat), Gk (Y.to C1) → Fok (Y.to C1) n → (∀ args, C2 (n + 1) f args = runD Y.T C1 d n args) →
      FnOk Y.P Y.w Y.Z.K Y.mg Y.base (L2.CX Y.P Y.w) (n + 1) g fd ps (spF (Y.to C2) (n + 1) f) := by
  obtain ⟨g, oc, od, dV, kV, doc, pm, an, cdv, ct, osl, hm, hk, lk, hcd, hb, hl⟩ := D.ex
  refine ⟨g, _, hm, hk, hb, ⟨_, _, _, lk⟩, fun C1 C2 n Yk K hC => fn_of (N := N) lk hcd D.sc (fun vs H Q E h => ?_) fun A outer s H vs Q E hr hsp => ?_⟩
  · obtain ⟨F, args, h1, _⟩ := h
    rw [h1, D.np]
    exact D.ar
  obtain ⟨F, args, h1, h2, h3, h4, sta, post⟩ := hsp
  have e1 : args.length = d.np := by rw [h2, h1]; exact D.ar
  have e2 : (Y.to C2).C (n + 1) f args = runD Y.T C1 d n args := hC args
  rw [e2] at post
  -- the context
  have hP := takes_of (X := cxOf (L2.CX Y.P Y.w) Y.P Y.w Y.Z.K Y.mg Y.base N x (defScope st) g cdv A outer s H E) (E := E) rfl rfl rfl rfl
  have gs : Gs (Y.to C1) n ⟨N, defScope st, lam⟩ E (cxOf (L2.CX Y.P Y.w) Y.P Y.w Y.Z.K Y.mg Y.base N x (defScope st) g cdv A outer s H E) :=
    ⟨⟨⟨rfl, rfl, rfl, rfl, rfl, rfl, D.sc.nd, fun y h => vis_of h, fun y h => ⟨loc_of h, .inl rfl⟩, fun y h => gl_of h, rfl, hr, passes_call hP fun _ _ _ _ h => h⟩, fun y h => h, fun h => by
      obtain ⟨c, P, q1, q2, q3, q4⟩ := hl h
      exact ⟨c, P, q2, q1, q3, q4⟩⟩, rfl, D.sc.kind, L2.passes_of rfl, hP⟩
  refine ⟨LS Y.Z E (setss d.body) (evB Y.T C1 d.body n), sndB Yk gs K D.chk fun i h => h, F, args ++ List.replicate d.nl none, start_ok sta h2 (by rw [D.nl, e1]), ?_⟩
  unfold runD at post
  rw [if_pos e1] at post
  cases ev : evB Y.T C1 d.body n (args ++ List.replicate d.nl none) with
  | stuck => rw [ev] at post; exact post.elim
  | exc c ρ' =>
    rw [ev] at post
    simp only at post
    cases eo : outs args.length args ρ' with
    | none => rw [eo] at post; exact post.elim
    | some r =>
      rw [eo] at post
      intro σ' F' H' p
      exact post F' H' (outs_path sta h2 p (fun _ _ e => e) eo).1
  | ok fl ρ' =>
    rw [ev] at post
    intro σ' F' H' p _
    cases fl with
    | brk => exact post.elim
    | cont => exact post.elim
    | nx =>
      simp only at post
      cases eo : outs args.length args ρ' with
      | none => rw [eo] at post; exact post.elim
      | some r =>
        rw [eo] at post
        exact post .non F' H' (outs_path sta h2 p (fun _ _ e => e) eo).1 ⟨by show Rp Y.Z F' H' .non .non; simp only [Rp], fun z => by cases z⟩
    | ret o =>
      simp only at post
      intro v ov fr
      cases eg : give ρ' o with
      | none => rw [eg] at post; exact post.elim
      | some q =>
        obtain ⟨o2, ρ2⟩ := q
        rw [eg] at post
        simp only [R.opt_some] at post
        cases eo : outs args.length args ρ2 with
        | none => rw [eo] at post; exact post.elim
        | some r =>
          rw [eo] at post
          simp only [R.opt_some] at post
          obtain ⟨g1, g2⟩ := give_ok (Z := Y.Z) (σ' := σ') (F' := F') (H' := H') eg
          obtain ⟨p2, ow2, ky⟩ := outs_path sta h2 p g1 eo
          refine post v F' H' p2 ?_
          rcases g2 with ⟨rfl, nb, rfl⟩ | ⟨i, rfl, rfl, g2⟩
          · refine ⟨?_, fr⟩
            cases o2 with
            | d y => exact ov
            | L xs =>
              obtain ⟨a, ws, rfl, k1, k2, k3, k4⟩ := ov
              exact ⟨a, ws, rfl, k1, k2, k3, fun z => k4 (ow2 a z)⟩
            | M t kvs =>
              obtain ⟨a, rfl, k1, k3, k4⟩ := ov
              exact ⟨a, rfl, k1, k3, fun z => k4 (ow2 a z)⟩
            | bor i => cases nb
          · have sv : σ'[i]? = some (some v) := ov
            -- the slot's own list: the caller has none of it
            have no : ∀ (w : W) (a : Addr), ρ'[i]? = some (some w) → isOwn w = true → isP w = false → v = .ref a → ¬ Own (vs.map some) r a ∧ NoO (H a) := fun w a ew ho hp ea => by
              subst ea
              refine ⟨fun ⟨j, u, ej, hj, sj⟩ => ?_, ?_⟩
              · obtain ⟨k1, k2, k3⟩ := ky j u ej
                rw [← k3] at sj
                have : i = j := p.st.inj _ _ _ _ _ ew k2 ho hj sv sj
                subst this
                rw [ew] at k2
                cases k2
                rw [hp] at k1
                cases k1
              · rcases p.sub a (own_of ew ho sv) with z | z
                · obtain ⟨j, u, ej, hj, sj⟩ := (own_start h2 a).mp z
                  obtain ⟨_, _, o3⟩ := outs_ok eo
                  obtain ⟨w', ew'⟩ := o3 j u ej (h4 j u ej hj)
                  obtain ⟨k1, k2, k3⟩ := ky j w' ew'
                  rw [← k3] at sj
                  have hw' : isOwn w' = true := by cases w' <;> first | rfl | cases k1
                  have : i = j := p.st.inj _ _ _ _ _ ew k2 ho hw' sv sj
                  subst this
                  rw [ew] at k2
                  cases k2
                  rw [hp] at k1
                  cases k1
                · exact z
            rcases g2 with ⟨xs, rfl, ei⟩ | ⟨t, kvs, rfl, ei⟩
            · obtain ⟨v', ev', a, ws, e4, k1, k2, k3⟩ := p.st.rep i _ ei
              rw [sv] at ev'
              cases (Option.some.inj (Option.some.inj ev'))
              obtain ⟨n1, n2⟩ := no _ a ei rfl rfl e4
              exact ⟨⟨a, ws, e4, k1, k2, k3, n1⟩, fun _ b eb => by rw [e4] at eb; cases eb; exact n2⟩
            · obtain ⟨v', ev', a, e4, k1, k3⟩ := p.st.rep i _ ei
              rw [sv] at ev'
              cases (Option.some.inj (Option.some.inj ev'))
              obtain ⟨n1, n2⟩ := no _ a ei rfl rfl e4
              exact ⟨⟨a, e4, k1, k3, n1⟩, fun _ b eb => by rw [e4] at eb; cases eb; exact n2⟩
theorem fok_mono {C1 C2 : Calls} {n m : Nat} (K : Fok (Y.to C1) n) (h : m ≤ n) (hc : ∀ k, k ≤ m → C1 k = C2 k) : Fok (Y.to C2) m := ⟨fun f x e => by
  obtain ⟨a, fd, ps, h1, h2, h3, h4⟩ := K.fn f x e
  refine ⟨a, fd, ps, h1, h2, h3, fun k hk => (h4 k (by omega)).imp fun vs H Q E hq => ?_⟩
  obtain ⟨F, args, q1, q2, q3, q4, q5, q6⟩ := hq
  refine ⟨F, args, q1, q2, q3, q4, q5, ?_⟩
  have e : (Y.to C1).C k f args = (Y.to C2).C k f args := congrFun (congrFun (hc k hk) f) args
  rw [e]
  exact q6⟩
/-- all defs, at each level -/
theorem levels {ds : List Def} (Yk : Gk Y) (defs : ∀ (f : Nat) (x : Str), Y.nm.fns[f]? = some x → ∃ d N ps st lam, ds[f]? = some d ∧ DefAt Y f x d N ps st lam) : ∀ n, Fok (Y.to (calls Y.T ds n)) n := by
  intro n
  induction n with
  | zero =>
    refine ⟨fun f x e => ?_⟩
    obtain ⟨d, N, ps, st, lam, hd, D⟩ := defs f x e
    obtain ⟨g, fd, h1, h2, h3, _, h4⟩ := fnD D
    refine ⟨g, fd, ps, h1, h2, h3, fun k hk => ?_⟩
    have e0 : k = 0 := by omega
    subst e0
    have no : ∀ vs H Q E, ¬ spF (Y.to (calls Y.T ds 0)) 0 f vs H Q E := fun vs H Q E ⟨F, args, _, _, _, _, _, post⟩ => post
    exact ⟨fun vs H Q E h => (no vs H Q E h).elim, fun A outer s H args us vs Q E _ _ _ _ h => (no vs H Q E h).elim⟩
  | succ n ih =>
    refine ⟨fun f x e => ?_⟩
    obtain ⟨d, N, ps, st, lam, hd, D⟩ := defs f x e
    obtain ⟨g, fd, h1, h2, h3, _, h4⟩ := fnD D
    refine ⟨g, fd, ps, h1, h2, h3, fun k hk => ?_⟩
    cases k with
    | zero =>
      have no : ∀ vs H Q E, ¬ spF (Y.to (calls Y.T ds (n + 1))) 0 f vs H Q E := fun vs H Q E ⟨F, args, _, _, _, _, _, post⟩ => by
        have e0 : (Y.to (calls Y.T ds (n + 1))).C 0 f args = .stuck := by
          show calls Y.T ds (n + 1) 0 f args = .stuck
          rw [calls_le Y.T ds (Nat.zero_le _)] <;> rfl
        rw [e0] at post
        exact post
      exact ⟨fun vs H Q E h => (no vs H Q E h).elim, fun A outer s H args us vs Q E _ _ _ _ h => (no vs H Q E h).elim⟩
    | succ k =>
      have kn : k ≤ n := by omega
      have K : Fok (Y.to (calls Y.T ds k)) k := fok_mono ih kn fun j hj => by rw [calls_le Y.T ds (by omega), calls_le Y.T ds hj]
      refine h4 (calls Y.T ds k) (calls Y.T ds (n + 1)) k (Yk.to _) K fun args => ?_
      rw [calls_le Y.T ds hk]
      show (if k + 1 = k + 1 then _ else _) = _
      rw [if_pos rfl, hd]
end
end Ev
/-! Ev23: a law's data; what its head must tell; the law's end. -/
namespace Ev
open PySem PySem.Spec PyProof.Rows L2
/-- a def: its name, its form, its slots' names, its parameters, its text, whether it makes lambdas -/
structure Ld where
  name : Str
  d : Def
  N : List Str
  ps : List Str
  st : Stmt
  lam : Bool
/-- a law: defs, whole numbers, errors (and which is out of range), texts, the reader, the two words, told -/
structure LawD where
  es : List Ld
  cons : List (Str × Int)
  exs : List (Str × Bool)
  txt : List Str
  rd : Nat
  kr : Nat
  ko : Nat
  told : Option (Str × Stmt)
def LawD.nm (L : LawD) : Nm := ⟨L.es.map (·.name), L.cons.map (·.1), L.txt, L.exs.map (·.1), L.es.map (·.ps.length), L.told.map (·.1)⟩
def LawD.T (L : LawD) : Top := ⟨L.cons.map fun p => .int p.2, L.rd, fun c => if ((L.exs[c]?).map (·.2)).getD false then L.kr else L.ko, L.exs.length⟩
def LawD.ds (L : LawD) : List Def := L.es.map (·.d)
def LawD.fa (L : LawD) : List He.Fa := L.es.map (fun e => He.Fa.glo e.name) ++ (L.cons.map (fun p => He.Fa.int p.1 p.2) ++ (bltN.map He.Fa.free ++ (L.exs.map (fun p => He.Fa.glo p.1) ++ (L.exs.map (fun p => He.Fa.exc p.1) ++ ([He.Fa.glo "EverError", He.Fa.glo "OutOfRange"] ++ (match L.told with | some p => [He.Fa.glo p.1] | none => []))))))
def defD (x : Str) (st : Stmt) : He.DefD := ⟨(x, none), x, x, defArgs st, defBody st, defScope st, [], []⟩
def LawD.fn (L : LawD) : List He.DefD := L.es.map (fun e => defD e.name e.st) ++ (match L.told with | some p => [defD p.1 p.2] | none => [])
def LawD.tf (L : LawD) : List He.Defn := (L.es.filter (·.lam)).map fun e => (e.name, none)
/-- an error's class, as told asks it -/
def excB (K : PySem.W.Frag) (x : Str) (b : Bool) : Bool :=
  He.eqO (PySem.W.findIn K (.ref (He.ga K x)) "__getattribute__") (some (some (.builtin "BaseException.__getattribute__"))) && (He.eqO (PySem.W.findIn K (.ref (He.ga K x)) "__getattr__") (some none) && (PySem.W.hasDictIn K (He.ga K x) &&
    (He.eqO (PySem.W.findIn K (.ref (He.ga K x)) "__class__") (some (some (.builtin "object.__class__"))) && (He.eqO (PySem.W.specialIn K (.builtin "object.__class__") "__get__") (some (some (.builtin "getset_descriptor.__get__"))) &&
      (decide (PySem.W.takesIn K (.builtin "object.__class__") = some true) && (decide (PySem.W.mroIn K (He.ga K x) (.type "object") = some true) &&
        (decide (PySem.W.exmOne K (.ref (He.ga K x)) (.ref (He.ga K "EverError")) = some true) && decide (PySem.W.kitOne K (.ref (He.ga K x)) (.ref (He.ga K "OutOfRange")) = some b))))))))
def LawD.ex (L : LawD) (K : PySem.W.Frag) : Bool := L.exs.all (fun p => excB K p.1 p.2) && decide ((L.tf.map fun p => (He.cT K p).2).Nodup)
/-- what is asked of a def's text -/
structure LdOk (nm : Nm) (e : Ld) : Prop where
  sc : FnScope e.N e.ps (defScope e.st)
  np : e.ps.length = e.d.np
  nl : e.N.length = e.d.np + e.d.nl
  chk : chkB nm e.d.body ⟨e.N, defScope e.st, e.lam⟩ (defBody e.st) = true
  bind : ∀ (kV doc pm : Value) (an : Option Addr) (cdv ct : Value) (us : List Value), us.length = e.ps.length → bindArgs (PySem.W.fnOf e.name e.name (defArgs e.st) (defBody e.st) (defScope e.st) .none kV doc pm an cdv ct) ⟨us, []⟩ = pure (e.ps.zip us)
/-- what is asked of told's text -/
structure TolOk (L : LawD) (x : Str) (st : Stmt) : Prop where
  sc : FnScope ["call", "e"] ["call"] (defScope st)
  bind : ∀ (kV doc pm : Value) (an : Option Addr) (cdv ct : Value) (us : List Value), us.length = (["call"] : List Str).length → bindArgs (PySem.W.fnOf x x (defArgs st) (defBody st) (defScope st) .none kV doc pm an cdv ct) ⟨us, []⟩ = pure ((["call"] : List Str).zip us)
  body : ∃ (rd ev oor r o : Str) (j k ja jb jc jd : Nat) (p1 p2 p3 p4 p5 p6 p7 p8 p9 q1 q2 q3 q4 q5 q6 q7 q8 q9 q10 q11 : Pos), defBody st = toldBody rd ev oor r o j k ja jb jc jd p1 p2 p3 p4 p5 p6 p7 p8 p9 q1 q2 q3 q4 q5 q6 q7 q8 q9 q10 q11 ∧
    (defScope st).names.lookup ("e" : Str) = some .local ∧ (defScope st).names.lookup rd = some .globalImplicit ∧ (defScope st).names.lookup ev = some .globalImplicit ∧ (defScope st).names.lookup oor = some .globalImplicit ∧ (defScope st).names.lookup ("isinstance" : Str) = some .globalImplicit ∧
    L.nm.fns[L.rd]? = some rd ∧ odd rd = false ∧ ev = ("EverError" : Str) ∧ oor = ("OutOfRange" : Str) ∧ L.txt[L.kr]? = some r ∧ L.txt[L.ko]? = some o ∧ L.nm.ars.getD L.rd 0 = 1
section
variable {L : LawD} {K : PySem.W.Frag} {h : Heap} {mg : Str → Option Value} {w : World} {P : Program} {base : Heap} {ts : List He.Tab}
/-- the world of the law -/
def LawD.Y (L : LawD) (P : Program) (w : World) (K : PySem.W.Frag) (mg : Str → Option Value) (base : Heap) : Gw :=
  { Z := ⟨K, L.txt, L.tf.map fun p => ((He.cT K p).2, (p.1 ++ ".<locals>.") ++ "<lambda>"), fun c => .ref (He.ga K (((L.exs[c]?).map (·.1)).getD ⟨#[]⟩))⟩, P := P, w := w, mg := mg, base := base, T := L.T, C := fun _ _ _ => .stuck, nm := L.nm, ar := fun f => L.nm.ars.getD f 0 }
theorem says_glo (X : K.In h) (G : h.Ns mainGlobals mg) (c : He.SaysX L.fa L.fn ts L.tf L.ex w h K) {x : Str} (hx : He.Fa.glo x ∈ L.fa) : mg x = some (.ref (He.ga K x)) :=
  He.glo_ok X G (He.SaysD.facts (congrArg (fun z : He.AlT => z.1) c.t) hx)
theorem fun_of (c : He.SaysX L.fa L.fn ts L.tf L.ex w h K) {x : Str} {st : Stmt} (hx : defD x st ∈ L.fn) : ∃ fd, FunD K x x (defArgs st) (defBody st) (defScope st) [] [] (He.ga K x) fd :=
  He.SaysD.defs (congrArg (fun z : He.AlT => z.1) c.t) hx
theorem law_gk (X : K.In h) (G : h.Ns mainGlobals mg) (c : He.SaysX L.fa L.fn ts L.tf L.ex w h K) (tok : L.txt.Nodup ∧ (∀ x ∈ L.txt, PyData.canLay0 (.str x) = true ∧ x.length ≤ 1000) ∧ L.txt.headD "" = "") (tol : ∀ x st, L.told = some (x, st) → TolOk L x st) : Gk (L.Y P w K mg base) := by
  have sd : He.SaysD L.fa L.fn K := congrArg (fun z : He.AlT => z.1) c.t
  have exs : ∀ p ∈ L.exs, excB K p.1 p.2 = true := fun p hp => List.all_eq_true.mp (Bool.and_eq_true_iff.mp c.more).1 p hp
  have inE : ∀ p ∈ L.exs, He.Fa.glo p.1 ∈ L.fa ∧ He.Fa.exc p.1 ∈ L.fa := fun p hp => by
    unfold LawD.fa
    simp only [List.mem_append, List.mem_map]
    exact ⟨.inr (.inr (.inr (.inl ⟨p, hp, rfl⟩))), .inr (.inr (.inr (.inr (.inl ⟨p, hp, rfl⟩))))⟩
  have inC : ∀ p ∈ L.cons, He.Fa.int p.1 p.2 ∈ L.fa := fun p hp => by
    unfold LawD.fa
    simp only [List.mem_append, List.mem_map]
    exact .inr (.inl ⟨p, hp, rfl⟩)
  have inB : ∀ x ∈ bltN, He.Fa.free x ∈ L.fa := fun x hx => by
    unfold LawD.fa
    simp only [List.mem_append, List.mem_map]
    exact .inr (.inr (.inl ⟨x, hx, rfl⟩))
  have inEv : He.Fa.glo "EverError" ∈ L.fa ∧ He.Fa.glo "OutOfRange" ∈ L.fa := by
    unfold LawD.fa
    simp only [List.mem_append, List.mem_map, List.mem_cons]
    exact ⟨.inr (.inr (.inr (.inr (.inr (.inl (.inl trivial)))))), .inr (.inr (.inr (.inr (.inr (.inl (.inr (.inl trivial)))))))⟩
  refine ⟨⟨⟨tok.1, fun x hx => (tok.2.1 x hx).1, fun x e => ?_, fun x hx => (tok.2.1 x hx).2⟩, rfl, fun x hx => He.free_ok X G (He.SaysD.facts sd (inB x hx)), fun k x e => ?_⟩, fun f => rfl, fun k x e => ?_, fun x e => ?_⟩
  · have e : L.txt[0]? = some x := e
    have h3 := tok.2.2
    cases ht : L.txt with
    | nil => rw [ht] at e; cases e
    | cons y r =>
      rw [ht] at e h3
      have e2 : y = x := by simpa using e
      rw [← e2]
      exact h3
  · have e : (L.cons.map (·.1))[k]? = some x := e
    rw [List.getElem?_map] at e
    obtain ⟨p, e1, rfl⟩ := Option.map_eq_some_iff.mp e
    obtain ⟨t, hm⟩ := He.int_ok X G (He.SaysD.facts sd (inC p (List.mem_of_getElem? e1)))
    refine ⟨.int p.2, .int p.2, _, ?_, hm, ⟨t, rfl⟩, fun _ _ => by simp only [Rp]⟩
    show (L.cons.map fun p => D.int p.2)[k]? = _
    rw [List.getElem?_map, e1]
    rfl
  · have e : (L.exs.map (·.1))[k]? = some x := e
    rw [List.getElem?_map] at e
    obtain ⟨p, e1, rfl⟩ := Option.map_eq_some_iff.mp e
    obtain ⟨i1, i2⟩ := inE p (List.mem_of_getElem? e1)
    obtain ⟨x1, x2, x3, x4⟩ := He.exc_ok (He.SaysD.facts sd i2)
    refine ⟨He.ga K p.1, ?_, ⟨_, _, _, _, PySem.F.excBase_ValueError, x1⟩, says_glo X G c i1, x2, x3, x4⟩
    show Value.ref (He.ga K (((L.exs[k]?).map (·.1)).getD ⟨#[]⟩)) = _
    rw [e1]
    rfl
  · have e : L.told.map (·.1) = some x := e
    cases et : L.told with
    | none => rw [et] at e; cases e
    | some p =>
      obtain ⟨y, st⟩ := p
      rw [et] at e
      cases e
      have t := tol y st et
      have iF : defD y st ∈ L.fn := by
        unfold LawD.fn
        rw [et]
        exact List.mem_append_right _ List.mem_cons_self
      have iG : He.Fa.glo y ∈ L.fa := by
        unfold LawD.fa
        rw [et]
        simp only [List.mem_append, List.mem_cons]
        exact .inr (.inr (.inr (.inr (.inr (.inr (.inl trivial))))))
      obtain ⟨fd, F⟩ := fun_of c iF
      have hb := F.bindsN t.bind
      have kp := F.kp
      obtain ⟨oc, od, dV, kV, doc, pm, an, cdv, ct, osl, rfl, lk, hcd, _⟩ := F.ex
      obtain ⟨rd, ev, oor, r, o, j, k, ja, jb, jc, jd, p1, p2, p3, p4, p5, p6, p7, p8, p9, q1, q2, q3, q4, q5, q6, q7, q8, q9, q10, q11, eb, l1, l2, l3, l4, l5, hf, ord, rfl, rfl, s1, s2, har⟩ := t.body
      refine ⟨He.ga K y, defArgs st, defBody st, defScope st, dV, kV, doc, pm, cdv, ct, oc, an, od, osl, rd, "EverError", "OutOfRange", r, o, He.ga K "EverError", He.ga K "OutOfRange", j, k, ja, jb, jc, jd, p1, p2, p3, p4, p5, p6, p7, p8, p9, q1, q2, q3, q4, q5, q6, q7, q8, q9, q10, q11, L.kr, L.ko,
        says_glo X G c iG, kp, lk, hcd, hb, t.sc, l1, l2, l3, l4, l5, eb, hf, ord, by decide +kernel, by decide +kernel, says_glo X G c inEv.1, says_glo X G c inEv.2, He.free_ok X G (He.SaysD.facts sd (inB "isinstance" (by decide))), s1, s2, har, fun k hk => ?_⟩
      have hk : k < L.exs.length := hk
      have b := exs _ (List.getElem_mem hk)
      have e1 : L.exs[k]? = some L.exs[k] := List.getElem?_eq_getElem hk
      obtain ⟨i1, i2⟩ := inE _ (List.getElem_mem hk)
      obtain ⟨_, _, x3, _⟩ := He.exc_ok (He.SaysD.facts sd i2)
      unfold excB at b
      simp only [Bool.and_eq_true, decide_eq_true_eq] at b
      obtain ⟨b1, b2, b3, b4, b5, b6, b7, b8, b9⟩ := b
      refine ⟨He.ga K L.exs[k].1, L.exs[k].2, ?_, ⟨⟨He.eqO_ok b1, He.eqO_ok b2, x3, b3, He.eqO_ok b4, He.eqO_ok b5, b6, b7⟩, b8, b9⟩, ?_⟩
      · show Value.ref (He.ga K (((L.exs[k]?).map (·.1)).getD ⟨#[]⟩)) = _
        rw [e1]
        rfl
      · show (if ((L.exs[k]?).map (·.2)).getD false then L.kr else L.ko) = _
        rw [e1]
        rfl
theorem law_def (X : K.In h) (G : h.Ns mainGlobals mg) (c : He.SaysX L.fa L.fn ts L.tf L.ex w h K) (ok : ∀ e ∈ L.es, LdOk L.nm e) (tb : ∀ p ∈ L.tf, LamX.TabB base mg (He.cT K p).1 (He.cT K p).2) {f : Nat} {q : Ld} (e1 : L.es[f]? = some q) :
    DefAt (L.Y P w K mg base) f q.name q.d q.N q.ps q.st q.lam := by
  have hq := List.mem_of_getElem? e1
  have o := ok q hq
  have iF : defD q.name q.st ∈ L.fn := by
    unfold LawD.fn
    exact List.mem_append_left _ (List.mem_map.mpr ⟨q, hq, rfl⟩)
  have iG : He.Fa.glo q.name ∈ L.fa := by
    unfold LawD.fa
    exact List.mem_append_left _ (List.mem_map.mpr ⟨q, hq, rfl⟩)
  obtain ⟨fd, F⟩ := fun_of c iF
  have hb := F.bindsN o.bind
  have kp := F.kp
  obtain ⟨oc, od, dV, kV, doc, pm, an, cdv, ct, osl, rfl, lk, hcd, _⟩ := F.ex
  refine ⟨⟨He.ga K q.name, oc, od, dV, kV, doc, pm, an, cdv, ct, osl, says_glo X G c iG, kp, lk, hcd, hb, fun hl => ?_⟩, o.sc, o.np, o.nl, ?_, o.chk⟩
  · obtain ⟨cc, ecc⟩ := He.codeIn_ref hcd
    have ec : He.codeOf K (q.name, none) = cc := He.codeOf_eq (p := (q.name, none)) lk ecc
    have it : ((q.name, none) : He.Defn) ∈ L.tf := List.mem_map.mpr ⟨q, List.mem_filter.mpr ⟨hq, hl⟩, rfl⟩
    have t := tb _ it
    have e2 : (He.cT K (q.name, none)).1 = cc := ec
    rw [e2] at t
    refine ⟨cc, (He.cT K (q.name, none)).2, ecc, t, List.mem_map.mpr ⟨_, it, rfl⟩, fun p hp z => ?_⟩
    obtain ⟨p', hp', rfl⟩ := List.mem_map.mp hp
    have nd : (L.tf.map fun p => (He.cT K p).2).Nodup := of_decide_eq_true (Bool.and_eq_true_iff.mp c.more).2
    have z : (He.cT K p').2 = (He.cT K (q.name, none)).2 := z
    have : p' = (q.name, none) := by
      obtain ⟨i, hi, ei⟩ := List.mem_iff_getElem.mp hp'
      obtain ⟨j, hj, ej⟩ := List.mem_iff_getElem.mp it
      have hij : i = j := by
        have := (List.getElem_inj (xs := L.tf.map fun p => (He.cT K p).2) (i := i) (j := j) (h₀ := by simpa using hi) (h₁ := by simpa using hj) nd).mp (by rw [List.getElem_map, List.getElem_map, ei, ej]; exact z)
        exact this
      subst hij
      rw [← ei, ← ej]
    rw [this]
  · show L.nm.ars.getD f 0 = _
    have e2 : (L.es.map (·.ps.length))[f]? = some q.ps.length := by rw [List.getElem?_map, e1]; rfl
    show (L.es.map (·.ps.length)).getD f 0 = _
    rw [List.getD_eq_getElem?_getD, e2]
    exact o.np
theorem law_defs (X : K.In h) (G : h.Ns mainGlobals mg) (c : He.SaysX L.fa L.fn ts L.tf L.ex w h K) (ok : ∀ e ∈ L.es, LdOk L.nm e) (tb : ∀ p ∈ L.tf, LamX.TabB base mg (He.cT K p).1 (He.cT K p).2) :
    ∀ (f : Nat) (x : Str), (L.Y P w K mg base).nm.fns[f]? = some x → ∃ d N ps st lam, L.ds[f]? = some d ∧ DefAt (L.Y P w K mg base) f x d N ps st lam := by
  intro f x e
  have e : (L.es.map (·.name))[f]? = some x := e
  rw [List.getElem?_map] at e
  obtain ⟨q, e1, rfl⟩ := Option.map_eq_some_iff.mp e
  exact ⟨q.d, q.N, q.ps, q.st, q.lam, by unfold LawD.ds; rw [List.getElem?_map, e1]; rfl, law_def X G c ok tb e1⟩
/-- the law's end -/
theorem law_at {l : PySem.W.OpenLaw} {n fL : Nat} {eL : Ld} {fa : Addr} (X : K.In h) (G : h.Ns mainGlobals mg) (c : He.SaysX L.fa L.fn ts L.tf L.ex w h K) (tok : L.txt.Nodup ∧ (∀ x ∈ L.txt, PyData.canLay0 (.str x) = true ∧ x.length ≤ 1000) ∧ L.txt.headD "" = "") (tol : ∀ x st, L.told = some (x, st) → TolOk L x st)
    (ok : ∀ e ∈ L.es, LdOk L.nm e) (hL : L.es[fL]? = some eL) (hn : eL.name = "law") (hps : eL.ps = ([("script" : Str)] : List Str)) (hmg : mg "law" = some (.ref fa))
    (plain : ∀ ns : List Int, ns.length ≤ 63 → (∀ z ∈ ns, Builtin.Int.intBits z ≤ 1048576) → ∃ r, call L.T L.ds (n + 1) fL [some (.d (.lst (ns.map D.int)))] = .ok (.d (.bl true)) r) :
    LamX.LawAtS l w K (L2.CX l.prog w) (n + 1) 63 "script" mg fa h := by
  have hm := List.mem_of_getElem? hL
  have iF : defD eL.name eL.st ∈ L.fn := by
    unfold LawD.fn
    exact List.mem_append_left _ (List.mem_map.mpr ⟨eL, hm, rfl⟩)
  obtain ⟨fd, F⟩ := fun_of c iF
  have fx : L.nm.fns[fL]? = some eL.name := by
    show (L.es.map (·.name))[fL]? = _
    rw [List.getElem?_map, hL]
    rfl
  have iG : He.Fa.glo eL.name ∈ L.fa := by
    unfold LawD.fa
    exact List.mem_append_left _ (List.mem_map.mpr ⟨eL, hm, rfl⟩)
  have ga := says_glo X G c iG
  rw [hn] at ga
  have efa : He.ga K "law" = fa := by
    rw [hmg] at ga
    injection (Option.some.inj ga) with e
    exact e.symm
  have bA := F.bindsA (ok eL hm).bind
  refine ⟨fd, L.tf.map (He.cT K), spF ((L.Y l.prog w K mg h).to (calls L.T L.ds (n + 1))) (n + 1) fL, fun p hp => ?_, fun p hp => ?_, fun p hp => ?_, fun s u => ?_, fun H a ns hl hb hT hS => ?_, fun base hK hN hT => ?_⟩
  · obtain ⟨p', hp', rfl⟩ := List.mem_map.mp hp
    exact c.empty p' hp'
  · obtain ⟨p', hp', rfl⟩ := List.mem_map.mp hp
    exact c.out p' hp'
  · obtain ⟨p', hp', rfl⟩ := List.mem_map.mp hp
    exact PySem.W.codeHd_of_K X (c.hd p' hp')
  · have := bA s [u] (by rw [hps]; rfl)
    rw [hps] at this
    exact this
  · -- the script
    obtain ⟨r, er⟩ := plain ns hl hb
    have hs : ∃ F : Fz, SL ⟨K, L.txt, L.tf.map fun p => ((He.cT K p).2, (p.1 ++ ".<locals>.") ++ "<lambda>"), fun c => .ref (He.ga K (((L.exs[c]?).map (·.1)).getD ⟨#[]⟩))⟩ F H a (ns.map V.int) ∧ ∀ b, F b → ¬ NoO (H b) := by
      rcases hS with q | q
      · refine ⟨fun b => b = a, .inl ⟨rfl, q⟩, fun b e => ?_⟩
        subst e
        rcases q with q | ⟨o, q⟩
        · rw [q]; exact id
        · rw [q]; exact id
      · exact ⟨fun _ => False, .inr q, fun b e => e.elim⟩
    obtain ⟨F, sl, hF⟩ := hs
    refine ⟨F, [some (.d (.lst (ns.map D.int)))], ?_, rfl, fun i => ?_, fun j w' ej ho => ?_, ⟨rfl, fun i w' e => ?_, fun i j wi wj a' ei ej hi hj _ _ => ?_, fun p hp => ?_, hF⟩, ?_⟩
    · show 1 = L.nm.ars.getD fL 0
      show 1 = (L.es.map (·.ps.length)).getD fL 0
      rw [List.getD_eq_getElem?_getD, List.getElem?_map, hL]
      show 1 = eL.ps.length
      rw [hps]
      rfl
    · cases i <;> simp
    · cases j with
      | zero =>
        have e : W.d (.lst (ns.map D.int)) = w' := by simpa using ej
        subst e
        cases ho
      | succ j => simp at ej
    · cases i with
      | zero =>
        have e : W.d (.lst (ns.map D.int)) = w' := by simpa using e
        subst e
        refine ⟨.ref a, rfl, ?_⟩
        show Rp _ F H (.lst (ns.map D.int)) (.ref a)
        simp only [Rp]
        exact ⟨a, _, rfl, sl, Rps.ints ns⟩
      | succ i => simp at e
    · cases i with
      | zero =>
        have e : W.d (.lst (ns.map D.int)) = wi := by simpa using ei
        subst e
        cases hi
      | succ i => simp at ei
    · obtain ⟨p', hp', rfl⟩ := List.mem_map.mp hp
      exact LamX.TabS.nil (hT _ (List.mem_map.mpr ⟨p', hp', rfl⟩))
    · have e : ((L.Y l.prog w K mg h).to (calls L.T L.ds (n + 1))).C (n + 1) fL [some (.d (.lst (ns.map D.int)))] = .ok (.d (.bl true)) r := er
      rw [e]
      exact fun v F' H' _ rel => Rp.inv_bl rel.1.dp
  · have gk := law_gk (P := l.prog) (base := base) (w := w) X G c tok tol
    have defs := law_defs (P := l.prog) (base := base) (w := w) X G c ok fun p hp => hT _ (List.mem_map.mpr ⟨p, hp, rfl⟩)
    have D := law_def (P := l.prog) (base := base) (w := w) X G c ok (fun p hp => hT _ (List.mem_map.mpr ⟨p, hp, rfl⟩)) hL
    have hd : L.ds[fL]? = some eL.d := by unfold LawD.ds; rw [List.getElem?_map, hL]; rfl
    obtain ⟨g, fd', h1, h2, h3, ⟨oc', od', osl', lk'⟩, h4⟩ := fnD D
    have h1 : mg eL.name = some (.ref g) := h1
    rw [says_glo X G c iG] at h1
    injection (Option.some.inj h1) with eg
    obtain ⟨oc, od, dV, kV, doc, pm, an, cdv, ct, osl, efd, lk, _⟩ := F.ex
    have lk' : K.lookup g = some ⟨oc', od', .func fd', osl'⟩ := lk'
    rw [← eg, lk] at lk'
    have e3 : fd = fd' := by
      have z := Option.some.inj lk'
      injection z with _ _ z3 _
      injection z3
    have FO := h4 (calls L.T L.ds n) (calls L.T L.ds (n + 1)) n (gk.to _) (levels gk defs n) fun args => by
      show (if n + 1 = n + 1 then _ else _) = _
      rw [if_pos rfl, hd]
      rfl
    rw [← e3, ← eg, hps] at FO
    rw [← efa, ← hn]
    exact FO
end
end Ev
/-! the law law_k62_papers_of_absence in the small language (printed by gen.py) -/
namespace Ev
namespace K62
open PySem
/-- is_integer(thing) -/
def d0 : Def := ⟨1, 0, [.ret (.andL [.isi (.var 0) .int, .not_ (.isi (.var 0) .bool)])]⟩
def n0 : List Str := ["thing"]
/-- is_below(thing, bound) -/
def d1 : Def := ⟨2, 0, [.ret (.andL [.call 0 [.var 0], .chain .le .lt (.int 0) (.var 0) (.var 1)])]⟩
def n1 : List Str := ["thing", "bound"]
/-- is_between(thing, low, high) -/
def d2 : Def := ⟨3, 0, [.ret (.andL [.call 0 [.var 0], .chain .le .le (.var 1) (.var 0) (.var 2)])]⟩
def n2 : List Str := ["thing", "low", "high"]
/-- check_rows(lines) -/
def d3 : Def := ⟨1, 1, [.ite (.orL [.not_ (.isi (.var 0) .tuple), .not_ (.chain .le .le (.int 1) (.blt .len [.var 0]) (.con 0))])
   [.raise 0]
   [],
  .ite (.not_ (.blt .all [.comp (.call 0 [.var 1]) (.nm 1) .seq [.var 0] [] [1]]))
   [.raise 0]
   []]⟩
def n3 : List Str := ["lines", "line"]
/-- split(many) -/
def d4 : Def := ⟨1, 1, [.set 1 (.int 1),
  .while_ (.cmp .lt (.bin .mul (.int 2) (.var 1)) (.var 0))
   [.set 1 (.bin .mul (.int 2) (.var 1))],
  .ret (.var 1)]⟩
def n4 : List Str := ["many", "power"]
/-- sealed_of(lines) -/
def d5 : Def := ⟨1, 1, [.ite (.cmp .eq (.blt .len [.var 0]) (.int 1))
   [.ret (.tup [.str 3, .ix (.var 0) (.int 0)])]
   [],
  .set 1 (.call 4 [.blt .len [.var 0]]),
  .ret (.tup [.str 4, .call 5 [.sl (.var 0) .abs (.var 1)], .call 5 [.sl (.var 0) (.var 1) .abs]])]⟩
def n5 : List Str := ["lines", "cut"]
/-- proof_of(lines, i) -/
def d6 : Def := ⟨2, 1, [.ite (.cmp .eq (.blt .len [.var 0]) (.int 1))
   [.ret (.tup [])]
   [],
  .set 2 (.call 4 [.blt .len [.var 0]]),
  .ite (.cmp .lt (.var 1) (.var 2))
   [.ret (.bin .add (.call 6 [.sl (.var 0) .abs (.var 2), .var 1]) (.tup [.call 5 [.sl (.var 0) (.var 2) .abs]]))]
   [],
  .ret (.bin .add (.call 6 [.sl (.var 0) (.var 2) .abs, .bin .sub (.var 1) (.var 2)]) (.tup [.call 5 [.sl (.var 0) .abs (.var 2)]]))]⟩
def n6 : List Str := ["lines", "i", "cut"]
/-- proof(lines, i) -/
def d7 : Def := ⟨2, 0, [.ex (.call 3 [.var 0]),
  .ite (.not_ (.call 2 [.var 1, .int 0, .bin .sub (.blt .len [.var 0]) (.int 1)]))
   [.raise 1]
   [],
  .ret (.call 6 [.var 0, .var 1])]⟩
def n7 : List Str := ["lines", "i"]
/-- leaves_of(term) -/
def d8 : Def := ⟨1, 3, [.par [1, 2] [.lst [], .lst [.var 0]],
  .while_ (.cmp .gt (.blt .len [.var 2]) (.int 0))
   [.set 3 (.pop 2),
    .ite (.orL [.not_ (.isi (.var 3) .tuple), .cmp .eq (.blt .len [.var 3]) (.int 0), .not_ (.isi (.ix (.var 3) (.int 0)) .str)])
     [.ret .non]
     [],
    .ite (.andL [.cmp .eq (.ix (.var 3) (.int 0)) (.str 3), .cmp .eq (.blt .len [.var 3]) (.int 2), .call 0 [.ix (.var 3) (.int 1)]])
     [.ex (.app 1 (.ix (.var 3) (.int 1)))]
     [.ite (.andL [.cmp .eq (.ix (.var 3) (.int 0)) (.str 4), .cmp .eq (.blt .len [.var 3]) (.int 3)])
       [.ex (.app 2 (.ix (.var 3) (.int 2))),
        .ex (.app 2 (.ix (.var 3) (.int 1)))]
       [.ret .non]],
    .ite (.cmp .gt (.bin .add (.blt .len [.var 1]) (.blt .len [.var 2])) (.con 0))
     [.ret .non]
     []],
  .ret (.blt .tuple [.var 1])]⟩
def n8 : List Str := ["term", "found", "waiting", "here"]
/-- lines_of_seal(term, many) -/
def d9 : Def := ⟨2, 1, [.set 2 (.call 8 [.var 0]),
  .ret (.ite (.andL [.cmp .eq (.blt .len [.var 2]) (.var 1), .cmp .eq (.call 5 [.var 2]) (.var 0)]) (.var 2) .non)]⟩
def n9 : List Str := ["term", "many", "found"]
/-- is_key_line(line) -/
def d10 : Def := ⟨1, 1, [.ite (.orL [.not_ (.isi (.var 0) .tuple), .cmp .eq (.blt .len [.var 0]) (.int 0), .not_ (.isi (.ix (.var 0) (.int 0)) .str)])
   [.ret (.bl false)]
   [],
  .ite (.orL [.cmp .notin (.ix (.var 0) (.int 0)) (.tup [.str 5, .str 6]), .cmp .ne (.blt .len [.var 0]) (.ite (.cmp .eq (.ix (.var 0) (.int 0)) (.str 5)) (.int 3) (.int 2))])
   [.ret (.bl false)]
   [],
  .ret (.blt .all [.comp (.call 2 [.var 1, .neg (.con 3), .con 3]) (.nm 1) .seq [.sl (.var 0) (.int 1) .abs] [] [1]])]⟩
def n10 : List Str := ["line", "number"]
/-- check_log(log, most) -/
def d11 : Def := ⟨2, 1, [.ite (.orL [.not_ (.isi (.var 0) .tuple), .cmp .gt (.blt .len [.var 0]) (.var 1), .not_ (.blt .all [.comp (.call 10 [.var 2]) (.nm 2) .seq [.var 0] [] [2]])])
   [.raise 0]
   []]⟩
def n11 : List Str := ["log", "most", "line"]
/-- check_sheets(sheets) -/
def d12 : Def := ⟨1, 2, [.ite (.orL [.not_ (.isi (.var 0) .tuple), .cmp .gt (.blt .len [.var 0]) (.con 2)])
   [.raise 0]
   [],
  .for_ (.nm 1) .seq [.var 0]
   [.ex (.call 11 [.var 1, .con 1]),
    .ite (.not_ (.blt .all [.comp (.cmp .lt (.ix (.ix (.var 1) (.bin .sub (.var 2) (.int 1))) (.int 1)) (.ix (.ix (.var 1) (.var 2)) (.int 1))) (.nm 2) .rng [.int 1, .blt .len [.var 1]] [] [2]]))
     [.raise 0]
     []]]⟩
def n12 : List Str := ["sheets", "sheet", "at"]
/-- check_sheet(sheet) -/
def d13 : Def := ⟨1, 2, [.ex (.call 12 [.tup [.var 0]]),
  .ite (.not_ (.chain .le .le (.int 1) (.blt .len [.var 0]) (.con 4)))
   [.raise 0]
   [],
  .ite (.not_ (.blt .all [.comp2 (.call 2 [.var 2, .int 0, .con 5]) (.nm 1) .seq [.var 0] (.nm 2) .seq [.sl (.var 1) (.int 1) .abs] [] [1, 2]]))
   [.raise 0]
   []]⟩
def n13 : List Str := ["sheet", "line", "number"]
/-- check_key(key) -/
def d14 : Def := ⟨1, 0, [.ite (.not_ (.call 2 [.var 0, .int 0, .con 5]))
   [.raise 1]
   []]⟩
def n14 : List Str := ["key"]
/-- number_of(line) -/
def d15 : Def := ⟨1, 0, [.ret (.bin .add (.bin .mul (.con 6) (.ix (.var 0) (.int 1))) (.ite (.cmp .eq (.ix (.var 0) (.int 0)) (.str 5)) (.bin .add (.ix (.var 0) (.int 2)) (.int 1)) (.int 0)))]⟩
def n15 : List Str := ["line"]
/-- sealed_sheet(sheet) -/
def d16 : Def := ⟨1, 1, [.ex (.call 13 [.var 0]),
  .ret (.call 5 [.blt .tuple [.comp (.call 15 [.var 1]) (.nm 1) .seq [.var 0] [] [1]]])]⟩
def n16 : List Str := ["sheet", "line"]
/-- absent(sheet, key) -/
def d17 : Def := ⟨2, 4, [.ex (.call 13 [.var 0]),
  .ex (.call 14 [.var 1]),
  .ite (.blt .any [.comp (.cmp .eq (.ix (.var 4) (.int 1)) (.var 1)) (.nm 4) .seq [.var 0] [] [4]])
   [.ret .non]
   [],
  .set 2 (.blt .len [.comp (.var 4) (.nm 4) .seq [.var 0] [.cmp .lt (.ix (.var 4) (.int 1)) (.var 1)] [4]]),
  .set 3 (.blt .tuple [.comp (.call 15 [.var 4]) (.nm 4) .seq [.var 0] [] [4]]),
  .ret (.blt .tuple [.comp (.tup [.ix (.var 0) (.var 5), .var 5, .call 6 [.var 3, .var 5]]) (.nm 5) .seq [.tup [.bin .sub (.var 2) (.int 1), .var 2]] [.chain .le .lt (.int 0) (.var 5) (.blt .len [.var 0])] [5]])]⟩
def n17 : List Str := ["sheet", "key", "place", "numbers", "line", "at"]
/-- is_line(line) -/
def d18 : Def := ⟨1, 1, [.ite (.orL [.not_ (.isi (.var 0) .tuple), .cmp .eq (.blt .len [.var 0]) (.int 0), .not_ (.isi (.ix (.var 0) (.int 0)) .str)])
   [.ret (.bl false)]
   [],
  .ite (.orL [.cmp .notin (.ix (.var 0) (.int 0)) (.tup [.str 5, .str 6]), .cmp .ne (.blt .len [.var 0]) (.ite (.cmp .eq (.ix (.var 0) (.int 0)) (.str 5)) (.int 3) (.int 2))])
   [.ret (.bl false)]
   [],
  .ret (.blt .all [.comp (.call 2 [.var 1, .int 0, .con 5]) (.nm 1) .seq [.sl (.var 0) (.int 1) .abs] [] [1]])]⟩
def n18 : List Str := ["line", "number"]
/-- is_absent(key, n, sealed, told) -/
def d19 : Def := ⟨4, 8, [.ex (.call 14 [.var 0]),
  .ite (.not_ (.call 2 [.var 1, .int 1, .con 4]))
   [.raise 1]
   [],
  .ite (.orL [.not_ (.isi (.var 3) .tuple), .not_ (.blt .all [.comp (.andL [.isi (.var 11) .tuple, .cmp .eq (.blt .len [.var 11]) (.int 3)]) (.nm 11) .seq [.var 3] [] [11]])])
   [.ret (.bl false)]
   [],
  .ite (.not_ (.blt .all [.comp (.andL [.call 18 [.var 7], .call 0 [.var 8], .call 1 [.var 8, .var 1]]) (.tp [.nm 7, .nm 8, .nm 9]) .seq [.var 3] [] [7, 8, 9]]))
   [.ret (.bl false)]
   [],
  .set 4 (.comp (.tup [.var 8, .ix (.var 7) (.int 1)]) (.tp [.nm 7, .nm 8, .nm 9]) .seq [.var 3] [.cmp .lt (.ix (.var 7) (.int 1)) (.var 0)] [7, 8, 9]),
  .set 5 (.comp (.tup [.var 8, .ix (.var 7) (.int 1)]) (.tp [.nm 7, .nm 8, .nm 9]) .seq [.var 3] [.cmp .gt (.ix (.var 7) (.int 1)) (.var 0)] [7, 8, 9]),
  .ite (.orL [.cmp .gt (.blt .len [.var 4]) (.int 1), .cmp .gt (.blt .len [.var 5]) (.int 1), .not_ (.chain .le .eq (.int 1) (.bin .add (.blt .len [.var 4]) (.blt .len [.var 5])) (.blt .len [.var 3]))])
   [.ret (.bl false)]
   [],
  .ite (.andL [.cmp .gt (.blt .len [.var 3]) (.int 1), .cmp .gt (.ix (.ix (.var 3) (.int 0)) (.int 1)) (.ix (.ix (.var 3) (.int 1)) (.int 1))])
   [.ret (.bl false)]
   [],
  .set 6 (.ite (.cmp .gt (.blt .len [.var 4]) (.int 0)) (.bin .add (.ix (.ix (.var 4) (.int 0)) (.int 0)) (.int 1)) (.int 0)),
  .ite (.cmp .ne (.var 6) (.ite (.cmp .gt (.blt .len [.var 5]) (.int 0)) (.ix (.ix (.var 5) (.int 0)) (.int 0)) (.var 1)))
   [.ret (.bl false)]
   [],
  .ret (.blt .all [.comp (.call 20 [.call 15 [.var 7], .var 8, .var 1, .var 10, .var 2]) (.tp [.nm 7, .nm 8, .nm 10]) .seq [.var 3] [] [7, 8, 10]])]⟩
def n19 : List Str := ["key", "n", "sealed", "told", "low", "high", "place", "line", "at", "_", "proof", "part"]
/-- is_shown(number, at, n, proof, sealed) -/
def d20 : Def := ⟨5, 2, [.ite (.orL [.not_ (.isi (.var 3) .tuple), .cmp .gt (.blt .len [.var 3]) (.con 4), .blt .any [.comp (.cmp .is_ (.call 8 [.var 6]) .non) (.nm 6) .seq [.var 3] [] [6]]])
   [.ret (.bl false)]
   [],
  .set 5 (.call 21 [.var 0, .var 1, .var 2, .var 3]),
  .ret (.andL [.cmp .isnot (.var 5) .non, .cmp .eq (.call 8 [.var 4]) (.var 5), .cmp .eq (.call 5 [.var 5]) (.var 4)])]⟩
def n20 : List Str := ["number", "at", "n", "proof", "sealed", "lines", "term"]
/-- shown_lines(number, at, n, proof) -/
def d21 : Def := ⟨4, 3, [.ite (.cmp .eq (.var 2) (.int 1))
   [.ret (.ite (.cmp .eq (.blt .len [.var 3]) (.int 0)) (.tup [.var 0]) .non)]
   [],
  .ite (.cmp .eq (.blt .len [.var 3]) (.int 0))
   [.ret .non]
   [],
  .set 4 (.int 1),
  .while_ (.cmp .lt (.bin .mul (.int 2) (.var 4)) (.var 2))
   [.set 4 (.bin .mul (.int 2) (.var 4))],
  .set 5 (.call 9 [.ix (.var 3) (.neg (.int 1)), .ite (.cmp .lt (.var 1) (.var 4)) (.bin .sub (.var 2) (.var 4)) (.var 4)]),
  .set 6 (.call 21 [.var 0, .ite (.cmp .lt (.var 1) (.var 4)) (.var 1) (.bin .sub (.var 1) (.var 4)), .ite (.cmp .lt (.var 1) (.var 4)) (.var 4) (.bin .sub (.var 2) (.var 4)), .sl (.var 3) .abs (.neg (.int 1))]),
  .ite (.orL [.cmp .is_ (.var 5) .non, .cmp .is_ (.var 6) .non])
   [.ret .non]
   [],
  .ret (.ite (.cmp .lt (.var 1) (.var 4)) (.bin .add (.var 6) (.var 5)) (.bin .add (.var 5) (.var 6)))]⟩
def n21 : List Str := ["number", "at", "n", "proof", "cut", "beside", "inner"]
/-- _law_cell(script, k) -/
def d22 : Def := ⟨2, 0, [.ret (.ite (.cmp .lt (.var 1) (.blt .len [.var 0])) (.blt .abs [.blt .int [.ix (.var 0) (.var 1)]]) (.int 0))]⟩
def n22 : List Str := ["script", "k"]
/-- _law_stream(script, k) -/
def d23 : Def := ⟨2, 0, [.ret (.lst [.call 22 [.var 0, .var 1], .bin .add (.int 1) (.bin .mod (.bin .mul (.int 48271) (.call 22 [.var 0, .var 1])) (.int 2147483647))])]⟩
def n23 : List Str := ["script", "k"]
/-- _law_draw(box, high) -/
def d24 : Def := ⟨2, 1, [.ite (.cmp .gt (.ix (.var 0) (.int 0)) (.int 0))
   [.set 2 (.ix (.var 0) (.int 0)),
    .setIx 0 (.int 0) (.blt .int [.bin .fdiv (.var 2) (.var 1)]),
    .ret (.blt .int [.bin .mod (.var 2) (.var 1)])]
   [],
  .setIx 0 (.int 1) (.bin .mod (.bin .mul (.int 69621) (.ix (.var 0) (.int 1))) (.int 2147483647)),
  .ret (.blt .int [.bin .mod (.bin .fdiv (.ix (.var 0) (.int 1)) (.int 7)) (.var 1)])]⟩
def n24 : List Str := ["box", "high", "cell"]
/-- _law_read(told) -/
def d25 : Def := ⟨1, 1, [.ite (.orL [.cmp .is_ (.var 0) .non, .cmp .is_ (.var 0) (.bl true), .cmp .is_ (.var 0) (.bl false)])
   [.ret (.var 0)]
   [],
  .ite (.isi (.var 0) .int)
   [.ret (.blt .int [.var 0])]
   [],
  .ite (.isi (.var 0) .str)
   [.ret (.bin .add (.str 0) (.var 0))]
   [],
  .ite (.isi (.var 0) .tuple)
   [.ret (.blt .tuple [.comp (.call 25 [.var 1]) (.nm 1) .seq [.var 0] [] [1]])]
   [],
  .ret (.ite (.isi (.var 0) .list) (.comp (.call 25 [.var 1]) (.nm 1) .seq [.var 0] [] [1]) (.str 7))]⟩
def n25 : List Str := ["told", "part"]
/-- _law_sheet(box) -/
def d26 : Def := ⟨1, 3, [.set 1 (.blt .sortedSet [.comp (.bin .mul (.call 24 [.var 0, .int 60]) (.int 15)) (.nm 3) .rng [.bin .add (.int 1) (.call 24 [.var 0, .int 30])] [] [3]]),
  .ret (.blt .tuple [.comp (.ite (.cmp .eq (.call 24 [.var 0, .int 3]) (.int 0)) (.tup [.str 6, .var 2]) (.tup [.str 5, .var 2, .call 24 [.var 0, .int 901]])) (.nm 2) .seq [.var 1] [] [2]])]⟩
def n26 : List Str := ["box", "keys", "key", "turn"]
/-- _law_number(line) -/
def d27 : Def := ⟨1, 0, [.ret (.bin .add (.bin .mul (.int 3000) (.ix (.var 0) (.int 1))) (.ite (.cmp .eq (.ix (.var 0) (.int 0)) (.str 5)) (.bin .add (.ix (.var 0) (.int 2)) (.int 1)) (.int 0)))]⟩
def n27 : List Str := ["line"]
/-- _law_term(numbers) -/
def d28 : Def := ⟨1, 2, [.ite (.cmp .eq (.blt .len [.var 0]) (.int 1))
   [.ret (.tup [.str 3, .ix (.var 0) (.int 0)])]
   [],
  .set 1 (.int 1),
  .for_ (.nm 2) .rng [.int 6]
   [.set 1 (.ite (.cmp .lt (.bin .mul (.int 2) (.var 1)) (.blt .len [.var 0])) (.bin .mul (.int 2) (.var 1)) (.var 1))],
  .ret (.tup [.str 4, .call 28 [.sl (.var 0) .abs (.var 1)], .call 28 [.sl (.var 0) (.var 1) .abs]])]⟩
def n28 : List Str := ["numbers", "cut", "turn"]
/-- _law_is(key, n, sealed, told) -/
def d29 : Def := ⟨4, 0, [.ret (.told (.call 19 [.var 0, .var 1, .var 2, .var 3]))]⟩
def n29 : List Str := ["key", "n", "sealed", "told"]
/-- _law_told_proof(numbers, at) -/
def d30 : Def := ⟨2, 0, [.ret (.ix (.told (.call 7 [.var 0, .var 1])) (.int 1))]⟩
def n30 : List Str := ["numbers", "at"]
/-- law(script) -/
def d31 : Def := ⟨1, 19, [.set 1 (.call 23 [.var 0, .int 0]),
  .set 2 (.call 26 [.var 1]),
  .par [10, 11] [.blt .len [.var 2], .blt .tuple [.comp (.call 27 [.var 18]) (.nm 18) .seq [.var 2] [] [18]]],
  .set 3 (.told (.call 16 [.var 2])),
  .ite (.cmp .ne (.var 3) (.tup [.int 0, .call 28 [.var 11]]))
   [.ret (.bl false)]
   [],
  .set 4 (.call 24 [.var 1, .int 901]),
  .set 5 (.cmp .ne (.comp (.var 18) (.nm 18) .seq [.var 2] [.cmp .eq (.ix (.var 18) (.int 1)) (.var 4)] [18]) (.lst [])),
  .set 6 (.told (.call 17 [.var 2, .var 4])),
  .ite (.orL [.cmp .ne (.ix (.var 6) (.int 0)) (.int 0), .cmp .ne (.cmp .is_ (.ix (.var 6) (.int 1)) .non) (.var 5)])
   [.ret (.bl false)]
   [],
  .set 7 (.blt .len [.comp (.var 18) (.nm 18) .seq [.var 2] [.cmp .lt (.ix (.var 18) (.int 1)) (.var 4)] [18]]),
  .ite (.not_ (.var 5))
   [.set 12 (.lst []),
    .for_ (.nm 13) .seq [.tup [.bin .sub (.var 7) (.int 1), .var 7]]
     [.ite (.chain .le .lt (.int 0) (.var 13) (.var 10))
       [.ex (.app 12 (.tup [.ix (.var 2) (.var 13), .var 13, .ix (.told (.call 7 [.var 11, .var 13])) (.int 1)]))]
       []],
    .ite (.orL [.cmp .ne (.ix (.var 6) (.int 1)) (.blt .tuple [.var 12]), .cmp .ne (.call 29 [.var 4, .var 10, .ix (.var 3) (.int 1), .ix (.var 6) (.int 1)]) (.tup [.int 0, .bl true])])
     [.ret (.bl false)]
     [],
    .set 14 (.ix (.var 6) (.int 1)),
    .setT [.nm 18, .nm 13, .nm 19] (.ix (.var 14) (.int 0)),
    .set 15 (.lst [.bin .mul (.sl (.var 14) .abs (.int 1)) (.int 2), .tup [], .bin .add (.tup [.tup [.ite (.cmp .eq (.ix (.var 18) (.int 0)) (.str 5)) (.tup [.str 6, .ix (.var 18) (.int 1)]) (.tup [.str 5, .ix (.var 18) (.int 1), .int 0]), .var 13, .var 19]]) (.sl (.var 14) (.int 1) .abs)]),
    .set 15 (.bin .add (.var 15) (.lst [.bin .add (.tup [.tup [.var 18, .bin .add (.var 13) (.int 1), .var 19]]) (.sl (.var 14) (.int 1) .abs), .bin .add (.tup [.tup [.var 18, .var 13, .bin .add (.var 19) (.tup [.tup [.str 3, .int 0]])]]) (.sl (.var 14) (.int 1) .abs), .int 7, .tup [.int 7], .sl (.var 14) (.int 1) .abs])),
    .for_ (.nm 16) .seq [.var 15]
     [.ite (.cmp .ne (.call 29 [.var 4, .var 10, .ix (.var 3) (.int 1), .var 16]) (.tup [.int 0, .bl false]))
       [.ret (.bl false)]
       []],
    .ite (.orL [.andL [.cmp .lt (.var 10) (.int 60), .cmp .ne (.call 29 [.var 4, .bin .add (.var 10) (.int 1), .ix (.var 3) (.int 1), .var 14]) (.tup [.int 0, .bl false])], .cmp .ne (.call 29 [.var 4, .var 10, .tup [.str 3, .int 5], .var 14]) (.tup [.int 0, .andL [.cmp .eq (.var 10) (.int 1), .cmp .eq (.var 11) (.tup [.int 5])]])])
     [.ret (.bl false)]
     []]
   [],
  .set 8 (.ix (.ix (.var 2) (.call 24 [.var 1, .var 10])) (.int 1)),
  .for_ (.nm 9) .rng [.bin .add (.var 10) (.int 1)]
   [.set 17 (.blt .tuple [.comp (.tup [.ix (.var 2) (.var 13), .var 13, .call 30 [.var 11, .var 13]]) (.nm 13) .seq [.tup [.bin .sub (.var 9) (.int 1), .var 9]] [.chain .le .lt (.int 0) (.var 13) (.var 10)] [13]]),
    .ite (.cmp .ne (.call 29 [.var 8, .var 10, .ix (.var 3) (.int 1), .var 17]) (.tup [.int 0, .bl false]))
     [.ret (.bl false)]
     []],
  .ret (.bl true)]⟩
def n31 : List Str := ["script", "box", "sheet", "sealed", "key", "there", "told", "place", "own", "k", "n", "numbers", "due", "at", "paper", "wrong", "other", "some", "line", "terms"]
def toS (l : List String) : List Str := l.map Str.ofString
def st (i : Nat) : Stmt := PySem.Challenge.pw_evertold_k62_papers_of_absence.main.body.getD i (.Pass ⟨0, 0, 0, 0⟩)
def e0 : Ld := ⟨"is_integer", d0, n0, toS ["thing"], st 5, false⟩
def e1 : Ld := ⟨"is_below", d1, n1, toS ["thing", "bound"], st 6, false⟩
def e2 : Ld := ⟨"is_between", d2, n2, toS ["thing", "low", "high"], st 7, false⟩
def e3 : Ld := ⟨"check_rows", d3, n3, toS ["lines"], st 10, false⟩
def e4 : Ld := ⟨"split", d4, n4, toS ["many"], st 11, false⟩
def e5 : Ld := ⟨"sealed_of", d5, n5, toS ["lines"], st 12, false⟩
def e6 : Ld := ⟨"proof_of", d6, n6, toS ["lines", "i"], st 13, false⟩
def e7 : Ld := ⟨"proof", d7, n7, toS ["lines", "i"], st 14, false⟩
def e8 : Ld := ⟨"leaves_of", d8, n8, toS ["term"], st 15, false⟩
def e9 : Ld := ⟨"lines_of_seal", d9, n9, toS ["term", "many"], st 16, false⟩
def e10 : Ld := ⟨"is_key_line", d10, n10, toS ["line"], st 21, false⟩
def e11 : Ld := ⟨"check_log", d11, n11, toS ["log", "most"], st 22, false⟩
def e12 : Ld := ⟨"check_sheets", d12, n12, toS ["sheets"], st 23, false⟩
def e13 : Ld := ⟨"check_sheet", d13, n13, toS ["sheet"], st 28, false⟩
def e14 : Ld := ⟨"check_key", d14, n14, toS ["key"], st 29, false⟩
def e15 : Ld := ⟨"number_of", d15, n15, toS ["line"], st 30, false⟩
def e16 : Ld := ⟨"sealed_sheet", d16, n16, toS ["sheet"], st 31, false⟩
def e17 : Ld := ⟨"absent", d17, n17, toS ["sheet", "key"], st 32, false⟩
def e18 : Ld := ⟨"is_line", d18, n18, toS ["line"], st 33, false⟩
def e19 : Ld := ⟨"is_absent", d19, n19, toS ["key", "n", "sealed", "told"], st 34, false⟩
def e20 : Ld := ⟨"is_shown", d20, n20, toS ["number", "at", "n", "proof", "sealed"], st 35, false⟩
def e21 : Ld := ⟨"shown_lines", d21, n21, toS ["number", "at", "n", "proof"], st 36, false⟩
def e22 : Ld := ⟨"_law_cell", d22, n22, toS ["script", "k"], st 38, false⟩
def e23 : Ld := ⟨"_law_stream", d23, n23, toS ["script", "k"], st 39, false⟩
def e24 : Ld := ⟨"_law_draw", d24, n24, toS ["box", "high"], st 40, false⟩
def e25 : Ld := ⟨"_law_read", d25, n25, toS ["told"], st 41, false⟩
def e26 : Ld := ⟨"_law_sheet", d26, n26, toS ["box"], st 43, false⟩
def e27 : Ld := ⟨"_law_number", d27, n27, toS ["line"], st 44, false⟩
def e28 : Ld := ⟨"_law_term", d28, n28, toS ["numbers"], st 45, false⟩
def e29 : Ld := ⟨"_law_is", d29, n29, toS ["key", "n", "sealed", "told"], st 46, true⟩
def e30 : Ld := ⟨"_law_told_proof", d30, n30, toS ["numbers", "at"], st 47, true⟩
def e31 : Ld := ⟨"law", d31, n31, toS ["script"], st 48, true⟩
def es : List Ld := ([e0, e1, e2, e3, e4, e5, e6, e7, e8, e9] : List Ld) ++ ([e10, e11, e12, e13, e14, e15, e16, e17, e18, e19] : List Ld) ++ ([e20, e21, e22, e23, e24, e25, e26, e27, e28, e29] : List Ld) ++ ([e30, e31] : List Ld)
def L : LawD := { es := es, cons := ([("MOST_LINES_seals", 64), ("MOST_SHEET", 400), ("MOST_SHEETS", 12), ("MOST_NUMBER", 1000), ("MOST_LINES_absent", 60), ("MOST_KEY", 900), ("STEP", 3000)] : List (Str × Int)), exs := ([("BadLog", false), ("OutOfRange", true)] : List (Str × Bool)), txt := toS ["", "range", "other", "leaf", "join", "put", "drop", "something else"], rd := 25, kr := 1, ko := 2, told := some ("_law_told", st 42) }
theorem o0 : LdOk L.nm e0 := ⟨⟨rfl, rfl, rfl, by decide +kernel, by decide +kernel, by decide +kernel, by decide +kernel⟩, rfl, rfl, by decide +kernel, fun _ _ _ _ _ _ us hl => match us, hl with | [_], _ => rfl⟩
theorem o1 : LdOk L.nm e1 := ⟨⟨rfl, rfl, rfl, by decide +kernel, by decide +kernel, by decide +kernel, by decide +kernel⟩, rfl, rfl, by decide +kernel, fun _ _ _ _ _ _ us hl => match us, hl with | [_, _], _ => rfl⟩
theorem o2 : LdOk L.nm e2 := ⟨⟨rfl, rfl, rfl, by decide +kernel, by decide +kernel, by decide +kernel, by decide +kernel⟩, rfl, rfl, by decide +kernel, fun _ _ _ _ _ _ us hl => match us, hl with | [_, _, _], _ => rfl⟩
theorem o3 : LdOk L.nm e3 := ⟨⟨rfl, rfl, rfl, by decide +kernel, by decide +kernel, by decide +kernel, by decide +kernel⟩, rfl, rfl, by decide +kernel, fun _ _ _ _ _ _ us hl => match us, hl with | [_], _ => rfl⟩
theorem o4 : LdOk L.nm e4 := ⟨⟨rfl, rfl, rfl, by decide +kernel, by decide +kernel, by decide +kernel, by decide +kernel⟩, rfl, rfl, by decide +kernel, fun _ _ _ _ _ _ us hl => match us, hl with | [_], _ => rfl⟩
theorem o5 : LdOk L.nm e5 := ⟨⟨rfl, rfl, rfl, by decide +kernel, by decide +kernel, by decide +kernel, by decide +kernel⟩, rfl, rfl, by decide +kernel, fun _ _ _ _ _ _ us hl => match us, hl with | [_], _ => rfl⟩
theorem o6 : LdOk L.nm e6 := ⟨⟨rfl, rfl, rfl, by decide +kernel, by decide +kernel, by decide +kernel, by decide +kernel⟩, rfl, rfl, by decide +kernel, fun _ _ _ _ _ _ us hl => match us, hl with | [_, _], _ => rfl⟩
theorem o7 : LdOk L.nm e7 := ⟨⟨rfl, rfl, rfl, by decide +kernel, by decide +kernel, by decide +kernel, by decide +kernel⟩, rfl, rfl, by decide +kernel, fun _ _ _ _ _ _ us hl => match us, hl with | [_, _], _ => rfl⟩
theorem o8 : LdOk L.nm e8 := ⟨⟨rfl, rfl, rfl, by decide +kernel, by decide +kernel, by decide +kernel, by decide +kernel⟩, rfl, rfl, by decide +kernel, fun _ _ _ _ _ _ us hl => match us, hl with | [_], _ => rfl⟩
theorem o9 : LdOk L.nm e9 := ⟨⟨rfl, rfl, rfl, by decide +kernel, by decide +kernel, by decide +kernel, by decide +kernel⟩, rfl, rfl, by decide +kernel, fun _ _ _ _ _ _ us hl => match us, hl with | [_, _], _ => rfl⟩
theorem o10 : LdOk L.nm e10 := ⟨⟨rfl, rfl, rfl, by decide +kernel, by decide +kernel, by decide +kernel, by decide +kernel⟩, rfl, rfl, by decide +kernel, fun _ _ _ _ _ _ us hl => match us, hl with | [_], _ => rfl⟩
theorem o11 : LdOk L.nm e11 := ⟨⟨rfl, rfl, rfl, by decide +kernel, by decide +kernel, by decide +kernel, by decide +kernel⟩, rfl, rfl, by decide +kernel, fun _ _ _ _ _ _ us hl => match us, hl with | [_, _], _ => rfl⟩
theorem o12 : LdOk L.nm e12 := ⟨⟨rfl, rfl, rfl, by decide +kernel, by decide +kernel, by decide +kernel, by decide +kernel⟩, rfl, rfl, by decide +kernel, fun _ _ _ _ _ _ us hl => match us, hl with | [_], _ => rfl⟩
theorem o13 : LdOk L.nm e13 := ⟨⟨rfl, rfl, rfl, by decide +kernel, by decide +kernel, by decide +kernel, by decide +kernel⟩, rfl, rfl, by decide +kernel, fun _ _ _ _ _ _ us hl => match us, hl with | [_], _ => rfl⟩
theorem o14 : LdOk L.nm e14 := ⟨⟨rfl, rfl, rfl, by decide +kernel, by decide +kernel, by decide +kernel, by decide +kernel⟩, rfl, rfl, by decide +kernel, fun _ _ _ _ _ _ us hl => match us, hl with | [_], _ => rfl⟩
theorem o15 : LdOk L.nm e15 := ⟨⟨rfl, rfl, rfl, by decide +kernel, by decide +kernel, by decide +kernel, by decide +kernel⟩, rfl, rfl, by decide +kernel, fun _ _ _ _ _ _ us hl => match us, hl with | [_], _ => rfl⟩
theorem o16 : LdOk L.nm e16 := ⟨⟨rfl, rfl, rfl, by decide +kernel, by decide +kernel, by decide +kernel, by decide +kernel⟩, rfl, rfl, by decide +kernel, fun _ _ _ _ _ _ us hl => match us, hl with | [_], _ => rfl⟩
theorem o17 : LdOk L.nm e17 := ⟨⟨rfl, rfl, rfl, by decide +kernel, by decide +kernel, by decide +kernel, by decide +kernel⟩, rfl, rfl, by decide +kernel, fun _ _ _ _ _ _ us hl => match us, hl with | [_, _], _ => rfl⟩
theorem o18 : LdOk L.nm e18 := ⟨⟨rfl, rfl, rfl, by decide +kernel, by decide +kernel, by decide +kernel, by decide +kernel⟩, rfl, rfl, by decide +kernel, fun _ _ _ _ _ _ us hl => match us, hl with | [_], _ => rfl⟩
theorem o19 : LdOk L.nm e19 := ⟨⟨rfl, rfl, rfl, by decide +kernel, by decide +kernel, by decide +kernel, by decide +kernel⟩, rfl, rfl, by decide +kernel, fun _ _ _ _ _ _ us hl => match us, hl with | [_, _, _, _], _ => rfl⟩
theorem o20 : LdOk L.nm e20 := ⟨⟨rfl, rfl, rfl, by decide +kernel, by decide +kernel, by decide +kernel, by decide +kernel⟩, rfl, rfl, by decide +kernel, fun _ _ _ _ _ _ us hl => match us, hl with | [_, _, _, _, _], _ => rfl⟩
theorem o21 : LdOk L.nm e21 := ⟨⟨rfl, rfl, rfl, by decide +kernel, by decide +kernel, by decide +kernel, by decide +kernel⟩, rfl, rfl, by decide +kernel, fun _ _ _ _ _ _ us hl => match us, hl with | [_, _, _, _], _ => rfl⟩
theorem o22 : LdOk L.nm e22 := ⟨⟨rfl, rfl, rfl, by decide +kernel, by decide +kernel, by decide +kernel, by decide +kernel⟩, rfl, rfl, by decide +kernel, fun _ _ _ _ _ _ us hl => match us, hl with | [_, _], _ => rfl⟩
theorem o23 : LdOk L.nm e23 := ⟨⟨rfl, rfl, rfl, by decide +kernel, by decide +kernel, by decide +kernel, by decide +kernel⟩, rfl, rfl, by decide +kernel, fun _ _ _ _ _ _ us hl => match us, hl with | [_, _], _ => rfl⟩
theorem o24 : LdOk L.nm e24 := ⟨⟨rfl, rfl, rfl, by decide +kernel, by decide +kernel, by decide +kernel, by decide +kernel⟩, rfl, rfl, by decide +kernel, fun _ _ _ _ _ _ us hl => match us, hl with | [_, _], _ => rfl⟩
theorem o25 : LdOk L.nm e25 := ⟨⟨rfl, rfl, rfl, by decide +kernel, by decide +kernel, by decide +kernel, by decide +kernel⟩, rfl, rfl, by decide +kernel, fun _ _ _ _ _ _ us hl => match us, hl with | [_], _ => rfl⟩
theorem o26 : LdOk L.nm e26 := ⟨⟨rfl, rfl, rfl, by decide +kernel, by decide +kernel, by decide +kernel, by decide +kernel⟩, rfl, rfl, by decide +kernel, fun _ _ _ _ _ _ us hl => match us, hl with | [_], _ => rfl⟩
theorem o27 : LdOk L.nm e27 := ⟨⟨rfl, rfl, rfl, by decide +kernel, by decide +kernel, by decide +kernel, by decide +kernel⟩, rfl, rfl, by decide +kernel, fun _ _ _ _ _ _ us hl => match us, hl with | [_], _ => rfl⟩
theorem o28 : LdOk L.nm e28 := ⟨⟨rfl, rfl, rfl, by decide +kernel, by decide +kernel, by decide +kernel, by decide +kernel⟩, rfl, rfl, by decide +kernel, fun _ _ _ _ _ _ us hl => match us, hl with | [_], _ => rfl⟩
theorem o29 : LdOk L.nm e29 := ⟨⟨rfl, rfl, rfl, by decide +kernel, by decide +kernel, by decide +kernel, by decide +kernel⟩, rfl, rfl, by decide +kernel, fun _ _ _ _ _ _ us hl => match us, hl with | [_, _, _, _], _ => rfl⟩
theorem o30 : LdOk L.nm e30 := ⟨⟨rfl, rfl, rfl, by decide +kernel, by decide +kernel, by decide +kernel, by decide +kernel⟩, rfl, rfl, by decide +kernel, fun _ _ _ _ _ _ us hl => match us, hl with | [_, _], _ => rfl⟩
theorem o31 : LdOk L.nm e31 := ⟨⟨rfl, rfl, rfl, by decide +kernel, by decide +kernel, by decide +kernel, by decide +kernel⟩, rfl, rfl, by decide +kernel, fun _ _ _ _ _ _ us hl => match us, hl with | [_], _ => rfl⟩
theorem ok : ∀ e ∈ L.es, LdOk L.nm e := by
  intro e he
  have he : e ∈ es := he
  simp only [es, List.mem_append, List.mem_cons, List.not_mem_nil, or_false, or_assoc] at he
  rcases he with rfl | rfl | rfl | rfl | rfl | rfl | rfl | rfl | rfl | rfl | rfl | rfl | rfl | rfl | rfl | rfl | rfl | rfl | rfl | rfl | rfl | rfl | rfl | rfl | rfl | rfl | rfl | rfl | rfl | rfl | rfl | rfl
  · exact o0
  · exact o1
  · exact o2
  · exact o3
  · exact o4
  · exact o5
  · exact o6
  · exact o7
  · exact o8
  · exact o9
  · exact o10
  · exact o11
  · exact o12
  · exact o13
  · exact o14
  · exact o15
  · exact o16
  · exact o17
  · exact o18
  · exact o19
  · exact o20
  · exact o21
  · exact o22
  · exact o23
  · exact o24
  · exact o25
  · exact o26
  · exact o27
  · exact o28
  · exact o29
  · exact o30
  · exact o31
theorem tol : ∀ x s, L.told = some (x, s) → TolOk L x s := by
  intro x s e
  cases e
  exact ⟨⟨rfl, rfl, rfl, by decide +kernel, by decide +kernel, by decide +kernel, by decide +kernel⟩, fun _ _ _ _ _ _ us hl => match us, hl with | [_], _ => rfl, ⟨_, _, _, _, _, _, _, _, _, _, _, _, _, _, _, _, _, _, _, _, _, _, _, _, _, _, _, _, _, _, _, rfl, by decide +kernel, by decide +kernel, by decide +kernel, by decide +kernel, by decide +kernel, rfl, by decide +kernel, rfl, rfl, rfl, rfl, rfl⟩⟩
theorem tok : L.txt.Nodup ∧ (∀ x ∈ L.txt, PyData.canLay0 (.str x) = true ∧ x.length ≤ 1000) ∧ L.txt.headD "" = "" := by decide +kernel
end K62
end Ev
/-! Pv: the evaluator's rows as rules for simp; lemmas of pure comprehensions. -/
namespace Ev
section
variable (T : Top) (C : Calls) (n : Nat) (ρ : Ev)
@[simp] theorem v_non : evE T C .non n ρ = .ok (.d .non) ρ := rfl
@[simp] theorem v_bl (b : Bool) : evE T C (.bl b) n ρ = .ok (.d (.bl b)) ρ := rfl
@[simp] theorem v_int (i : Int) : evE T C (.int i) n ρ = .ok (.d (.int i)) ρ := rfl
@[simp] theorem v_str (k : Nat) : evE T C (.str k) n ρ = .ok (.d (.str k)) ρ := rfl
@[simp] theorem v_var (i : Nat) : evE T C (.var i) n ρ = varS i ρ := rfl
@[simp] theorem v_con (k : Nat) : evE T C (.con k) n ρ = okd T.con[k]? ρ := rfl
@[simp] theorem v_bin (op : Bop) (a b : E) : evE T C (.bin op a b) n ρ = (evE T C a n ρ).bind fun x ρ1 => (evE T C b n ρ1).bind fun y ρ2 => oko (bin op (rs ρ2 x) (rs ρ2 y)) ρ2 := rfl
@[simp] theorem v_neg (a : E) : evE T C (.neg a) n ρ = (evE T C a n ρ).bind fun x ρ1 => R.opt (optInt x) fun i => .ok (.d (.int (-i))) ρ1 := rfl
@[simp] theorem v_and (es : List E) : evE T C (.andL es) n ρ = evAO T C false es n ρ := rfl
@[simp] theorem v_or (es : List E) : evE T C (.orL es) n ρ = evAO T C true es n ρ := rfl
@[simp] theorem v_not (a : E) : evE T C (.not_ a) n ρ = (asT (evE T C a n ρ)).bind fun b ρ1 => .ok (.d (.bl (!b))) ρ1 := rfl
@[simp] theorem v_cmp (op : Cop) (a b : E) : evE T C (.cmp op a b) n ρ = (evE T C a n ρ).bind fun x ρ1 => (evE T C b n ρ1).bind fun y ρ2 => okb (cmp op (rs ρ2 x) (rs ρ2 y)) ρ2 := rfl
@[simp] theorem v_chain (o1 o2 : Cop) (a b c : E) : evE T C (.chain o1 o2 a b c) n ρ = (evE T C a n ρ).bind fun x ρ1 => (evE T C b n ρ1).bind fun y ρ2 => R.opt (cmp o1 (rs ρ2 x) (rs ρ2 y)) fun k =>
      if k = true then (evE T C c n ρ2).bind fun z ρ3 => okb (cmp o2 (rs ρ3 y) (rs ρ3 z)) ρ3 else .ok (.d (.bl false)) ρ2 := rfl
@[simp] theorem v_ite (c a b : E) : evE T C (.ite c a b) n ρ = ifB (asT (evE T C c n ρ)) (evE T C a n) (evE T C b n) := rfl
@[simp] theorem v_tup (es : List E) : evE T C (.tup es) n ρ = (evL T C es n ρ).bind fun os ρ1 => R.opt (keeps ρ1 os) fun p => .ok (.d (.tup p.1)) p.2 := rfl
@[simp] theorem v_lst (es : List E) : evE T C (.lst es) n ρ = (evL T C es n ρ).bind fun os ρ1 => R.opt (keeps ρ1 os) fun p => .ok (.L p.1) p.2 := rfl
@[simp] theorem v_ix (a i : E) : evE T C (.ix a i) n ρ = (evE T C a n ρ).bind fun x ρ1 => (evE T C i n ρ1).bind fun y ρ2 => okd (index (rs ρ2 x) (rs ρ2 y)) ρ2 := rfl
@[simp] theorem v_sl (a lo hi : E) : evE T C (.sl a lo hi) n ρ = (evE T C a n ρ).bind fun x ρ1 => (if isAbs lo = true then .ok none ρ1 else asI (evE T C lo n ρ1)).bind fun l ρ2 =>
      (if isAbs hi = true then .ok none ρ2 else asI (evE T C hi n ρ2)).bind fun h ρ3 => oko (slice (rs ρ3 x) l h) ρ3 := rfl
@[simp] theorem v_call (f : Nat) (es : List E) : evE T C (.call f es) n ρ = (evL T C es n ρ).bind fun os ρ1 => callF C n f os ρ1 := rfl
@[simp] theorem v_blt (b : Blt) (es : List E) : evE T C (.blt b es) n ρ = (evL T C es n ρ).bind fun os ρ1 => oko (blt b (os.map (rs ρ1))) ρ1 := rfl
@[simp] theorem v_isi (a : E) (t : Ty) : evE T C (.isi a t) n ρ = (evE T C a n ρ).bind fun x ρ1 => okb (isTy t (rs ρ1 x)) ρ1 := rfl
@[simp] theorem v_app (i : Nat) (e : E) : evE T C (.app i e) n ρ = if isL ρ i = true then (evE T C e n ρ).bind fun x ρ1 => R.opt (keep ρ1 x) fun p => appS i p.1 p.2 else .stuck := rfl
@[simp] theorem v_pop (i : Nat) : evE T C (.pop i) n ρ = popS i ρ := rfl
@[simp] theorem v_told (b : E) (m : Nat) : evE T C (.told b) (m + 2) ρ = toldS T C m (evE T C b m ρ) := rfl
@[simp] theorem v_comp (elt : E) (tg : Tg) (k : Ik) (es ifs : List E) (own : List Nat) : evE T C (.comp elt tg k es ifs own) n ρ = (iterF k (evL T C es n ρ)).bind fun p ρ1 => compEnd own ρ1 p.2 (walkL (compTurn own ρ1 p.2 tg (evTs T C ifs n) (evE T C elt n)) p.1 [] (wipe ρ1 own)) := rfl
@[simp] theorem v_lnil : evL T C [] n ρ = .ok [] ρ := rfl
@[simp] theorem v_lcons (e : E) (es : List E) : evL T C (e :: es) n ρ = (evE T C e n ρ).bind fun o ρ1 => (evL T C es n ρ1).bind fun os ρ2 => .ok (o :: os) ρ2 := rfl
@[simp] theorem v_tnil : evTs T C [] n ρ = .ok true ρ := rfl
@[simp] theorem v_tcons (e : E) (es : List E) : evTs T C (e :: es) n ρ = ifB (asT (evE T C e n ρ)) (evTs T C es n) (fun ρ1 => .ok false ρ1) := rfl
@[simp] theorem v_ao1 (stop : Bool) (e : E) : evAO T C stop [e] n ρ = evE T C e n ρ := rfl
@[simp] theorem v_ao2 (stop : Bool) (e e' : E) (es : List E) : evAO T C stop (e :: e' :: es) n ρ = onB stop (evE T C e n ρ) (evAO T C stop (e' :: es) n) := rfl
@[simp] theorem v_ex (e : E) : evS T C (.ex e) n ρ = (evE T C e n ρ).bind fun _ ρ1 => .ok .nx ρ1 := rfl
@[simp] theorem v_ret (e : E) : evS T C (.ret e) n ρ = (evE T C e n ρ).bind fun o ρ1 => .ok (.ret o) ρ1 := rfl
@[simp] theorem v_set (i : Nat) (e : E) : evS T C (.set i e) n ρ = (evE T C e n ρ).bind fun o ρ1 => nxt (assign ρ1 i o) := rfl
@[simp] theorem v_setT (ts : List Tg) (e : E) : evS T C (.setT ts e) n ρ = (evE T C e n ρ).bind fun o ρ1 => match o with
    | .d x => nxt (bindT (.tp ts) x ρ1)
    | _ => .stuck := rfl
@[simp] theorem v_par (is : List Nat) (es : List E) : evS T C (.par is es) n ρ = (evL T C es n ρ).bind fun os ρ1 => R.grd ((walked os).all fun k => !is.contains k) (nxt (assigns ρ1 is os)) := rfl
@[simp] theorem v_setIx (i : Nat) (k e : E) : evS T C (.setIx i k e) n ρ = (evE T C e n ρ).bind fun o ρ1 => R.opt (keep ρ1 o) fun p => R.grd (isL p.2 i) ((evE T C k n p.2).bind fun y ρ2 => nxt (setAt ρ2 i y p.1)) := rfl
@[simp] theorem v_if (c : E) (a b : List S) : evS T C (.ite c a b) n ρ = ifB (asT (evE T C c n ρ)) (evB T C a n) (evB T C b n) := rfl
@[simp] theorem v_for (tg : Tg) (k : Ik) (es : List E) (b : List S) : evS T C (.for_ tg k es b) n ρ = (iterF k (evL T C es n ρ)).bind fun p ρ1 => R.grd (p.2.all fun i => !(slots tg ++ setss b).contains i) (forL p.2 ρ1 tg (evB T C b n) p.1 ρ1) := rfl
@[simp] theorem v_while (c : E) (b : List S) : evS T C (.while_ c b) n ρ = whileL (fun ρ => asT (evE T C c n ρ)) (evB T C b n) big ρ := rfl
@[simp] theorem v_raise (c : Nat) : evS T C (.raise c) n ρ = .exc c ρ := rfl
@[simp] theorem v_bnil : evB T C [] n ρ = .ok .nx ρ := rfl
@[simp] theorem v_bcons (s : S) (ss : List S) : evB T C (s :: ss) n ρ = (evS T C s n ρ).bind fun fl ρ1 => match fl with
    | .nx => evB T C ss n ρ1
    | fl => .ok fl ρ1 := rfl
end
section
variable (ρ : Ev)
@[simp] theorem ifB_t {α : Type} (f g : Ev → R α) : ifB (.ok true ρ) f g = f ρ := rfl
@[simp] theorem ifB_f {α : Type} (f g : Ev → R α) : ifB (.ok false ρ) f g = g ρ := rfl
theorem ifB_b {α : Type} (b : Bool) (f g : Ev → R α) : ifB (.ok b ρ) f g = if b = true then f ρ else g ρ := rfl
@[simp] theorem ifB_exc {α : Type} (c : Nat) (f g : Ev → R α) : ifB (.exc c ρ) f g = .exc c ρ := rfl
@[simp] theorem asT_d (x : D) : asT (.ok (.d x) ρ) = R.opt (truth (.d x)) fun b => .ok b ρ := rfl
@[simp] theorem asT_L (x : List D) : asT (.ok (.L x) ρ) = .ok (!x.isEmpty) ρ := rfl
@[simp] theorem asT_exc (c : Nat) : asT (.exc c ρ) = .exc c ρ := rfl
@[simp] theorem asI_d (i : Int) : asI (.ok (.d (.int i)) ρ) = .ok (some i) ρ := rfl
@[simp] theorem asI_exc (c : Nat) : asI (.exc c ρ) = .exc c ρ := rfl
@[simp] theorem onB_b (s b : Bool) (f : Ev → R O) : onB s (.ok (.d (.bl b)) ρ) f = if b = s then .ok (.d (.bl b)) ρ else f ρ := rfl
@[simp] theorem onB_exc (s : Bool) (c : Nat) (f : Ev → R O) : onB s (.exc c ρ) f = .exc c ρ := rfl
@[simp] theorem truth_bl (b : Bool) : truth (.d (.bl b)) = some b := rfl
@[simp] theorem rs_d (x : D) : rs ρ (.d x) = .d x := rfl
@[simp] theorem rs_L (x : List D) : rs ρ (.L x) = .L x := rfl
@[simp] theorem okb_some (b : Bool) : okb (some b) ρ = .ok (.d (.bl b)) ρ := rfl
@[simp] theorem oko_some (o : O) : oko (some o) ρ = .ok o ρ := rfl
@[simp] theorem okd_some (x : D) : okd (some x) ρ = .ok (.d x) ρ := rfl
@[simp] theorem keep_d (x : D) : keep ρ (.d x) = some (x, ρ) := rfl
@[simp] theorem keep_L (x : List D) : keep ρ (.L x) = some (.lst x, ρ) := rfl
@[simp] theorem keeps_nil : keeps ρ [] = some ([], ρ) := rfl
@[simp] theorem keeps_d (x : D) (os : List O) : keeps ρ (.d x :: os) = (keeps ρ os).map fun p => (x :: p.1, p.2) := by
  show (match keeps ρ os with | none => none | some (xs, ρ2) => some (x :: xs, ρ2)) = _
  cases keeps ρ os <;> rfl
@[simp] theorem keeps_L (x : List D) (os : List O) : keeps ρ (.L x :: os) = (keeps ρ os).map fun p => (.lst x :: p.1, p.2) := by
  show (match keeps ρ os with | none => none | some (xs, ρ2) => some (D.lst x :: xs, ρ2)) = _
  cases keeps ρ os <;> rfl
@[simp] theorem assign_d (i : Nat) (x : D) : assign ρ i (.d x) = store ρ i (.d x) := rfl
@[simp] theorem assign_L (i : Nat) (x : List D) : assign ρ i (.L x) = store ρ i (.L false x) := rfl
@[simp] theorem walked_nil : walked [] = [] := rfl
@[simp] theorem walked_d (x : D) (os : List O) : walked (.d x :: os) = walked os := rfl
@[simp] theorem walked_L (x : List D) (os : List O) : walked (.L x :: os) = walked os := rfl
@[simp] theorem walked_bor (i : Nat) (os : List O) : walked (.bor i :: os) = i :: walked os := rfl
@[simp] theorem give_d (x : D) : give ρ (.d x) = some (.d x, ρ) := rfl
@[simp] theorem give_L (x : List D) : give ρ (.L x) = some (.L x, ρ) := rfl
@[simp] theorem cmp_lt_i (i j : Int) : cmp .lt (.d (.int i)) (.d (.int j)) = some (decide (i < j)) := rfl
@[simp] theorem cmp_le_i (i j : Int) : cmp .le (.d (.int i)) (.d (.int j)) = some (decide (i ≤ j)) := rfl
@[simp] theorem cmp_gt_i (i j : Int) : cmp .gt (.d (.int i)) (.d (.int j)) = some (decide (j < i)) := rfl
@[simp] theorem cmp_ge_i (i j : Int) : cmp .ge (.d (.int i)) (.d (.int j)) = some (decide (j ≤ i)) := rfl
theorem lim_int (i : Int) (n : Nat) : lim (.int i) n = true := by cases n <;> simp [lim]
theorem lim_bl (i : Bool) (n : Nat) : lim (.bl i) n = true := by cases n <;> simp [lim]
theorem lim_str (i : Nat) (n : Nat) : lim (.str i) n = true := by cases n <;> simp [lim]
theorem lim_non (n : Nat) : lim .non n = true := by cases n <;> simp [lim]
@[simp] theorem same_ii (i j : Int) : same (.int i) (.int j) = some (i == j) := by simp [same, lim_int, eqb]
@[simp] theorem same_ss (i j : Nat) : same (.str i) (.str j) = some (i == j) := by simp [same, lim_str, eqb]
@[simp] theorem same_bb (i j : Bool) : same (.bl i) (.bl j) = some (i == j) := by simp [same, lim_bl, eqb]
@[simp] theorem cmp_eq_d (x y : D) : cmp .eq (.d x) (.d y) = same x y := rfl
@[simp] theorem cmp_ne_d (x y : D) : cmp .ne (.d x) (.d y) = (same x y).map (!·) := rfl
@[simp] theorem cmp_is_non (x : D) : cmp .is_ (.d x) (.d .non) = some (isNon x) := rfl
@[simp] theorem cmp_isnot_non (x : D) : cmp .isnot (.d x) (.d .non) = some (!isNon x) := rfl
@[simp] theorem cmp_is_bl (x : D) (c : Bool) : cmp .is_ (.d x) (.d (.bl c)) = some (isBl c x) := rfl
@[simp] theorem bin_add_i (i j : Int) : bin .add (.d (.int i)) (.d (.int j)) = some (.d (.int (i + j))) := rfl
@[simp] theorem bin_sub_i (i j : Int) : bin .sub (.d (.int i)) (.d (.int j)) = some (.d (.int (i - j))) := rfl
@[simp] theorem bin_mod_i (i j : Int) (h : 0 < j) : bin .mod (.d (.int i)) (.d (.int j)) = some (.d (.int (i % j))) := by simp [bin, modO, h]
@[simp] theorem bin_fdiv_i (i j : Int) (h : 0 < j) (h2 : j < 1073741824) : bin .fdiv (.d (.int i)) (.d (.int j)) = some (.d (.int (i / j))) := by simp [bin, fdivO, h, h2]
@[simp] theorem bin_mul_i (i j : Int) (h : (sml i || sml j) = true) : bin .mul (.d (.int i)) (.d (.int j)) = some (.d (.int (i * j))) := by simp [bin, mulO, h]
@[simp] theorem calm_ok {α : Type} (a : α) : (R.ok a ρ).calm = .ok a ρ := rfl
@[simp] theorem len_tup (xs : List D) : blt .len [.d (.tup xs)] = some (.d (.int xs.length)) := rfl
@[simp] theorem len_lst (xs : List D) : blt .len [.d (.lst xs)] = some (.d (.int xs.length)) := rfl
@[simp] theorem len_L (xs : List D) : blt .len [.L xs] = some (.d (.int xs.length)) := rfl
@[simp] theorem tuple_L (xs : List D) : blt .tuple [.L xs] = some (.d (.tup xs)) := rfl
@[simp] theorem tuple_tup (xs : List D) : blt .tuple [.d (.tup xs)] = some (.d (.tup xs)) := rfl
@[simp] theorem index_tup (xs : List D) (i : Int) : index (.d (.tup xs)) (.d (.int i)) = at_ xs i := rfl
@[simp] theorem index_lst (xs : List D) (i : Int) : index (.d (.lst xs)) (.d (.int i)) = at_ xs i := rfl
@[simp] theorem index_L (xs : List D) (i : Int) : index (.L xs) (.d (.int i)) = at_ xs i := rfl
@[simp] theorem at_nat (xs : List D) (i : Nat) : at_ xs (i : Int) = xs[i]? := by
  unfold at_ place
  rw [if_pos (by omega)]
  split
  · simp
  · next h => simp; omega
@[simp] theorem at_0 (xs : List D) : at_ xs 0 = xs[0]? := at_nat xs 0
@[simp] theorem at_1 (xs : List D) : at_ xs 1 = xs[1]? := at_nat xs 1
@[simp] theorem at_2 (xs : List D) : at_ xs 2 = xs[2]? := at_nat xs 2
@[simp] theorem isTy_d (t : Ty) (x : D) : isTy t (.d x) = some (match x, t with
    | .bl _, .int => true | .bl _, .bool => true | .int _, .int => true | .str _, .str => true | .tup _, .tuple => true | .lst _, .list => true | _, _ => false) := rfl
end
/-- a call with data alone -/
def arg (x : D) : Option W := some (.d x)
theorem handL_d (ρ : Ev) (xs : List D) : handL ρ (xs.map O.d) = some (xs.map arg) := by
  induction xs with
  | nil => rfl
  | cons x xs ih =>
    show ((handL ρ (xs.map O.d)).map (some (W.d x) :: ·)) = _
    rw [ih]; rfl
theorem walked_ds (xs : List D) : walked (xs.map O.d) = [] := by
  induction xs with
  | nil => rfl
  | cons x xs ih => exact ih
theorem handB_d (ρ : Ev) (xs : List D) : ∀ r : Ev, r.length = xs.length → handB ρ (xs.map O.d) r = some ρ := by
  induction xs with
  | nil => intro r h; cases r <;> rfl
  | cons x xs ih =>
    intro r h
    cases r with
    | nil => cases h
    | cons a r => exact ih r (by simpa using h)
/-- a call by data: what the def hands back, the slots untouched -/
theorem callF_d (T : Top) (ds : List Def) (m f : Nat) (xs : List D) (ρ : Ev) (y : D) (r : Ev) (h : call T ds m f (xs.map arg) = .ok (.d y) r) (hr : r.length = xs.length) :
    callF (calls T ds m) m f (xs.map O.d) ρ = .ok (.d y) ρ := by
  unfold callF
  rw [walked_ds, handL_d]
  show (match (call T ds m f (xs.map arg) : R O) with
    | .ok o ρ1 => if isBor o = true then R.stuck else R.opt (handB ρ (xs.map O.d) ρ1) fun ρ2 => .ok o ρ2
    | .exc c ρ1 => R.opt (handB ρ (xs.map O.d) ρ1) fun ρ2 => .exc c ρ2
    | .stuck => R.stuck) = _
  rw [h]
  simp [isBor, handB_d ρ xs r hr]
theorem outs_d (xs : List D) : ∀ ρ : Ev, xs.length ≤ ρ.length → outs xs.length (xs.map arg) ρ = some (List.replicate xs.length none) := by
  induction xs with
  | nil => intro ρ h; cases ρ <;> rfl
  | cons x xs ih =>
    intro ρ h
    cases ρ with
    | nil => cases h
    | cons a r =>
      show ((outs xs.length (xs.map arg) r).map ((none : Option W) :: ·)) = _
      rw [ih r (by simpa using h)]; rfl
end Ev
/-! Pw: how a def's run is told from its body's, by data. -/
namespace Ev
@[simp] theorem optInt_i (i : Int) : optInt (.d (.int i)) = some i := rfl
@[simp] theorem nxt_ok (ρ : Ev) : nxt (some ρ) = .ok .nx ρ := rfl
@[simp] theorem whileL_s (t : Ev → R Bool) (b : Ev → R Fl) (m : Nat) (ρ : Ev) : whileL t b (m + 1) ρ = ifB (t ρ) (fun ρ1 => (b ρ1).bind fun fl ρ2 => match fl with
      | .nx => whileL t b m ρ2
      | .cont => whileL t b m ρ2
      | .brk => .ok .nx ρ2
      | .ret o => .ok (.ret o) ρ2) (fun ρ1 => .ok .nx ρ1) := rfl
/-- what a body's run hands back -/
def fin (k : Nat) : R Fl → Option O
  | .ok (.ret (.d y)) ρ => if k ≤ ρ.length then some (.d y) else none
  | .ok (.ret (.L y)) ρ => if k ≤ ρ.length then some (.L y) else none
  | .ok .nx ρ => if k ≤ ρ.length then some (.d .non) else none
  | _ => none
@[simp] theorem fin_d (k : Nat) (y : D) (ρ : Ev) : fin k (.ok (.ret (.d y)) ρ) = if k ≤ ρ.length then some (.d y) else none := rfl
@[simp] theorem fin_L (k : Nat) (y : List D) (ρ : Ev) : fin k (.ok (.ret (.L y)) ρ) = if k ≤ ρ.length then some (.L y) else none := rfl
@[simp] theorem fin_nx (k : Nat) (ρ : Ev) : fin k (.ok .nx ρ) = if k ≤ ρ.length then some (.d .non) else none := rfl
theorem runD_fin (T : Top) (C : Calls) (d : Def) (n : Nat) (xs : List D) (o : O) (hl : xs.length = d.np) (h : fin xs.length (evB T C d.body n (xs.map arg ++ List.replicate d.nl none)) = some o) :
    runD T C d n (xs.map arg) = .ok o (List.replicate xs.length none) ∧ isBor o = false := by
  unfold runD
  rw [if_pos (by simpa using hl)]
  cases hb : evB T C d.body n (xs.map arg ++ List.replicate d.nl none) with
  | stuck => rw [hb] at h; cases h
  | exc c ρ => rw [hb] at h; cases h
  | ok fl ρ =>
    rw [hb] at h
    cases fl with
    | brk => cases h
    | cont => cases h
    | nx =>
      rw [fin_nx] at h
      split at h
      · next hk =>
        cases h
        simp [outs_d xs ρ hk, isBor]
      · cases h
    | ret r =>
      cases r with
      | bor i => cases h
      | M t kv => cases h
      | d y =>
        rw [fin_d] at h
        split at h
        · next hk =>
          cases h
          simp [outs_d xs ρ hk, isBor]
        · cases h
      | L y =>
        rw [fin_L] at h
        split at h
        · next hk =>
          cases h
          simp [outs_d xs ρ hk, isBor]
        · cases h
/-- a call by data, from its body's run -/
theorem callF_fin (T : Top) (ds : List Def) (m f : Nat) (d : Def) (hd : ds[f]? = some d) (xs : List D) (ρ : Ev) (o : O) (hl : xs.length = d.np) (h : fin xs.length (evB T (calls T ds m) d.body m (xs.map arg ++ List.replicate d.nl none)) = some o) :
    callF (calls T ds (m + 1)) (m + 1) f (xs.map O.d) ρ = .ok o ρ := by
  obtain ⟨h1, h2⟩ := runD_fin T (calls T ds m) d m xs o hl h
  unfold callF
  rw [walked_ds, handL_d]
  have e : calls T ds (m + 1) (m + 1) f (xs.map arg) = .ok o (List.replicate xs.length none) := by
    show call T ds (m + 1) f (xs.map arg) = _
    rw [call_succ, hd]
    exact h1
  simp only [onceEach, if_true, R.opt_some]
  rw [e]
  simp [h2, handB_d]
/-- a call by data that raises -/
def exB (k : Nat) : R Fl → Option Nat
  | .exc c ρ => if k ≤ ρ.length then some c else none
  | _ => none
@[simp] theorem exB_exc (k c : Nat) (ρ : Ev) : exB k (.exc c ρ) = if k ≤ ρ.length then some c else none := rfl
/-- walks of comprehensions that leave the slots: each turn by itself -/
theorem walkL_map (turn : D → List D → Ev → R (List D)) (ρ : Ev) (f : D → List D) : ∀ (xs acc : List D), (∀ x ∈ xs, ∀ acc : List D, acc.length ≤ (acc.length + (xs.length - 1)) → turn x acc ρ = .ok (acc ++ f x) ρ) → walkL turn xs acc ρ = .ok (acc ++ xs.flatMap f) ρ
  | [], acc, _ => by simp [walkL]
  | x :: xs, acc, h => by
    show (turn x acc ρ).bind (walkL turn xs) = _
    rw [h x (by simp) acc (by simp)]
    show walkL turn xs (acc ++ f x) ρ = _
    rw [walkL_map turn ρ f xs (acc ++ f x) (fun y hy a ha => h y (List.mem_cons_of_mem _ hy) a (by simp))]
    simp
/-- a one-clause comprehension over data: what it holds -/
theorem comp_pure (own : List Nat) (ρ1 : Ev) (tg : Tg) (tests : Ev → R Bool) (elt : Ev → R O) (xs : List D) (f : D → List D)
    (hb : back ρ1 (wipe ρ1 own) own = ρ1) (hc : xs.length ≤ cap)
    (h : ∀ x ∈ xs, ∃ ρ2, bindT tg x (wipe ρ1 own) = some ρ2 ∧ wipe ρ2 own = wipe ρ1 own ∧ ((tests ρ2 = .ok false ρ2 ∧ f x = []) ∨ (tests ρ2 = .ok true ρ2 ∧ ∃ y, elt ρ2 = .ok (.d y) ρ2 ∧ f x = [y]))) :
    compEnd own ρ1 [] (walkL (compTurn own ρ1 [] tg tests elt) xs [] (wipe ρ1 own)) = .ok (.L (xs.flatMap f)) ρ1 := by
  have hl : ∀ (ys acc : List D), (∀ x ∈ ys, x ∈ xs) → acc.length + ys.length ≤ cap → walkL (compTurn own ρ1 [] tg tests elt) ys acc (wipe ρ1 own) = .ok (acc ++ ys.flatMap f) (wipe ρ1 own) := by
    intro ys
    induction ys with
    | nil => intro acc _ _; simp [walkL]
    | cons x ys ih =>
      intro acc hm hcap
      obtain ⟨ρ2, e1, e2, e3⟩ := h x (hm x (by simp))
      show (compTurn own ρ1 [] tg tests elt x acc (wipe ρ1 own)).bind (walkL _ ys) = _
      have hcap' : acc.length + (ys.length + 1) ≤ cap := by simpa using hcap
      have ht : compTurn own ρ1 [] tg tests elt x acc (wipe ρ1 own) = .ok (acc ++ f x) (wipe ρ1 own) := by
        have hlt : acc.length < cap := by omega
        unfold compTurn
        rcases e3 with ⟨t, fx⟩ | ⟨t, y, ey, fx⟩
        · simp [stands, e1, t, fx, e2]
        · simp only [stands, if_true, e1, R.opt_some, t, ifB_t, ey, R.bind_ok, keep_d, hlt, e2, fx]
      rw [ht]
      show walkL (compTurn own ρ1 [] tg tests elt) ys (acc ++ f x) (wipe ρ1 own) = _
      have hf : (f x).length ≤ 1 := by
        rcases e3 with ⟨t, fx⟩ | ⟨t, y, ey, fx⟩ <;> simp [fx]
      rw [ih (acc ++ f x) (fun z hz => hm z (List.mem_cons_of_mem _ hz)) (by simp; omega)]
      simp
  unfold compEnd
  rw [hl xs [] (fun x h => h) (by simpa using hc)]
  simp [stands, hb]
/-- all of them true -/
theorem bols_map (xs : List D) (p : D → Bool) : bolsOf (xs.flatMap fun x => [D.bl (p x)]) = some (xs.map p) := by
  induction xs with
  | nil => rfl
  | cons x xs ih =>
    show (bolsOf (xs.flatMap fun x => [D.bl (p x)])).map (p x :: ·) = _
    rw [ih]; rfl
theorem all_comp (xs : List D) (p : D → Bool) : blt .all [.L (xs.flatMap fun x => [D.bl (p x)])] = some (.d (.bl (xs.all p))) := by
  show ((itemsL (.L (xs.flatMap fun x => [D.bl (p x)]))).bind fun xs => (bolsOf xs).map fun bs => O.d (.bl (bs.all id))) = _
  show ((bolsOf (xs.flatMap fun x => [D.bl (p x)])).map fun bs => O.d (.bl (bs.all id))) = _
  rw [bols_map]
  simp [List.all_map]
theorem any_comp (xs : List D) (p : D → Bool) : blt .any [.L (xs.flatMap fun x => [D.bl (p x)])] = some (.d (.bl (xs.any p))) := by
  show ((bolsOf (xs.flatMap fun x => [D.bl (p x)])).map fun bs => O.d (.bl (bs.any id))) = _
  rw [bols_map]
  simp [List.any_map]
end Ev
/-! P62a: the defs of k62, each by what it computes (1). -/
namespace Ev.K62
abbrev cf (m f : Nat) (os : List O) (ρ : Ev) : R O := callF (calls L.T L.ds m) m f os ρ
theorem con0 : L.T.con[0]? = some (.int 64) := rfl
theorem con4 : L.T.con[4]? = some (.int 60) := rfl
theorem con5 : L.T.con[5]? = some (.int 900) := rfl
theorem con6 : L.T.con[6]? = some (.int 3000) := rfl
theorem con1 : L.T.con[1]? = some (.int 400) := rfl
theorem con2 : L.T.con[2]? = some (.int 12) := rfl
theorem con3 : L.T.con[3]? = some (.int 1000) := rfl
theorem cf_fin {m f : Nat} (hm : 1 ≤ m) (d : Def) (hd : L.ds[f]? = some d) (xs : List D) (ρ : Ev) (o : O) (hl : xs.length = d.np)
    (h : ∀ k, m = k + 1 → fin xs.length (evB L.T (calls L.T L.ds k) d.body k (xs.map arg ++ List.replicate d.nl none)) = some o) : cf m f (xs.map O.d) ρ = .ok o ρ := by
  obtain ⟨k, rfl⟩ : ∃ k, m = k + 1 := ⟨m - 1, by omega⟩
  exact callF_fin L.T L.ds k f d hd xs ρ o hl (h k rfl)
def isI : D → Bool
  | .int _ => true
  | _ => false
/-- is_integer -/
theorem s0 {m : Nat} (hm : 1 ≤ m) (x : D) (ρ : Ev) : cf m 0 [.d x] ρ = .ok (.d (.bl (isI x))) ρ := by
  refine cf_fin hm d0 rfl [x] ρ _ rfl fun k hk => ?_
  cases x <;> simp [d0, arg, varS, isI]
/-- is_below -/
theorem s1 {m : Nat} (hm : 2 ≤ m) (i j : Int) (ρ : Ev) : cf m 1 [.d (.int i), .d (.int j)] ρ = .ok (.d (.bl (decide (0 ≤ i) && decide (i < j)))) ρ := by
  refine cf_fin (by omega) d1 rfl [.int i, .int j] ρ _ rfl fun k hk => ?_
  have e := s0 (m := k) (by omega) (.int i)
  unfold cf at e
  simp [d1, arg, varS, e, isI]
  by_cases h : 0 ≤ i <;> simp [h]
/-- is_between -/
theorem s2 {m : Nat} (hm : 2 ≤ m) (i lo hi : Int) (ρ : Ev) : cf m 2 [.d (.int i), .d (.int lo), .d (.int hi)] ρ = .ok (.d (.bl (decide (lo ≤ i) && decide (i ≤ hi)))) ρ := by
  refine cf_fin (by omega) d2 rfl [.int i, .int lo, .int hi] ρ _ rfl fun k hk => ?_
  have e := s0 (m := k) (by omega) (.int i)
  unfold cf at e
  simp [d2, arg, varS, e, isI]
  by_cases h : lo ≤ i <;> simp [h]
/-- the greatest power of two below n, by doubling -/
def grow : Nat → Nat → Nat → Nat
  | 0, p, _ => p
  | f + 1, p, n => if 2 * p < n then grow f (2 * p) n else p
theorem sml_nat (i : Nat) (h : i ≤ 1000000) : sml (i : Int) = true := by
  simp [sml]; omega
theorem grow_while (C : Calls) (lv : Nat) (n : Nat) (a : D) : ∀ (g p k : Nat), n ≤ p * 2 ^ g → n ≤ 1000 → g + 1 ≤ k →
    whileL (fun ρ => asT (evE L.T C (.cmp .lt (.bin .mul (.int 2) (.var 1)) (.var 0)) lv ρ)) (evB L.T C [.set 1 (.bin .mul (.int 2) (.var 1))] lv) k [some (.d (.int n)), some (.d (.int p))] = .ok .nx [some (.d (.int n)), some (.d (.int (grow g p n : Nat)))]
  | 0, p, k, h, _, hk => by
    obtain ⟨k, rfl⟩ : ∃ j, k = j + 1 := ⟨k - 1, by omega⟩
    have e : ¬ ((2 : Int) * p < n) := by omega
    have s : sml 2 = true := by decide
    simp [varS, grow, s, e]
  | g + 1, p, k, h, hn, hk => by
    obtain ⟨k, rfl⟩ : ∃ j, k = j + 1 := ⟨k - 1, by omega⟩
    have s : sml 2 = true := by decide
    by_cases c : 2 * p < n
    · have e : ((2 : Int) * p < n) := by omega
      have ih := grow_while C lv n a g (2 * p) k (by rw [Nat.pow_succ] at h; rw [Nat.mul_comm 2 p, Nat.mul_assoc, Nat.mul_comm 2]; exact h) hn (by omega)
      simp [varS, grow, s, e, c, store, free] at ih ⊢
      exact ih
    · have e : ¬ ((2 : Int) * p < n) := by omega
      simp [varS, grow, s, e, c]
/-- split -/
theorem s4 {m : Nat} (hm : 1 ≤ m) (n : Nat) (hn : n ≤ 64) (ρ : Ev) : cf m 4 [.d (.int n)] ρ = .ok (.d (.int (grow 6 1 n : Nat))) ρ := by
  refine cf_fin hm d4 rfl [.int n] ρ _ rfl fun k hk => ?_
  have e := grow_while (calls L.T L.ds k) k n .non 6 1 big (by omega) (by omega) (by decide)
  simp only [d4, v_bcons, v_set, v_int, R.bind_ok, v_while]
  simp [arg, varS, store, free] at e ⊢
  simp [e, varS]
end Ev.K62
/-! P62b: sealed terms, proofs, leaves. -/
namespace Ev.K62
inductive Tm where
  | leaf (i : Int) | join (a b : Tm)
deriving DecidableEq, Inhabited
def Tm.d : Tm → D
  | .leaf i => .tup [.str 3, .int i]
  | .join a b => .tup [.str 4, a.d, b.d]
def Tm.lv : Tm → List Int
  | .leaf i => [i]
  | .join a b => a.lv ++ b.lv
def Tm.sz : Tm → Nat
  | .leaf _ => 1
  | .join a b => a.sz + b.sz + 1
/-- the term over the numbers -/
def sealT : Nat → List Int → Tm
  | 0, _ => .leaf 0
  | f + 1, xs => if xs.length = 1 then .leaf (xs.headD 0) else .join (sealT f (xs.take (grow 6 1 xs.length))) (sealT f (xs.drop (grow 6 1 xs.length)))
abbrev dI (xs : List Int) : D := .tup (xs.map D.int)
theorem grow_ok : ∀ n, n < 65 → 2 ≤ n → grow 6 1 n < n ∧ n ≤ 2 * grow 6 1 n ∧ 1 ≤ grow 6 1 n := by decide
theorem grow_pow : ∀ f, f < 7 → ∀ n, n < 65 → 2 ≤ n → n ≤ 2 ^ (f + 1) → grow 6 1 n ≤ 2 ^ f := by decide
theorem slice_take (xs : List D) (c : Nat) (h : c ≤ xs.length) : slice (.d (.tup xs)) none (some (c : Int)) = some (.d (.tup (xs.take c))) := by
  have e : ¬ ((c : Int) < 0) := by omega
  simp [slice, cut, sIx, e, Nat.min_eq_left h]
theorem slice_drop (xs : List D) (c : Nat) (h : c ≤ xs.length) : slice (.d (.tup xs)) (some (c : Int)) none = some (.d (.tup (xs.drop c))) := by
  simp [slice, cut, sIx]
  rw [if_neg (by omega), Nat.min_eq_left h, List.take_of_length_le (by simp)]
/-- sealed_of -/
theorem s5 : ∀ (f : Nat) {m : Nat} (hm : f + 2 ≤ m) (hf : f < 7) (xs : List Int) (h1 : 1 ≤ xs.length) (h : xs.length ≤ 2 ^ f) (h64 : xs.length ≤ 64) (ρ : Ev),
    cf m 5 [.d (dI xs)] ρ = .ok (.d (sealT (f + 1) xs).d) ρ
  | f, m, hm, hf, xs, h1, h, h64, ρ => by
    refine cf_fin (by omega) d5 rfl [dI xs] ρ _ rfl fun k hk => ?_
    by_cases e : xs.length = 1
    · obtain ⟨x, rfl⟩ := List.length_eq_one_iff.mp e
      simp [d5, arg, varS, dI, sealT, Tm.d, ifB_b]
    · have ei : ¬ ((xs.length : Int) = 1) := by omega
      cases f with
      | zero => omega
      | succ f =>
        obtain ⟨g1, g2, g3⟩ := grow_ok xs.length (by omega) (by omega)
        have g4 := grow_pow f (by omega) xs.length (by omega) (by omega) h
        have e4 := s4 (m := k) (by omega) xs.length h64
        have ea := s5 f (m := k) (by omega) (by omega) (xs.take (grow 6 1 xs.length)) (by simp; omega) (by simp; omega) (by simp; omega)
        have eb := s5 f (m := k) (by omega) (by omega) (xs.drop (grow 6 1 xs.length)) (by simp; omega) (by simp; omega) (by simp; omega)
        unfold cf at e4 ea eb
        have sa := slice_take (xs.map D.int) (grow 6 1 xs.length) (by simp; omega)
        have sb := slice_drop (xs.map D.int) (grow 6 1 xs.length) (by simp; omega)
        simp only [dI, List.map_take, List.map_drop] at ea eb
        simp [d5, arg, varS, dI, e, ei, e4, store, free, isAbs, sa, sb, ea, eb, ifB_b]
        show _ = (if xs.length = 1 then Tm.leaf (xs.headD 0) else Tm.join (sealT (f + 1) (xs.take (grow 6 1 xs.length))) (sealT (f + 1) (xs.drop (grow 6 1 xs.length)))).d
        rw [if_neg e]
        rfl
end Ev.K62
/-! P62c: sl, proofs, leaves_of. -/
namespace Ev.K62
theorem sealT_s (f : Nat) (xs : List Int) : sealT (f + 1) xs = if xs.length = 1 then Tm.leaf (xs.headD 0) else Tm.join (sealT f (xs.take (grow 6 1 xs.length))) (sealT f (xs.drop (grow 6 1 xs.length))) := rfl
theorem sealT_eq : ∀ (f g : Nat) (xs : List Int), f < 7 → g < 7 → 1 ≤ xs.length → xs.length ≤ 64 → xs.length ≤ 2 ^ f → xs.length ≤ 2 ^ g → sealT (f + 1) xs = sealT (g + 1) xs
  | f, g, xs, hf, hg, h1, h64, lf, lg => by
    by_cases e : xs.length = 1
    · rw [sealT_s, sealT_s, if_pos e, if_pos e]
    · cases f with
      | zero => omega
      | succ f =>
        cases g with
        | zero => omega
        | succ g =>
          obtain ⟨g1, g2, g3⟩ := grow_ok xs.length (by omega) (by omega)
          have a := grow_pow f (by omega) xs.length (by omega) (by omega) lf
          have b := grow_pow g (by omega) xs.length (by omega) (by omega) lg
          rw [sealT_s (f + 1) xs, sealT_s (g + 1) xs, if_neg e, if_neg e,
            sealT_eq f g (xs.take (grow 6 1 xs.length)) (by omega) (by omega) (by simp; omega) (by simp; omega) (by simp; omega) (by simp; omega),
            sealT_eq f g (xs.drop (grow 6 1 xs.length)) (by omega) (by omega) (by simp; omega) (by simp; omega) (by simp; omega) (by simp; omega)]
def sl (xs : List Int) : Tm := sealT 7 xs
theorem sealT_sl {f : Nat} {xs : List Int} (hf : f < 7) (h1 : 1 ≤ xs.length) (h64 : xs.length ≤ 64) (h : xs.length ≤ 2 ^ f) : sealT (f + 1) xs = sl xs :=
  sealT_eq f 6 xs hf (by omega) h1 h64 h h64
theorem sl_1 (x : Int) : sl [x] = .leaf x := rfl
theorem sl_j {xs : List Int} (h2 : 2 ≤ xs.length) (h64 : xs.length ≤ 64) : sl xs = .join (sl (xs.take (grow 6 1 xs.length))) (sl (xs.drop (grow 6 1 xs.length))) := by
  obtain ⟨g1, g2, g3⟩ := grow_ok xs.length (by omega) (by omega)
  have a := grow_pow 5 (by omega) xs.length (by omega) (by omega) h64
  show sealT 7 xs = _
  rw [sealT_s, if_neg (by omega), sealT_sl (f := 5) (by omega) (by simp; omega) (by simp; omega) (by simp; omega), sealT_sl (f := 5) (by omega) (by simp; omega) (by simp; omega) (by simp; omega)]
theorem lv_sl : ∀ (k : Nat) (xs : List Int), xs.length ≤ k → 1 ≤ xs.length → xs.length ≤ 64 → (sl xs).lv = xs
  | 0, xs, h, h1, _ => by omega
  | k + 1, xs, h, h1, h64 => by
    by_cases e : xs.length = 1
    · obtain ⟨x, rfl⟩ := List.length_eq_one_iff.mp e
      rfl
    · obtain ⟨g1, g2, g3⟩ := grow_ok xs.length (by omega) (by omega)
      rw [sl_j (by omega) h64, Tm.lv, lv_sl k _ (by simp; omega) (by simp; omega) (by simp; omega), lv_sl k _ (by simp; omega) (by simp; omega) (by simp; omega), List.take_append_drop]
theorem s5' {f m : Nat} (hm : f + 2 ≤ m) (hf : f < 7) (xs : List Int) (h1 : 1 ≤ xs.length) (h : xs.length ≤ 2 ^ f) (h64 : xs.length ≤ 64) (ρ : Ev) : cf m 5 [.d (dI xs)] ρ = .ok (.d (sl xs).d) ρ := by
  rw [s5 f hm hf xs h1 h h64 ρ, sealT_sl hf h1 h64 h]
/-- the proof of place i -/
def prf : Nat → List Int → Nat → List Tm
  | 0, _, _ => []
  | f + 1, xs, i => if xs.length = 1 then [] else if i < grow 6 1 xs.length then prf f (xs.take (grow 6 1 xs.length)) i ++ [sl (xs.drop (grow 6 1 xs.length))] else prf f (xs.drop (grow 6 1 xs.length)) (i - grow 6 1 xs.length) ++ [sl (xs.take (grow 6 1 xs.length))]
abbrev dT (ts : List Tm) : D := .tup (ts.map Tm.d)
theorem prf_len : ∀ (f : Nat) (xs : List Int) (i : Nat), (prf f xs i).length ≤ f
  | 0, _, _ => by simp [prf]
  | f + 1, xs, i => by
    unfold prf
    split
    · simp
    · split
      · simp; exact prf_len f _ _
      · simp; exact prf_len f _ _
theorem add_tup (xs ys : List D) (h : xs.length + ys.length ≤ cap) : bin .add (.d (.tup xs)) (.d (.tup ys)) = some (.d (.tup (xs ++ ys))) := by
  simp [bin, addO, h]
/-- proof_of -/
theorem s6 : ∀ (f : Nat) {m : Nat} (hm : f + 3 ≤ m) (hf : f < 7) (xs : List Int) (h1 : 1 ≤ xs.length) (h : xs.length ≤ 2 ^ f) (h64 : xs.length ≤ 64) (i : Nat) (hi : i < xs.length) (ρ : Ev),
    cf m 6 [.d (dI xs), .d (.int i)] ρ = .ok (.d (dT (prf (f + 1) xs i))) ρ
  | f, m, hm, hf, xs, h1, h, h64, i, hi, ρ => by
    refine cf_fin (by omega) d6 rfl [dI xs, .int i] ρ _ rfl fun k hk => ?_
    by_cases e : xs.length = 1
    · obtain ⟨x, rfl⟩ := List.length_eq_one_iff.mp e
      simp [d6, arg, varS, dI, prf, ifB_b]
    · have ei : ¬ ((xs.length : Int) = 1) := by omega
      cases f with
      | zero => omega
      | succ f =>
        obtain ⟨g1, g2, g3⟩ := grow_ok xs.length (by omega) (by omega)
        have g4 := grow_pow f (by omega) xs.length (by omega) (by omega) h
        have e4 := s4 (m := k) (by omega) xs.length h64
        have ea := s5' (m := k) (f := f) (by omega) (by omega) (xs.take (grow 6 1 xs.length)) (by simp; omega) (by simp; omega) (by simp; omega)
        have eb := s5' (m := k) (f := f) (by omega) (by omega) (xs.drop (grow 6 1 xs.length)) (by simp; omega) (by simp; omega) (by simp; omega)
        unfold cf at e4 ea eb
        have sa := slice_take (xs.map D.int) (grow 6 1 xs.length) (by simp; omega)
        have sb := slice_drop (xs.map D.int) (grow 6 1 xs.length) (by simp; omega)
        simp only [dI, List.map_take, List.map_drop] at ea eb
        by_cases c : i < grow 6 1 xs.length
        · have ei2 : ((i : Int) < (grow 6 1 xs.length : Nat)) := by omega
          have ih := s6 f (m := k) (by omega) (by omega) (xs.take (grow 6 1 xs.length)) (by simp; omega) (by simp; omega) (by simp; omega) i (by simp; omega)
          unfold cf at ih
          simp only [dI, List.map_take] at ih
          have hl := prf_len (f + 1) (xs.take (grow 6 1 xs.length)) i
          have ad := add_tup ((prf (f + 1) (xs.take (grow 6 1 xs.length)) i).map Tm.d) [(sl (xs.drop (grow 6 1 xs.length))).d] (by simp; show _ ≤ 16777216; omega)
          simp [d6, arg, varS, dI, e, ei, e4, store, free, isAbs, sa, sb, ea, eb, ifB_b, c, ih, ad]
          rw [show prf (f + 1 + 1) xs i = prf (f + 1) (xs.take (grow 6 1 xs.length)) i ++ [sl (xs.drop (grow 6 1 xs.length))] from (if_neg e).trans (if_pos c)]
          simp
        · have ei2 : ¬ ((i : Int) < (grow 6 1 xs.length : Nat)) := by omega
          have ih := s6 f (m := k) (by omega) (by omega) (xs.drop (grow 6 1 xs.length)) (by simp; omega) (by simp; omega) (by simp; omega) (i - grow 6 1 xs.length) (by simp; omega)
          unfold cf at ih
          simp only [dI, List.map_drop] at ih
          rw [show ((i - grow 6 1 xs.length : Nat) : Int) = (i : Int) - (grow 6 1 xs.length : Nat) by omega] at ih
          have hl := prf_len (f + 1) (xs.drop (grow 6 1 xs.length)) (i - grow 6 1 xs.length)
          have ad := add_tup ((prf (f + 1) (xs.drop (grow 6 1 xs.length)) (i - grow 6 1 xs.length)).map Tm.d) [(sl (xs.take (grow 6 1 xs.length))).d] (by simp; show _ ≤ 16777216; omega)
          simp [d6, arg, varS, dI, e, ei, e4, store, free, isAbs, sa, sb, ea, eb, ifB_b, c, ih, ad]
          rw [show prf (f + 1 + 1) xs i = prf (f + 1) (xs.drop (grow 6 1 xs.length)) (i - grow 6 1 xs.length) ++ [sl (xs.take (grow 6 1 xs.length))] from (if_neg e).trans (if_neg c)]
          simp
end Ev.K62
/-! P62d: leaves_of. -/
namespace Ev.K62
def szs (st : List Tm) : Nat := (st.map Tm.sz).sum
def lvs (st : List Tm) : Nat := (st.map fun t => t.lv.length).sum
theorem lv_pos : ∀ t : Tm, 1 ≤ t.lv.length
  | .leaf i => by simp [Tm.lv]
  | .join a b => by
    have := lv_pos a
    simp [Tm.lv]; omega
theorem lvs_ge : ∀ st : List Tm, st.length ≤ lvs st
  | [] => by simp [lvs]
  | t :: st => by
    have := lv_pos t
    have := lvs_ge st
    simp [lvs] at *; omega
theorem sz_pos (t : Tm) : 1 ≤ t.sz := by cases t <;> simp [Tm.sz]
def testW : E := .cmp .gt (.blt .len [.var 2]) (.int 0)
def bodyW : List S := [.set 3 (.pop 2),
    .ite (.orL [.not_ (.isi (.var 3) .tuple), .cmp .eq (.blt .len [.var 3]) (.int 0), .not_ (.isi (.ix (.var 3) (.int 0)) .str)])
     [.ret .non]
     [],
    .ite (.andL [.cmp .eq (.ix (.var 3) (.int 0)) (.str 3), .cmp .eq (.blt .len [.var 3]) (.int 2), .call 0 [.ix (.var 3) (.int 1)]])
     [.ex (.app 1 (.ix (.var 3) (.int 1)))]
     [.ite (.andL [.cmp .eq (.ix (.var 3) (.int 0)) (.str 4), .cmp .eq (.blt .len [.var 3]) (.int 3)])
       [.ex (.app 2 (.ix (.var 3) (.int 2))),
        .ex (.app 2 (.ix (.var 3) (.int 1)))]
       [.ret .non]],
    .ite (.cmp .gt (.bin .add (.blt .len [.var 1]) (.blt .len [.var 2])) (.con 0))
     [.ret .non]
     []]
theorem leaf_body (m : Nat) (hm : 1 ≤ m) (x : D) (i : Int) (fo wa : List D) (s3 : Option W) (h3 : s3 = none ∨ ∃ y, s3 = some (.d y)) (hl : fo.length + wa.length < 64) :
    evB L.T (calls L.T L.ds m) bodyW m [some (.d x), some (.L false fo), some (.L false (wa ++ [(Tm.leaf i).d])), s3] = .ok .nx [some (.d x), some (.L false (fo ++ [.int i])), some (.L false wa), some (.d (Tm.leaf i).d)] := by
  have e0 := s0 (m := m) hm (.int i)
  unfold cf at e0
  have c : fo.length < cap := by show _ < 16777216; omega
  have g : ¬ ((64 : Int) < (fo.length : Int) + 1 + (wa.length : Int)) := by omega
  rcases h3 with rfl | ⟨y, rfl⟩ <;>
  simp [bodyW, popS, Tm.d, store, free, varS, isL, appS, e0, isI, c, ifB_b, con0, rs, g]
theorem join_body (m : Nat) (hm : 1 ≤ m) (x : D) (a b : Tm) (fo wa : List D) (s3 : Option W) (h3 : s3 = none ∨ ∃ y, s3 = some (.d y)) (hl : fo.length + wa.length + 1 < 64) :
    evB L.T (calls L.T L.ds m) bodyW m [some (.d x), some (.L false fo), some (.L false (wa ++ [(Tm.join a b).d])), s3] = .ok .nx [some (.d x), some (.L false fo), some (.L false (wa ++ [b.d, a.d])), some (.d (Tm.join a b).d)] := by
  have c : wa.length < cap := by show _ < 16777216; omega
  have c' : wa.length + 1 < cap := by show _ < 16777216; omega
  have g : ¬ ((64 : Int) < (fo.length : Int) + ((wa.length : Int) + 2)) := by omega
  rcases h3 with rfl | ⟨y, rfl⟩ <;>
  simp [bodyW, popS, Tm.d, store, free, varS, isL, appS, c, c', ifB_b, con0, rs, g]
theorem loop_W (m : Nat) (hm : 1 ≤ m) (x : D) : ∀ (k : Nat) (st : List Tm) (fo : List Int) (s3 : Option W), (s3 = none ∨ ∃ y, s3 = some (.d y)) → szs st + 1 ≤ k → fo.length + lvs st ≤ 64 →
    ∃ s3', whileL (fun ρ => asT (evE L.T (calls L.T L.ds m) testW m ρ)) (evB L.T (calls L.T L.ds m) bodyW m) k [some (.d x), some (.L false (fo.map D.int)), some (.L false (st.reverse.map Tm.d)), s3]
      = .ok .nx [some (.d x), some (.L false ((fo ++ st.flatMap Tm.lv).map D.int)), some (.L false []), s3']
  | 0, st, fo, s3, h3, hk, hl => by omega
  | k + 1, [], fo, s3, h3, hk, hl => by
    refine ⟨s3, ?_⟩
    rw [whileL_s]
    simp [testW, varS, rs]
  | k + 1, .leaf i :: st, fo, s3, h3, hk, hl => by
    have hl' : fo.length + 1 + lvs st ≤ 64 := by simp [lvs, Tm.lv] at hl ⊢; omega
    have hs := lvs_ge st
    obtain ⟨s3', e⟩ := loop_W m hm x k st (fo ++ [i]) (some (.d (Tm.leaf i).d)) (Or.inr ⟨_, rfl⟩) (by simp [szs, Tm.sz] at hk ⊢; omega) (by simp; omega)
    refine ⟨s3', ?_⟩
    have b := leaf_body m hm x i (fo.map D.int) (st.reverse.map Tm.d) s3 h3 (by simp; omega)
    have t : asT (evE L.T (calls L.T L.ds m) testW m [some (.d x), some (.L false (fo.map D.int)), some (.L false (st.reverse.map Tm.d ++ [(Tm.leaf i).d])), s3]) = .ok true [some (.d x), some (.L false (fo.map D.int)), some (.L false (st.reverse.map Tm.d ++ [(Tm.leaf i).d])), s3] := by
      simp [testW, varS, rs]
    rw [List.reverse_cons, List.map_append, List.map_singleton, whileL_s, t, ifB_t, b]
    simp only [R.bind_ok]
    simp only [List.map_append, List.map_singleton] at e
    rw [e]
    simp [Tm.lv]
  | k + 1, .join p q :: st, fo, s3, h3, hk, hl => by
    have hp := lv_pos p
    have hq := lv_pos q
    have hl' : fo.length + (p.lv.length + (q.lv.length + lvs st)) ≤ 64 := by simp [lvs, Tm.lv] at hl ⊢; omega
    have hs := lvs_ge st
    obtain ⟨s3', e⟩ := loop_W m hm x k (p :: q :: st) fo (some (.d (Tm.join p q).d)) (Or.inr ⟨_, rfl⟩) (by simp [szs, Tm.sz] at hk ⊢; omega) (by simp [lvs] at hl' ⊢; omega)
    refine ⟨s3', ?_⟩
    have b := join_body m hm x p q (fo.map D.int) (st.reverse.map Tm.d) s3 h3 (by simp; omega)
    have t : asT (evE L.T (calls L.T L.ds m) testW m [some (.d x), some (.L false (fo.map D.int)), some (.L false (st.reverse.map Tm.d ++ [(Tm.join p q).d])), s3]) = .ok true [some (.d x), some (.L false (fo.map D.int)), some (.L false (st.reverse.map Tm.d ++ [(Tm.join p q).d])), s3] := by
      simp [testW, varS, rs]
    rw [List.reverse_cons, List.map_append, List.map_singleton, whileL_s, t, ifB_t, b]
    simp only [R.bind_ok]
    simp only [List.reverse_cons, List.append_assoc, List.map_append, List.map_singleton, List.singleton_append, List.map_cons, List.map_nil] at e
    simp only [List.map_append, List.cons_append, List.nil_append] at e ⊢
    rw [e]
    simp [Tm.lv]
theorem sz_lv : ∀ t : Tm, t.sz + 1 ≤ 2 * t.lv.length
  | .leaf i => by simp [Tm.sz, Tm.lv]
  | .join a b => by
    have := sz_lv a
    have := sz_lv b
    simp [Tm.sz, Tm.lv]; omega
/-- leaves_of -/
theorem s8 {m : Nat} (hm : 2 ≤ m) (t : Tm) (h : t.lv.length ≤ 64) (ρ : Ev) : cf m 8 [.d t.d] ρ = .ok (.d (dI t.lv)) ρ := by
  refine cf_fin (by omega) d8 rfl [t.d] ρ _ rfl fun k hk => ?_
  have hz := sz_lv t
  obtain ⟨s3', e⟩ := loop_W k (by omega) t.d big [t] [] none (Or.inl rfl) (by simp [szs]; show _ ≤ 1048576; omega) (by simp [lvs]; omega)
  have hp : evS L.T (calls L.T L.ds k) (.par [1, 2] [.lst [], .lst [.var 0]]) k [some (.d t.d), none, none, none] = .ok .nx [some (.d t.d), some (.L false []), some (.L false [t.d]), none] := by
    simp [varS, assigns, store, free]
  show fin 1 (evB L.T (calls L.T L.ds k) [.par [1, 2] [.lst [], .lst [.var 0]], .while_ testW bodyW, .ret (.blt .tuple [.var 1])] k [some (.d t.d), none, none, none]) = _
  rw [v_bcons, hp, R.bind_ok]
  show fin 1 (evB L.T (calls L.T L.ds k) [.while_ testW bodyW, .ret (.blt .tuple [.var 1])] k _) = _
  have e' : whileL (fun ρ => asT (evE L.T (calls L.T L.ds k) testW k ρ)) (evB L.T (calls L.T L.ds k) bodyW k) big [some (.d t.d), some (.L false []), some (.L false [t.d]), none] = .ok .nx [some (.d t.d), some (.L false (t.lv.map D.int)), some (.L false []), s3'] := by
    simpa using e
  rw [v_bcons, v_while, e', R.bind_ok]
  simp [varS, rs]
end Ev.K62
/-! P62e: lines_of_seal, shown_lines. -/
namespace Ev.K62
def Tm.dp : Tm → Nat
  | .leaf _ => 1
  | .join a b => max a.dp b.dp + 1
theorem lim_Tm : ∀ (t : Tm) (n : Nat), t.dp ≤ n → lim t.d n = true
  | .leaf i, n, h => by
    obtain ⟨n, rfl⟩ : ∃ j, n = j + 1 := ⟨n - 1, by simp [Tm.dp] at h; omega⟩
    simp [Tm.d, lim, limL, lim_int, lim_str]
  | .join a b, n, h => by
    obtain ⟨n, rfl⟩ : ∃ j, n = j + 1 := ⟨n - 1, by simp [Tm.dp] at h; omega⟩
    have h' : max a.dp b.dp + 1 ≤ n + 1 := h
    simp [Tm.d, lim, limL, lim_str, lim_Tm a n (by omega), lim_Tm b n (by omega)]
theorem eqb_Tm : ∀ a b : Tm, eqb a.d b.d = decide (a = b)
  | .leaf i, .leaf j => by simp [Tm.d, eqb, eqbs]; rfl
  | .leaf i, .join a b => by simp [Tm.d, eqb, eqbs]
  | .join a b, .leaf i => by simp [Tm.d, eqb, eqbs]
  | .join a b, .join c d => by
    simp [Tm.d, eqb, eqbs, eqb_Tm a c, eqb_Tm b d]
theorem same_Tm (a b : Tm) (ha : a.dp ≤ 60) (hb : b.dp ≤ 60) : same a.d b.d = some (decide (a = b)) := by
  simp [same, limit, lim_Tm a 60 ha, lim_Tm b 60 hb, eqb_Tm]
theorem dp_sealT : ∀ (f : Nat) (xs : List Int), (sealT f xs).dp ≤ f + 1
  | 0, xs => by simp [sealT, Tm.dp]
  | f + 1, xs => by
    rw [sealT_s]
    split
    · simp [Tm.dp]
    · have a := dp_sealT f (xs.take (grow 6 1 xs.length))
      have b := dp_sealT f (xs.drop (grow 6 1 xs.length))
      simp only [Tm.dp]; omega
theorem dp_sl (xs : List Int) : (sl xs).dp ≤ 8 := dp_sealT 7 xs
def opD : Option (List Int) → D
  | some xs => dI xs
  | none => .non
@[simp] theorem opD_some (xs : List Int) : opD (some xs) = dI xs := rfl
@[simp] theorem opD_none : opD none = .non := rfl
/-- what a sealed term shows, of so many -/
def bes (t : Tm) (many : Int) : Option (List Int) := if (t.lv.length : Int) = many ∧ sl t.lv = t then some t.lv else none
/-- lines_of_seal -/
theorem s9 {m : Nat} (hm : 10 ≤ m) (t : Tm) (h : t.lv.length ≤ 64) (hd : t.dp ≤ 60) (many : Int) (ρ : Ev) : cf m 9 [.d t.d, .d (.int many)] ρ = .ok (.d (opD (bes t many))) ρ := by
  refine cf_fin (by omega) d9 rfl [t.d, .int many] ρ _ rfl fun k hk => ?_
  have e8 := s8 (m := k) (by omega) t h
  have e5 := s5' (m := k) (f := 6) (by omega) (by omega) t.lv (lv_pos t) h h
  have sm := same_Tm (sl t.lv) t (by have := dp_sl t.lv; omega) hd
  unfold cf at e8 e5
  simp only [dI] at e8 e5
  by_cases c : (t.lv.length : Int) = many
  · by_cases c2 : sl t.lv = t
    · rw [c2] at sm
      simp only [c2] at e5
      simp [d9, arg, varS, e8, e5, store, free, c, sm, c2, bes, ifB_b]
    · simp [d9, arg, varS, e8, e5, store, free, c, sm, c2, bes, ifB_b]
  · simp [d9, arg, varS, e8, store, free, c, bes, ifB_b]
/-- shown_lines, plainly -/
def shw : Nat → Int → Nat → Nat → List Tm → Option (List Int)
  | 0, _, _, _, _ => none
  | f + 1, x, i, n, ts => if n = 1 then (if ts = [] then some [x] else none) else match ts.getLast? with
    | none => none
    | some t => if i < grow 6 1 n
        then (match bes t ((n : Int) - (grow 6 1 n : Nat)), shw f x i (grow 6 1 n) ts.dropLast with
          | some b, some r => some (r ++ b)
          | _, _ => none)
        else (match bes t (grow 6 1 n : Nat), shw f x (i - grow 6 1 n) (n - grow 6 1 n) ts.dropLast with
          | some b, some r => some (b ++ r)
          | _, _ => none)
theorem bes_len {t : Tm} {many : Int} {b : List Int} (h : bes t many = some b) : (b.length : Int) = many := by
  unfold bes at h
  split at h
  · next c => cases h; exact c.1
  · cases h
theorem grow_le : ∀ (f p n : Nat), p < n → grow f p n < n
  | 0, p, n, h => h
  | f + 1, p, n, h => by
    unfold grow
    split
    · next c => exact grow_le f _ _ c
    · exact h
theorem grow_ge : ∀ (f p n : Nat), 1 ≤ p → 1 ≤ grow f p n
  | 0, p, n, h => h
  | f + 1, p, n, h => by
    unfold grow
    split
    · exact grow_ge f _ _ (by omega)
    · exact h
theorem shw_len : ∀ (f : Nat) (x : Int) (i n : Nat) (ts : List Tm) (r : List Int), 1 ≤ n → shw f x i n ts = some r → r.length = n
  | 0, _, _, _, _, _, _, h => by cases h
  | f + 1, x, i, n, ts, r, h1, h => by
    unfold shw at h
    split at h
    · next e =>
      split at h
      · cases h; simp [e]
      · cases h
    · next e =>
      have g1 := grow_le 6 1 n (by omega)
      have g2 := grow_ge 6 1 n (by omega)
      split at h
      · cases h
      · next t _ =>
        split at h
        · split at h
          · next b r' hb hr =>
            have a := bes_len hb
            have c := shw_len f _ _ _ _ _ g2 hr
            cases h
            simp; omega
          · cases h
        · split at h
          · next b r' hb hr =>
            have a := bes_len hb
            have c := shw_len f _ _ _ _ _ (by omega) hr
            cases h
            simp; omega
          · cases h
theorem grow_while2 (C : Calls) (lv : Nat) (n : Nat) (a b c : W) : ∀ (g p k : Nat), n ≤ p * 2 ^ g → n ≤ 1000 → g + 1 ≤ k →
    whileL (fun ρ => asT (evE L.T C (.cmp .lt (.bin .mul (.int 2) (.var 4)) (.var 2)) lv ρ)) (evB L.T C [.set 4 (.bin .mul (.int 2) (.var 4))] lv) k [some a, some b, some (.d (.int n)), some c, some (.d (.int p)), none, none] = .ok .nx [some a, some b, some (.d (.int n)), some c, some (.d (.int (grow g p n : Nat))), none, none]
  | 0, p, k, h, _, hk => by
    obtain ⟨k, rfl⟩ : ∃ j, k = j + 1 := ⟨k - 1, by omega⟩
    have e : ¬ ((2 : Int) * p < n) := by omega
    have s : sml 2 = true := by decide
    simp [varS, grow, s, e]
  | g + 1, p, k, h, hn, hk => by
    obtain ⟨k, rfl⟩ : ∃ j, k = j + 1 := ⟨k - 1, by omega⟩
    have s : sml 2 = true := by decide
    by_cases cc : 2 * p < n
    · have e : ((2 : Int) * p < n) := by omega
      have ih := grow_while2 C lv n a b c g (2 * p) k (by rw [Nat.pow_succ] at h; rw [Nat.mul_comm 2 p, Nat.mul_assoc, Nat.mul_comm 2]; exact h) hn (by omega)
      simp [varS, grow, s, e, cc, store, free] at ih ⊢
      exact ih
    · have e : ¬ ((2 : Int) * p < n) := by omega
      simp [varS, grow, s, e, cc]
theorem at_last (xs : List D) (x : D) : at_ (xs ++ [x]) (-1) = some x := by
  have h : ((((xs ++ [x]).length : Nat) : Int) + (-1)).toNat = xs.length := by simp; omega
  unfold at_ place
  rw [if_neg (by omega), if_pos (by simp; omega)]
  show (xs ++ [x])[((((xs ++ [x]).length : Nat) : Int) + (-1)).toNat]? = _
  rw [h]
  simp
theorem slice_last (xs : List D) (x : D) : slice (.d (.tup (xs ++ [x]))) none (some (-1)) = some (.d (.tup xs)) := by
  simp [slice, cut, sIx]
  have : ((-1 : Int) + ((xs.length : Int) + 1)).toNat = xs.length := by omega
  simp [this]
/-- shown_lines -/
theorem s21 : ∀ (f : Nat) {m : Nat} (hm : f + 12 ≤ m) (hf : f < 7) (x : Int) (i n : Nat) (ts : List Tm) (h1 : 1 ≤ n) (h : n ≤ 2 ^ f) (h64 : n ≤ 64) (ht : ∀ t ∈ ts, t.lv.length ≤ 64 ∧ t.dp ≤ 60) (ρ : Ev),
    cf m 21 [.d (.int x), .d (.int i), .d (.int n), .d (dT ts)] ρ = .ok (.d (opD (shw (f + 1) x i n ts))) ρ
  | f, m, hm, hf, x, i, n, ts, h1, h, h64, ht, ρ => by
    refine cf_fin (by omega) d21 rfl [.int x, .int i, .int n, dT ts] ρ _ rfl fun k hk => ?_
    by_cases e : n = 1
    · subst e
      cases ts with
      | nil => simp [d21, arg, varS, shw, ifB_b]
      | cons t ts =>
        have : ¬ ((ts.length : Int) + 1 = 0) := by omega
        simp [d21, arg, varS, shw, ifB_b, this]
    · have ei : ¬ ((n : Int) = 1) := by omega
      rcases List.eq_nil_or_concat ts with rfl | ⟨ts, t, rfl⟩
      · simp [d21, arg, varS, shw, ifB_b, ei, e]
      · simp only [List.concat_eq_append] at ht ⊢
        cases f with
        | zero => omega
        | succ f =>
          obtain ⟨g1, g2, g3⟩ := grow_ok n (by omega) (by omega)
          have g4 := grow_pow f (by omega) n (by omega) (by omega) h
          have en : ¬ ((ts.length : Int) + 1 = 0) := by omega
          have ew := grow_while2 (calls L.T L.ds k) k n (.d (.int x)) (.d (.int i)) (.d (dT (ts ++ [t]))) 6 1 big (by omega) (by omega) (by decide)
          have ew' : evS L.T (calls L.T L.ds k) (.while_ (.cmp .lt (.bin .mul (.int 2) (.var 4)) (.var 2)) [.set 4 (.bin .mul (.int 2) (.var 4))]) k [some (.d (.int x)), some (.d (.int i)), some (.d (.int n)), some (.d (dT (ts ++ [t]))), some (.d (.int 1)), none, none] = .ok .nx [some (.d (.int x)), some (.d (.int i)), some (.d (.int n)), some (.d (dT (ts ++ [t]))), some (.d (.int (grow 6 1 n : Nat))), none, none] := ew
          have lt := at_last (ts.map Tm.d) t.d
          have ls := slice_last (ts.map Tm.d) t.d
          have htt := ht t (by simp)
          have e9 := s9 (m := k) (by omega) t htt.1 htt.2
          unfold cf at e9
          simp only [dT, List.map_append, List.map_cons, List.map_nil] at ew'
          have ad : ∀ (u v : List Int), u.length ≤ 64 → v.length ≤ 64 → bin .add (.d (.tup (u.map D.int))) (.d (.tup (v.map D.int))) = some (.d (dI (u ++ v))) := by
            intro u v hu hv
            rw [add_tup _ _ (by simp; show _ ≤ 16777216; omega)]
            simp
          have hb : ∀ mny r, bes t mny = some r → r.length ≤ 64 := by
            intro mny r hr
            unfold bes at hr
            split at hr
            · cases hr; exact htt.1
            · cases hr
          by_cases c : i < grow 6 1 n
          · have ci : ((i : Int) < (grow 6 1 n : Nat)) := by omega
            have ih := s21 f (m := k) (by omega) (by omega) x i (grow 6 1 n) ts (by omega) (by omega) (by omega) (fun t' h' => ht t' (by simp [h']))
            unfold cf at ih
            simp only [dT] at ih
            have hw : shw (f + 1 + 1) x i n (ts ++ [t]) = (match bes t ((n : Int) - (grow 6 1 n : Nat)), shw (f + 1) x i (grow 6 1 n) ts with
          | some b, some r => some (r ++ b)
          | _, _ => none) := by
              show (if n = 1 then _ else _) = _
              rw [if_neg e]
              simp [c]
            rw [hw]
            cases hb1 : bes t ((n : Int) - (grow 6 1 n : Nat)) with
            | none => 
              cases hr : shw (f + 1) x i (grow 6 1 n) ts <;>
              simp [d21, -v_while, dT, arg, varS, ifB_b, ei, en, store, free, ew', lt, ls, e9, ih, ci, isAbs, hb1, hr, isNon]
            | some b =>
              have hbl := hb _ _ hb1
              cases hr : shw (f + 1) x i (grow 6 1 n) ts with
              | none => simp [d21, -v_while, dT, arg, varS, ifB_b, ei, en, store, free, ew', lt, ls, e9, ih, ci, isAbs, hb1, hr, isNon]
              | some r =>
                have ad' := ad r b (by have := shw_len _ _ _ _ _ _ (by omega) hr; omega) hbl
                simp [d21, -v_while, dT, arg, varS, ifB_b, ei, en, store, free, ew', lt, ls, e9, ih, ci, isAbs, hb1, hr, isNon, ad']
          · have ci : ¬ ((i : Int) < (grow 6 1 n : Nat)) := by omega
            have ih := s21 f (m := k) (by omega) (by omega) x (i - grow 6 1 n) (n - grow 6 1 n) ts (by omega) (by omega) (by omega) (fun t' h' => ht t' (by simp [h']))
            unfold cf at ih
            simp only [dT] at ih
            rw [show ((i - grow 6 1 n : Nat) : Int) = (i : Int) - (grow 6 1 n : Nat) by omega, show ((n - grow 6 1 n : Nat) : Int) = (n : Int) - (grow 6 1 n : Nat) by omega] at ih
            have hw : shw (f + 1 + 1) x i n (ts ++ [t]) = (match bes t (grow 6 1 n : Nat), shw (f + 1) x (i - grow 6 1 n) (n - grow 6 1 n) ts with
          | some b, some r => some (b ++ r)
          | _, _ => none) := by
              show (if n = 1 then _ else _) = _
              rw [if_neg e]
              simp [c]
            rw [hw]
            cases hb1 : bes t (grow 6 1 n : Nat) with
            | none => 
              cases hr : shw (f + 1) x (i - grow 6 1 n) (n - grow 6 1 n) ts <;>
              simp [d21, -v_while, dT, arg, varS, ifB_b, ei, en, store, free, ew', lt, ls, e9, ih, ci, isAbs, hb1, hr, isNon]
            | some b =>
              have hbl := hb _ _ hb1
              cases hr : shw (f + 1) x (i - grow 6 1 n) (n - grow 6 1 n) ts with
              | none => simp [d21, -v_while, dT, arg, varS, ifB_b, ei, en, store, free, ew', lt, ls, e9, ih, ci, isAbs, hb1, hr, isNon]
              | some r =>
                have ad' := ad b r hbl (by have := shw_len _ _ _ _ _ _ (by omega) hr; omega)
                simp [d21, -v_while, dT, arg, varS, ifB_b, ei, en, store, free, ew', lt, ls, e9, ih, ci, isAbs, hb1, hr, isNon, ad']
end Ev.K62
/-! P62f: is_shown and the small ones. -/
namespace Ev
theorem v_comp_pure (T : Top) (C : Calls) (n : Nat) (ρ : Ev) (elt : E) (tg : Tg) (k : Ik) (es ifs : List E) (own : List Nat) (xs : List D) (f : D → List D)
    (he : iterF k (evL T C es n ρ) = .ok (xs, []) ρ) (hb : back ρ (wipe ρ own) own = ρ) (hc : xs.length ≤ cap)
    (h : ∀ x ∈ xs, ∃ ρ2, bindT tg x (wipe ρ own) = some ρ2 ∧ wipe ρ2 own = wipe ρ own ∧ ((evTs T C ifs n ρ2 = .ok false ρ2 ∧ f x = []) ∨ (evTs T C ifs n ρ2 = .ok true ρ2 ∧ ∃ y, evE T C elt n ρ2 = .ok (.d y) ρ2 ∧ f x = [y]))) :
    evE T C (.comp elt tg k es ifs own) n ρ = .ok (.L (xs.flatMap f)) ρ := by
  rw [v_comp, he, R.bind_ok]
  exact comp_pure own ρ tg _ _ xs f hb hc h
@[simp] theorem iter_tup (ρ : Ev) (xs : List D) : iterF .seq (.ok [.d (.tup xs)] ρ) = .ok (xs, []) ρ := rfl
@[simp] theorem iter_lst (ρ : Ev) (xs : List D) : iterF .seq (.ok [.d (.lst xs)] ρ) = .ok (xs, []) ρ := rfl
@[simp] theorem iter_L (ρ : Ev) (xs : List D) : iterF .seq (.ok [.L xs] ρ) = .ok (xs, []) ρ := rfl
namespace K62
theorem eqbs_int : ∀ xs ys : List Int, eqbs (xs.map D.int) (ys.map D.int) = decide (xs = ys)
  | [], [] => by simp [eqbs]
  | [], _ :: _ => by simp [eqbs]
  | _ :: _, [] => by simp [eqbs]
  | x :: xs, y :: ys => by
    simp [eqbs, eqb, eqbs_int xs ys]
    rfl
theorem limL_int : ∀ (xs : List Int) (n : Nat), limL (xs.map D.int) n = true
  | [], n => by simp [limL]
  | x :: xs, n => by simp [limL, lim_int, limL_int xs n]
theorem same_dI (xs ys : List Int) : same (dI xs) (dI ys) = some (decide (xs = ys)) := by
  simp [same, limit, lim, limL_int, eqb, eqbs_int]
def shn (x : Int) (i n : Nat) (ts : List Tm) (S : Tm) : Bool := match shw 7 x i n ts with
  | none => false
  | some r => decide (S.lv = r) && decide (sl r = S)
/-- is_shown -/
theorem s20 {m : Nat} (hm : 20 ≤ m) (x : Int) (i n : Nat) (ts : List Tm) (S : Tm) (h1 : 1 ≤ n) (h64 : n ≤ 64) (hl : ts.length ≤ 60) (ht : ∀ t ∈ ts, t.lv.length ≤ 64 ∧ t.dp ≤ 60) (hS : S.lv.length ≤ 64) (hd : S.dp ≤ 60) (ρ : Ev) :
    cf m 20 [.d (.int x), .d (.int i), .d (.int n), .d (dT ts), .d S.d] ρ = .ok (.d (.bl (shn x i n ts S))) ρ := by
  refine cf_fin (by omega) d20 rfl [.int x, .int i, .int n, dT ts, S.d] ρ _ rfl fun k hk => ?_
  have hc : evE L.T (calls L.T L.ds k) (.comp (.cmp .is_ (.call 8 [.var 6]) .non) (.nm 6) .seq [.var 3] [] [6]) k [some (.d (.int x)), some (.d (.int i)), some (.d (.int n)), some (.d (dT ts)), some (.d S.d), none, none]
      = .ok (.L ((ts.map Tm.d).flatMap fun _ => [D.bl false])) [some (.d (.int x)), some (.d (.int i)), some (.d (.int n)), some (.d (dT ts)), some (.d S.d), none, none] := by
    refine v_comp_pure _ _ _ _ _ _ _ _ _ _ (ts.map Tm.d) (fun _ => [D.bl false]) (by simp [varS]) rfl (by simp; show _ ≤ 16777216; omega) ?_
    intro y hy
    obtain ⟨t, ht', rfl⟩ := List.mem_map.mp hy
    have e8 := s8 (m := k) (by omega) t (ht t ht').1
    unfold cf at e8
    refine ⟨[some (.d (.int x)), some (.d (.int i)), some (.d (.int n)), some (.d (dT ts)), some (.d S.d), none, some (.d t.d)], rfl, rfl, Or.inr ⟨rfl, D.bl false, ?_, rfl⟩⟩
    simp [varS, e8, isNon]
  have ha := any_comp (ts.map Tm.d) (fun _ => false)
  have hg : ¬ ((60 : Int) < (ts.length : Int)) := by omega
  have e21 := s21 6 (m := k) (by omega) (by omega) x i n ts h1 h64 h64 ht
  have e8 := s8 (m := k) (by omega) S hS
  unfold cf at e21 e8
  have hw : shn x i n ts S = match shw 7 x i n ts with
    | none => false
    | some r => decide (S.lv = r) && decide (sl r = S) := rfl
  cases hr : shw 7 x i n ts with
  | none =>
    rw [hw, hr]
    simp [d20, -v_comp, hc, arg, varS, ha, con4, hg, ifB_b, e21, hr, store, free, isNon]
  | some r =>
    have rl := shw_len _ _ _ _ _ _ h1 hr
    have e5 := s5' (m := k) (f := 6) (by omega) (by omega) r (by omega) (by omega) (by omega)
    unfold cf at e5
    have q1 := same_dI S.lv r
    have q2 := same_Tm (sl r) S (by have := dp_sl r; omega) hd
    rw [hw, hr]
    by_cases c : S.lv = r
    · have q3 := same_dI r r
      simp [d20, -v_comp, hc, arg, varS, ha, con4, hg, ifB_b, e21, hr, store, free, isNon, e8, q3, q2, e5, c]
    · simp [d20, -v_comp, hc, arg, varS, ha, con4, hg, ifB_b, e21, hr, store, free, isNon, e8, q1, q2, e5, c]
/-- check_key -/
theorem s14 {m : Nat} (hm : 3 ≤ m) (i : Int) (h0 : 0 ≤ i) (h9 : i ≤ 900) (ρ : Ev) : cf m 14 [.d (.int i)] ρ = .ok (.d .non) ρ := by
  refine cf_fin (by omega) d14 rfl [.int i] ρ _ rfl fun k hk => ?_
  have e := s2 (m := k) (by omega) i 0 900
  unfold cf at e
  simp [d14, arg, varS, con5, e, h0, h9]
/-- a line of a sheet -/
structure Ln where
  put : Bool
  key : Int
  val : Int
deriving DecidableEq, Inhabited
def Ln.ok (l : Ln) : Prop := 0 ≤ l.key ∧ l.key ≤ 900 ∧ 0 ≤ l.val ∧ l.val ≤ 900
def Ln.d (l : Ln) : D := if l.put then .tup [.str 5, .int l.key, .int l.val] else .tup [.str 6, .int l.key]
def Ln.num (l : Ln) : Int := 3000 * l.key + if l.put then l.val + 1 else 0
/-- number_of -/
theorem s15 {m : Nat} (hm : 1 ≤ m) (l : Ln) (ρ : Ev) : cf m 15 [.d l.d] ρ = .ok (.d (.int l.num)) ρ := by
  refine cf_fin (by omega) d15 rfl [l.d] ρ _ rfl fun k hk => ?_
  have s : sml 3000 = true := by decide
  cases h : l.put <;> simp [d15, arg, varS, con6, Ln.d, Ln.num, h, s, ifB_b]
/-- _law_number -/
theorem s27 {m : Nat} (hm : 1 ≤ m) (l : Ln) (ρ : Ev) : cf m 27 [.d l.d] ρ = .ok (.d (.int l.num)) ρ := by
  refine cf_fin (by omega) d27 rfl [l.d] ρ _ rfl fun k hk => ?_
  have s : sml 3000 = true := by decide
  cases h : l.put <;> simp [d27, arg, varS, Ln.d, Ln.num, h, s, ifB_b]
end K62
end Ev
/-! P62g: comprehensions of two clauses; the checks of a sheet. -/
namespace Ev
theorem walk_pure (own : List Nat) (ρ1 : Ev) (tg : Tg) (tests : Ev → R Bool) (elt : Ev → R O) (f : D → List D) (ρ : Ev) : ∀ (ys acc : List D),
    (∀ x ∈ ys, ∃ ρ2, bindT tg x ρ = some ρ2 ∧ wipe ρ2 own = ρ ∧ ((tests ρ2 = .ok false ρ2 ∧ f x = []) ∨ (tests ρ2 = .ok true ρ2 ∧ ∃ y, elt ρ2 = .ok (.d y) ρ2 ∧ f x = [y]))) →
    acc.length + ys.length ≤ cap → walkL (compTurn own ρ1 [] tg tests elt) ys acc ρ = .ok (acc ++ ys.flatMap f) ρ
  | [], acc, _, _ => by simp [walkL]
  | x :: ys, acc, h, hcap => by
    obtain ⟨ρ2, e1, e2, e3⟩ := h x (by simp)
    show (compTurn own ρ1 [] tg tests elt x acc ρ).bind (walkL _ ys) = _
    have hcap' : acc.length + (ys.length + 1) ≤ cap := by simpa using hcap
    have ht : compTurn own ρ1 [] tg tests elt x acc ρ = .ok (acc ++ f x) ρ := by
      have hlt : acc.length < cap := by omega
      unfold compTurn
      rcases e3 with ⟨t, fx⟩ | ⟨t, y, ey, fx⟩
      · simp [stands, e1, t, fx, e2]
      · simp only [stands, if_true, e1, R.opt_some, t, ifB_t, ey, R.bind_ok, keep_d, hlt, e2, fx]
    rw [ht]
    show walkL (compTurn own ρ1 [] tg tests elt) ys (acc ++ f x) ρ = _
    have hf : (f x).length ≤ 1 := by
      rcases e3 with ⟨t, fx⟩ | ⟨t, y, ey, fx⟩ <;> simp [fx]
    rw [walk_pure own ρ1 tg tests elt f ρ ys (acc ++ f x) (fun z hz => h z (List.mem_cons_of_mem _ hz)) (by simp; omega)]
    simp
@[simp] theorem v_comp2 (T : Top) (C : Calls) (n : Nat) (ρ : Ev) (elt : E) (t1 : Tg) (k1 : Ik) (e1 : List E) (t2 : Tg) (k2 : Ik) (e2 ifs : List E) (own : List Nat) : evE T C (.comp2 elt t1 k1 e1 t2 k2 e2 ifs own) n ρ = (iterF k1 (evL T C e1 n ρ)).bind fun p ρ1 => compEnd own ρ1 p.2 (walkL (compTurn2 own ρ1 p.2 t1 (fun ρ2 => iterF k2 (evL T C e2 n ρ2)) (slots t2)
      fun ρ3 ws2 => compTurn (slots t2) ρ3 ws2 t2 (evTs T C ifs n) (evE T C elt n)) p.1 [] (wipe ρ1 own)) := rfl
theorem v_comp2_pure (T : Top) (C : Calls) (n : Nat) (ρ : Ev) (elt : E) (t1 : Tg) (k1 : Ik) (e1 : List E) (t2 : Tg) (k2 : Ik) (e2 ifs : List E) (own : List Nat) (xs : List D) (g : D → List D) (f : D → D → List D) (q : Nat)
    (he : iterF k1 (evL T C e1 n ρ) = .ok (xs, []) ρ) (hb : back ρ (wipe ρ own) own = ρ) (hc : xs.length * q ≤ cap) (hq : ∀ x ∈ xs, (g x).length ≤ q)
    (h : ∀ x ∈ xs, ∃ ρ2, bindT t1 x (wipe ρ own) = some ρ2 ∧ iterF k2 (evL T C e2 n ρ2) = .ok (g x, []) ρ2 ∧ wipe ρ2 (slots t2) = ρ2 ∧ wipe ρ2 own = wipe ρ own ∧
      ∀ y ∈ g x, ∃ ρ3, bindT t2 y ρ2 = some ρ3 ∧ wipe ρ3 (slots t2) = ρ2 ∧ ((evTs T C ifs n ρ3 = .ok false ρ3 ∧ f x y = []) ∨ (evTs T C ifs n ρ3 = .ok true ρ3 ∧ ∃ z, evE T C elt n ρ3 = .ok (.d z) ρ3 ∧ f x y = [z]))) :
    evE T C (.comp2 elt t1 k1 e1 t2 k2 e2 ifs own) n ρ = .ok (.L (xs.flatMap fun x => (g x).flatMap (f x))) ρ := by
  have fl : ∀ x ∈ xs, ((g x).flatMap (f x)).length ≤ q := by
    intro x hx
    obtain ⟨ρ2, _, _, _, _, h5⟩ := h x hx
    have : ∀ ys : List D, (∀ y ∈ ys, y ∈ g x) → (ys.flatMap (f x)).length ≤ ys.length := by
      intro ys
      induction ys with
      | nil => simp
      | cons y ys ih =>
        intro hy
        have i := ih (fun z hz => hy z (List.mem_cons_of_mem _ hz))
        obtain ⟨ρ3, _, _, e⟩ := h5 y (hy y (by simp))
        have hf : (f x y).length ≤ 1 := by
          rcases e with ⟨t, fx⟩ | ⟨t, y, ey, fx⟩ <;> simp [fx]
        simp at i ⊢; omega
    exact Nat.le_trans (this _ (fun y hy => hy)) (hq x hx)
  have hl : ∀ (ys acc : List D), (∀ x ∈ ys, x ∈ xs) → acc.length + ys.length * q ≤ cap → walkL (compTurn2 own ρ [] t1 (fun ρ2 => iterF k2 (evL T C e2 n ρ2)) (slots t2)
      fun ρ3 ws2 => compTurn (slots t2) ρ3 ws2 t2 (evTs T C ifs n) (evE T C elt n)) ys acc (wipe ρ own) = .ok (acc ++ ys.flatMap fun x => (g x).flatMap (f x)) (wipe ρ own) := by
    intro ys
    induction ys with
    | nil => intro acc _ _; simp [walkL]
    | cons x ys ih =>
      intro acc hm hcap
      have hx := hm x (by simp)
      obtain ⟨ρ2, a1, a2, a3, a4, a5⟩ := h x hx
      have hfx := fl x hx
      have hqx := hq x hx
      have hcap' : acc.length + (ys.length * q + q) ≤ cap := by
        have : (x :: ys).length * q = ys.length * q + q := by simp [Nat.add_mul]
        omega
      have ht : compTurn2 own ρ [] t1 (fun ρ2 => iterF k2 (evL T C e2 n ρ2)) (slots t2) (fun ρ3 ws2 => compTurn (slots t2) ρ3 ws2 t2 (evTs T C ifs n) (evE T C elt n)) x acc (wipe ρ own) = .ok (acc ++ (g x).flatMap (f x)) (wipe ρ own) := by
        unfold compTurn2
        simp only [stands, if_true, a1, R.opt_some, a2, R.bind_ok, a3]
        rw [walk_pure (slots t2) ρ2 t2 _ _ (f x) ρ2 (g x) acc a5 (by omega)]
        simp [a4]
      show (compTurn2 own ρ [] t1 (fun ρ2 => iterF k2 (evL T C e2 n ρ2)) (slots t2) (fun ρ3 ws2 => compTurn (slots t2) ρ3 ws2 t2 (evTs T C ifs n) (evE T C elt n)) x acc (wipe ρ own)).bind (walkL _ ys) = _
      rw [ht]
      show walkL _ ys (acc ++ (g x).flatMap (f x)) (wipe ρ own) = _
      rw [ih (acc ++ (g x).flatMap (f x)) (fun z hz => hm z (List.mem_cons_of_mem _ hz)) (by rw [List.length_append]; omega)]
      simp
  rw [v_comp2, he, R.bind_ok]
  unfold compEnd
  rw [hl xs [] (fun x h => h) (by simpa using hc)]
  simp [stands, hb]
namespace K62
theorem sl1_3 (a b c : D) : slice (.d (.tup [a, b, c])) (some 1) none = some (.d (.tup [b, c])) := rfl
theorem sl1_2 (a b : D) : slice (.d (.tup [a, b])) (some 1) none = some (.d (.tup [b])) := rfl
def Ln.rest (l : Ln) : List Int := if l.put then [l.key, l.val] else [l.key]
theorem sl_Ln (l : Ln) : slice (.d l.d) (some 1) none = some (.d (dI l.rest)) := by
  cases h : l.put <;> simp [Ln.d, Ln.rest, h, sl1_3, sl1_2, dI]
theorem rest_ok {l : Ln} (h : l.ok) : ∀ i ∈ l.rest, 0 ≤ i ∧ i ≤ 900 := by
  obtain ⟨a, b, c, d⟩ := h
  intro i hi
  cases hp : l.put <;> simp [Ln.rest, hp] at hi
  · subst hi; exact ⟨a, b⟩
  · rcases hi with rfl | rfl
    · exact ⟨a, b⟩
    · exact ⟨c, d⟩
theorem rest_len (l : Ln) : l.rest.length ≤ 2 := by
  cases h : l.put <;> simp [Ln.rest, h]
theorem notin5 : cmp .notin (.d (.str 5)) (.d (.tup [.str 5, .str 6])) = some false := by
  simp [cmp, inO, inSeq, look, items, among, lim_str, eqb]
theorem notin6 : cmp .notin (.d (.str 6)) (.d (.tup [.str 5, .str 6])) = some false := by
  simp [cmp, inO, inSeq, look, items, among, lim_str, eqb]
/-- is_key_line -/
theorem s10 {m : Nat} (hm : 3 ≤ m) (l : Ln) (h : l.ok) (ρ : Ev) : cf m 10 [.d l.d] ρ = .ok (.d (.bl true)) ρ := by
  refine cf_fin (by omega) d10 rfl [l.d] ρ _ rfl fun k hk => ?_
  have hc : evE L.T (calls L.T L.ds k) (.comp (.call 2 [.var 1, .neg (.con 3), .con 3]) (.nm 1) .seq [.sl (.var 0) (.int 1) .abs] [] [1]) k [some (.d l.d), none]
      = .ok (.L ((l.rest.map D.int).flatMap fun _ => [D.bl true])) [some (.d l.d), none] := by
    refine v_comp_pure _ _ _ _ _ _ _ _ _ _ (l.rest.map D.int) (fun _ => [D.bl true]) ?_ rfl (by have := rest_len l; simp; show _ ≤ 16777216; omega) ?_
    · simp [varS, isAbs, sl_Ln]
    · intro y hy
      obtain ⟨i, hi, rfl⟩ := List.mem_map.mp hy
      have e2 := s2 (m := k) (by omega) i (-1000) 1000
      unfold cf at e2
      have b := rest_ok h i hi
      refine ⟨[some (.d l.d), some (.d (.int i))], rfl, rfl, Or.inr ⟨rfl, D.bl true, ?_, rfl⟩⟩
      have c1 : (-1000 : Int) ≤ i := by omega
      have c2 : i ≤ 1000 := by omega
      simp [varS, con3, e2, c1, c2]
  have ha := all_comp (l.rest.map D.int) (fun _ => true)
  cases hp : l.put
  · have hl : l.d = .tup [.str 6, .int l.key] := by simp [Ln.d, hp]
    rw [hl] at hc ⊢
    simp [d10, -v_comp, hc, arg, varS, ha, ifB_b, notin6]
  · have hl : l.d = .tup [.str 5, .int l.key, .int l.val] := by simp [Ln.d, hp]
    rw [hl] at hc ⊢
    simp [d10, -v_comp, hc, arg, varS, ha, ifB_b, notin5]
end K62
end Ev
/-! P62h: the checks of a sheet, sealed_sheet. -/
namespace Ev
theorem iter_rng (ρ : Ev) (a b : Int) (h : (inR a && inR b) = true) : iterF .rng (.ok [.d (.int a), .d (.int b)] ρ) = .ok (upTo a b, []) ρ := by
  simp only [iterF, R.bind_ok, List.map, rs_d, walk]
  rw [if_pos h]; rfl
theorem iter_rng1 (ρ : Ev) (b : Int) (h : inR b = true) : iterF .rng (.ok [.d (.int b)] ρ) = .ok (upTo 0 b, []) ρ := by
  simp only [iterF, R.bind_ok, List.map, rs_d, walk]
  rw [if_pos h]; rfl
theorem inR_sm (i : Int) (h0 : -1000000 ≤ i) (h1 : i ≤ 1000000) : inR i = true := by
  simp [inR]; omega
theorem mem_upTo {lo hi : Int} {x : D} (h : x ∈ upTo lo hi) : ∃ k : Nat, lo + k < hi ∧ x = .int (lo + k) := by
  unfold upTo at h
  obtain ⟨k, hk, rfl⟩ := List.mem_map.mp h
  exact ⟨k, by have := List.mem_range.mp hk; omega, rfl⟩
theorem upTo_len (lo hi : Int) : (upTo lo hi).length = (hi - lo).toNat := by simp [upTo]
theorem all_comp_t (xs : List D) : blt .all [.L (xs.flatMap fun _ => [D.bl true])] = some (.d (.bl true)) := by
  rw [all_comp xs (fun _ => true)]
  simp
namespace K62
abbrev dS (ls : List Ln) : D := .tup (ls.map Ln.d)
structure Sh (ls : List Ln) : Prop where
  ok : ∀ l ∈ ls, l.ok
  one : 1 ≤ ls.length
  most : ls.length ≤ 30
  asc : ∀ i j (hi : i < ls.length) (hj : j < ls.length), i < j → ls[i].key < ls[j].key
theorem ix1 (l : Ln) : index (.d l.d) (.d (.int 1)) = some (.int l.key) := by
  cases h : l.put <;> simp [Ln.d, h]
theorem ixS (ls : List Ln) (k : Nat) (h : k < ls.length) : index (.d (dS ls)) (.d (.int k)) = some ls[k].d := by
  simp [h]
/-- check_log -/
theorem s11 {m : Nat} (hm : 4 ≤ m) (ls : List Ln) (h : Sh ls) (ρ : Ev) : cf m 11 [.d (dS ls), .d (.int 400)] ρ = .ok (.d .non) ρ := by
  refine cf_fin (by omega) d11 rfl [dS ls, .int 400] ρ _ rfl fun k hk => ?_
  have hc : evE L.T (calls L.T L.ds k) (.comp (.call 10 [.var 2]) (.nm 2) .seq [.var 0] [] [2]) k [some (.d (dS ls)), some (.d (.int 400)), none]
      = .ok (.L ((ls.map Ln.d).flatMap fun _ => [D.bl true])) [some (.d (dS ls)), some (.d (.int 400)), none] := by
    refine v_comp_pure _ _ _ _ _ _ _ _ _ _ (ls.map Ln.d) (fun _ => [D.bl true]) (by simp [varS]) rfl (by have := h.most; simp; show _ ≤ 16777216; omega) ?_
    intro y hy
    obtain ⟨l, hl, rfl⟩ := List.mem_map.mp hy
    have e := s10 (m := k) (by omega) l (h.ok l hl)
    unfold cf at e
    refine ⟨[some (.d (dS ls)), some (.d (.int 400)), some (.d l.d)], rfl, rfl, Or.inr ⟨rfl, D.bl true, ?_, rfl⟩⟩
    simp [varS, e]
  have ha := all_comp_t (ls.map Ln.d)
  have hg : ¬ ((400 : Int) < (ls.length : Int)) := by have := h.most; omega
  simp [d11, -v_comp, hc, arg, varS, ha, hg]
theorem all_ite (T : Top) (C : Calls) (k : Nat) (ρ : Ev) (ce : E) (res : List D) (b : List S) (hc : evE T C ce k ρ = .ok (.L res) ρ) (ha : blt .all [.L res] = some (.d (.bl true))) : evB T C [.ite (.not_ (.blt .all [ce])) b []] k ρ = .ok .nx ρ := by
  simp [hc, ha]
/-- check_sheets, of one -/
theorem s12 {m : Nat} (hm : 5 ≤ m) (ls : List Ln) (h : Sh ls) (ρ : Ev) : cf m 12 [.d (.tup [dS ls])] ρ = .ok (.d .non) ρ := by
  refine cf_fin (by omega) d12 rfl [.tup [dS ls]] ρ _ rfl fun k hk => ?_
  have hmost := h.most
  have hc : evE L.T (calls L.T L.ds k) (.comp (.cmp .lt (.ix (.ix (.var 1) (.bin .sub (.var 2) (.int 1))) (.int 1)) (.ix (.ix (.var 1) (.var 2)) (.int 1))) (.nm 2) .rng [.int 1, .blt .len [.var 1]] [] [2]) k [some (.d (.tup [dS ls])), some (.d (dS ls)), none]
      = .ok (.L ((upTo 1 ls.length).flatMap fun _ => [D.bl true])) [some (.d (.tup [dS ls])), some (.d (dS ls)), none] := by
    refine v_comp_pure _ _ _ _ _ _ _ _ _ _ (upTo 1 ls.length) (fun _ => [D.bl true]) ?_ rfl (by rw [upTo_len]; show _ ≤ 16777216; omega) ?_
    · have := iter_rng [some (.d (.tup [dS ls])), some (.d (dS ls)), none] 1 ls.length (by simp only [inR_sm 1 (by omega) (by omega), inR_sm (ls.length : Int) (by omega) (by omega), Bool.and_self])
      simpa [varS] using this
    · intro y hy
      obtain ⟨j, hj, rfl⟩ := mem_upTo hy
      have hj' : j + 1 < ls.length := by omega
      have a1 := ixS ls j (by omega)
      have a2 := ixS ls (j + 1) hj'
      have as := h.asc j (j + 1) (by omega) hj' (by omega)
      rw [show ((j + 1 : Nat) : Int) = 1 + (j : Int) by omega] at a2
      refine ⟨[some (.d (.tup [dS ls])), some (.d (dS ls)), some (.d (.int (1 + j)))], rfl, rfl, Or.inr ⟨rfl, D.bl true, ?_, rfl⟩⟩
      simp only [v_cmp, v_ix, v_var, v_bin, v_int, varS, List.getElem?_cons_succ, List.getElem?_cons_zero, R.bind_ok, rs_d, bin_sub_i, oko_some, show (1 : Int) + (j : Int) - 1 = (j : Int) by omega, a1, a2, okd_some, ix1, cmp_lt_i, as, decide_true, okb_some]
  have ha := all_comp_t (upTo 1 ls.length)
  have e := s11 (m := k) (by omega) ls h
  unfold cf at e
  have hb : evB L.T (calls L.T L.ds k) [.ex (.call 11 [.var 1, .con 1]),
    .ite (.not_ (.blt .all [.comp (.cmp .lt (.ix (.ix (.var 1) (.bin .sub (.var 2) (.int 1))) (.int 1)) (.ix (.ix (.var 1) (.var 2)) (.int 1))) (.nm 2) .rng [.int 1, .blt .len [.var 1]] [] [2]]))
     [.raise 0]
     []] k [some (.d (.tup [dS ls])), some (.d (dS ls)), none] = .ok .nx [some (.d (.tup [dS ls])), some (.d (dS ls)), none] := by
    have h1 : evS L.T (calls L.T L.ds k) (.ex (.call 11 [.var 1, .con 1])) k [some (.d (.tup [dS ls])), some (.d (dS ls)), none] = .ok .nx [some (.d (.tup [dS ls])), some (.d (dS ls)), none] := by
      simp [varS, con1, e]
    have h2 := all_ite L.T (calls L.T L.ds k) k _ _ _ [.raise 0] hc ha
    rw [v_bcons, h1, R.bind_ok]
    exact h2
  have hf : evS L.T (calls L.T L.ds k) (.for_ (.nm 1) .seq [.var 0] [.ex (.call 11 [.var 1, .con 1]),
    .ite (.not_ (.blt .all [.comp (.cmp .lt (.ix (.ix (.var 1) (.bin .sub (.var 2) (.int 1))) (.int 1)) (.ix (.ix (.var 1) (.var 2)) (.int 1))) (.nm 2) .rng [.int 1, .blt .len [.var 1]] [] [2]]))
     [.raise 0]
     []]) k [some (.d (.tup [dS ls])), none, none] = .ok .nx [some (.d (.tup [dS ls])), some (.d (dS ls)), none] := by
    rw [v_for]
    simp only [v_lcons, v_lnil, v_var, varS, List.getElem?_cons_zero, R.bind_ok, iter_tup, List.all_nil, R.grd_true]
    show (R.bind (evB L.T (calls L.T L.ds k) _ k [some (.d (.tup [dS ls])), some (.d (dS ls)), none]) _) = _
    rw [hb]
    rfl
  simp [d12, -v_for, arg, varS, con2, hf]
/-- check_sheet -/
theorem s13 {m : Nat} (hm : 6 ≤ m) (ls : List Ln) (h : Sh ls) (ρ : Ev) : cf m 13 [.d (dS ls)] ρ = .ok (.d .non) ρ := by
  refine cf_fin (by omega) d13 rfl [dS ls] ρ _ rfl fun k hk => ?_
  have hmost := h.most
  have hone := h.one
  have hc : evE L.T (calls L.T L.ds k) (.comp2 (.call 2 [.var 2, .int 0, .con 5]) (.nm 1) .seq [.var 0] (.nm 2) .seq [.sl (.var 1) (.int 1) .abs] [] [1, 2]) k [some (.d (dS ls)), none, none]
      = .ok (.L ((ls.map Ln.d).flatMap fun x => (match slice (.d x) (some 1) none with | some (.d (.tup ys)) => ys | _ => []).flatMap fun _ => [D.bl true])) [some (.d (dS ls)), none, none] := by
    refine v_comp2_pure _ _ _ _ _ _ _ _ _ _ _ _ _ (ls.map Ln.d) (fun x => match slice (.d x) (some 1) none with | some (.d (.tup ys)) => ys | _ => []) (fun _ _ => [D.bl true]) 2 (by simp [varS]) rfl (by simp; show _ ≤ 16777216; omega) ?_ ?_
    · intro y hy
      obtain ⟨l, hl, rfl⟩ := List.mem_map.mp hy
      rw [sl_Ln]
      simpa using rest_len l
    · intro y hy
      obtain ⟨l, hl, rfl⟩ := List.mem_map.mp hy
      have b := rest_ok (h.ok l hl)
      refine ⟨[some (.d (dS ls)), some (.d l.d), none], rfl, ?_, rfl, rfl, ?_⟩
      · simp [varS, isAbs, sl_Ln]
      · rw [sl_Ln]
        intro z hz
        obtain ⟨i, hi, rfl⟩ := List.mem_map.mp hz
        have e2 := s2 (m := k) (by omega) i 0 900
        unfold cf at e2
        have bi := b i hi
        refine ⟨[some (.d (dS ls)), some (.d l.d), some (.d (.int i))], rfl, rfl, Or.inr ⟨rfl, D.bl true, ?_, rfl⟩⟩
        simp [varS, con5, e2, bi.1, bi.2]
  have ha : blt .all [.L ((ls.map Ln.d).flatMap fun x => (match slice (.d x) (some 1) none with | some (.d (.tup ys)) => ys | _ => []).flatMap fun _ => [D.bl true])] = some (.d (.bl true)) := by
    rw [← List.flatMap_assoc]
    exact all_comp_t _
  have e := s12 (m := k) (by omega) ls h
  unfold cf at e
  have g1 : (1 : Int) ≤ ls.length := by omega
  have g2 : (ls.length : Int) ≤ 60 := by omega
  simp [d13, -v_comp2, arg, varS, con4, e, hc, ha, g1, g2]
def nums (ls : List Ln) : List Int := ls.map Ln.num
end K62
end Ev
/-! P62i: is_line, sealed_sheet, check_rows, proof. -/
namespace Ev.K62
/-- is_line -/
theorem s18 {m : Nat} (hm : 3 ≤ m) (l : Ln) (h : l.ok) (ρ : Ev) : cf m 18 [.d l.d] ρ = .ok (.d (.bl true)) ρ := by
  refine cf_fin (by omega) d18 rfl [l.d] ρ _ rfl fun k hk => ?_
  have hc : evE L.T (calls L.T L.ds k) (.comp (.call 2 [.var 1, .int 0, .con 5]) (.nm 1) .seq [.sl (.var 0) (.int 1) .abs] [] [1]) k [some (.d l.d), none]
      = .ok (.L ((l.rest.map D.int).flatMap fun _ => [D.bl true])) [some (.d l.d), none] := by
    refine v_comp_pure _ _ _ _ _ _ _ _ _ _ (l.rest.map D.int) (fun _ => [D.bl true]) ?_ rfl (by have := rest_len l; simp; show _ ≤ 16777216; omega) ?_
    · simp [varS, isAbs, sl_Ln]
    · intro y hy
      obtain ⟨i, hi, rfl⟩ := List.mem_map.mp hy
      have e2 := s2 (m := k) (by omega) i 0 900
      unfold cf at e2
      have b := rest_ok h i hi
      refine ⟨[some (.d l.d), some (.d (.int i))], rfl, rfl, Or.inr ⟨rfl, D.bl true, ?_, rfl⟩⟩
      simp [varS, con5, e2, b.1, b.2]
  have ha := all_comp_t (l.rest.map D.int)
  cases hp : l.put
  · have hl : l.d = .tup [.str 6, .int l.key] := by simp [Ln.d, hp]
    rw [hl] at hc ⊢
    simp [d18, -v_comp, hc, arg, varS, ha, ifB_b, notin6]
  · have hl : l.d = .tup [.str 5, .int l.key, .int l.val] := by simp [Ln.d, hp]
    rw [hl] at hc ⊢
    simp [d18, -v_comp, hc, arg, varS, ha, ifB_b, notin5]
theorem fm_one (xs : List Ln) (g : D → D) : ((xs.map Ln.d).flatMap fun x => [g x]) = xs.map fun l => g l.d := by
  induction xs with
  | nil => rfl
  | cons x xs ih => simp at ih ⊢; exact ih
def numD : D → D
  | .tup [.str _, .int a, .int b] => .int (3000 * a + (b + 1))
  | .tup [.str _, .int a] => .int (3000 * a)
  | _ => .non
theorem numD_d (l : Ln) : numD l.d = .int l.num := by
  cases h : l.put <;> simp [Ln.d, Ln.num, numD, h]
theorem nums_len (ls : List Ln) : (nums ls).length = ls.length := by simp [nums]
/-- sealed_sheet -/
theorem s16 {m : Nat} (hm : 10 ≤ m) (ls : List Ln) (h : Sh ls) (ρ : Ev) : cf m 16 [.d (dS ls)] ρ = .ok (.d (sl (nums ls)).d) ρ := by
  refine cf_fin (by omega) d16 rfl [dS ls] ρ _ rfl fun k hk => ?_
  have hmost := h.most
  have hone := h.one
  have hc : evE L.T (calls L.T L.ds k) (.comp (.call 15 [.var 1]) (.nm 1) .seq [.var 0] [] [1]) k [some (.d (dS ls)), none]
      = .ok (.L ((ls.map Ln.d).flatMap fun x => [numD x])) [some (.d (dS ls)), none] := by
    refine v_comp_pure _ _ _ _ _ _ _ _ _ _ (ls.map Ln.d) (fun x => [numD x]) (by simp [varS]) rfl (by simp; show _ ≤ 16777216; omega) ?_
    intro y hy
    obtain ⟨l, hl, rfl⟩ := List.mem_map.mp hy
    have e := s15 (m := k) (by omega) l
    unfold cf at e
    refine ⟨[some (.d (dS ls)), some (.d l.d)], rfl, rfl, Or.inr ⟨rfl, D.int l.num, ?_, by rw [numD_d]⟩⟩
    simp [varS, e]
  have e13 := s13 (m := k) (by omega) ls h
  have e5 := s5' (m := k) (f := 6) (by omega) (by omega) (nums ls) (by rw [nums_len]; omega) (by rw [nums_len]; omega) (by rw [nums_len]; omega)
  unfold cf at e13 e5
  have hn : ((ls.map Ln.d).flatMap fun x => [numD x]) = (nums ls).map D.int := by
    rw [fm_one, nums, List.map_map]
    exact List.map_congr_left fun l _ => numD_d l
  rw [hn] at hc
  simp only [dI] at e5
  simp [d16, -v_comp, arg, varS, hc, e13, e5]
end Ev.K62
/-! P62j: check_rows, proof. -/
namespace Ev.K62
/-- check_rows -/
theorem s3 {m : Nat} (hm : 2 ≤ m) (xs : List Int) (h1 : 1 ≤ xs.length) (h64 : xs.length ≤ 64) (ρ : Ev) : cf m 3 [.d (dI xs)] ρ = .ok (.d .non) ρ := by
  refine cf_fin (by omega) d3 rfl [dI xs] ρ _ rfl fun k hk => ?_
  have hc : evE L.T (calls L.T L.ds k) (.comp (.call 0 [.var 1]) (.nm 1) .seq [.var 0] [] [1]) k [some (.d (dI xs)), none]
      = .ok (.L ((xs.map D.int).flatMap fun _ => [D.bl true])) [some (.d (dI xs)), none] := by
    refine v_comp_pure _ _ _ _ _ _ _ _ _ _ (xs.map D.int) (fun _ => [D.bl true]) (by simp [varS]) rfl (by simp; show _ ≤ 16777216; omega) ?_
    intro y hy
    obtain ⟨i, hi, rfl⟩ := List.mem_map.mp hy
    have e := s0 (m := k) (by omega) (.int i)
    unfold cf at e
    refine ⟨[some (.d (dI xs)), some (.d (.int i))], rfl, rfl, Or.inr ⟨rfl, D.bl true, ?_, rfl⟩⟩
    simp [varS, e, isI]
  have ha := all_comp_t (xs.map D.int)
  have h2 := all_ite L.T (calls L.T L.ds k) k _ _ _ [.raise 0] hc ha
  have g1 : (1 : Int) ≤ xs.length := by omega
  have g2 : (xs.length : Int) ≤ 64 := by omega
  simp [d3, -v_comp, arg, varS, con0, hc, ha, g1, g2]
/-- proof -/
theorem s7 {m : Nat} (hm : 12 ≤ m) (xs : List Int) (h64 : xs.length ≤ 64) (i : Nat) (hi : i < xs.length) (ρ : Ev) : cf m 7 [.d (dI xs), .d (.int i)] ρ = .ok (.d (dT (prf 7 xs i))) ρ := by
  refine cf_fin (by omega) d7 rfl [dI xs, .int i] ρ _ rfl fun k hk => ?_
  have e3 := s3 (m := k) (by omega) xs (by omega) h64
  have e2 := s2 (m := k) (by omega) i 0 ((xs.length : Int) - 1)
  have e6 := s6 6 (m := k) (by omega) (by omega) xs (by omega) (by omega) h64 i hi
  unfold cf at e3 e2 e6
  have g1 : (i : Int) ≤ (xs.length : Int) - 1 := by omega
  simp only [dI] at e3 e6
  simp [d7, arg, varS, e3, e2, e6, g1]
end Ev.K62
/-! P62k: the plain laws of sealing: proofs show what is there; longer ones show nothing. -/
namespace Ev.K62
theorem bes_sl {xs : List Int} (h1 : 1 ≤ xs.length) (h64 : xs.length ≤ 64) : bes (sl xs) xs.length = some xs := by
  have e := lv_sl xs.length xs (Nat.le_refl _) h1 h64
  unfold bes
  rw [e, if_pos ⟨rfl, rfl⟩]
/-- a proof shows the numbers -/
theorem shw_prf : ∀ (f : Nat) (xs : List Int) (i : Nat) (hi : i < xs.length) (h64 : xs.length ≤ 64) (hf : f < 7) (h : xs.length ≤ 2 ^ f) (x : Int), shw (f + 1) x i xs.length (prf (f + 1) xs i) = some (xs.set i x)
  | f, xs, i, hi, h64, hf, h, x => by
    by_cases e : xs.length = 1
    · obtain ⟨y, rfl⟩ := List.length_eq_one_iff.mp e
      have : i = 0 := by simp at hi; omega
      subst this
      rfl
    · cases f with
      | zero => omega
      | succ f =>
        obtain ⟨g1, g2, g3⟩ := grow_ok xs.length (by omega) (by omega)
        have g4 := grow_pow f (by omega) xs.length (by omega) (by omega) h
        by_cases c : i < grow 6 1 xs.length
        · have hp : prf (f + 1 + 1) xs i = prf (f + 1) (xs.take (grow 6 1 xs.length)) i ++ [sl (xs.drop (grow 6 1 xs.length))] := (if_neg e).trans (if_pos c)
          have ih := shw_prf f (xs.take (grow 6 1 xs.length)) i (by simp; omega) (by simp; omega) (by omega) (by simp; omega) x
          have b := bes_sl (xs := xs.drop (grow 6 1 xs.length)) (by simp; omega) (by simp; omega)
          rw [show (xs.take (grow 6 1 xs.length)).length = grow 6 1 xs.length by simp; omega] at ih
          rw [show ((xs.drop (grow 6 1 xs.length)).length : Int) = (xs.length : Int) - (grow 6 1 xs.length : Nat) by simp; omega] at b
          show (if xs.length = 1 then _ else _) = _
          rw [if_neg e, hp]
          simp only [List.getLast?_append, List.getLast?_singleton, Option.some_or, List.dropLast_concat]
          rw [if_pos c, b, ih]
          simp only
          rw [← List.set_append_left _ _ (by simp; omega), List.take_append_drop]
        · have hp : prf (f + 1 + 1) xs i = prf (f + 1) (xs.drop (grow 6 1 xs.length)) (i - grow 6 1 xs.length) ++ [sl (xs.take (grow 6 1 xs.length))] := (if_neg e).trans (if_neg c)
          have ih := shw_prf f (xs.drop (grow 6 1 xs.length)) (i - grow 6 1 xs.length) (by simp; omega) (by simp; omega) (by omega) (by simp; omega) x
          have b := bes_sl (xs := xs.take (grow 6 1 xs.length)) (by simp; omega) (by simp; omega)
          have lt : (xs.take (grow 6 1 xs.length)).length = grow 6 1 xs.length := by simp; omega
          rw [show (xs.drop (grow 6 1 xs.length)).length = xs.length - grow 6 1 xs.length by simp] at ih
          rw [lt] at b
          show (if xs.length = 1 then _ else _) = _
          rw [if_neg e, hp]
          simp only [List.getLast?_append, List.getLast?_singleton, Option.some_or, List.dropLast_concat]
          rw [if_neg c, b, ih]
          simp only
          have q := List.set_append_right (s := xs.take (grow 6 1 xs.length)) (t := xs.drop (grow 6 1 xs.length)) i x (by omega)
          rw [lt, List.take_append_drop] at q
          rw [q]
/-- how long a proof must be -/
def pl : Nat → Nat → Nat → Nat
  | 0, _, _ => 0
  | f + 1, i, n => if n = 1 then 0 else if i < grow 6 1 n then pl f i (grow 6 1 n) + 1 else pl f (i - grow 6 1 n) (n - grow 6 1 n) + 1
theorem shw_pl : ∀ (f : Nat) (x : Int) (i n : Nat) (ts : List Tm) (r : List Int), shw f x i n ts = some r → ts.length = pl f i n
  | 0, _, _, _, _, _, h => by cases h
  | f + 1, x, i, n, ts, r, h => by
    unfold shw at h
    unfold pl
    split at h
    · next e =>
      rw [if_pos e]
      split at h
      · next e2 => simp [e2]
      · cases h
    · next e =>
      rw [if_neg e]
      split at h
      · cases h
      · next t ht =>
        have hne : ts ≠ [] := by
          intro h0
          rw [h0] at ht; cases ht
        have hl : ts.length = ts.dropLast.length + 1 := by
          have := List.length_pos_iff.mpr hne
          simp; omega
        split at h
        · next c =>
          rw [if_pos c]
          split at h
          · next b r' hb hr => rw [hl, shw_pl f _ _ _ _ _ hr]
          · cases h
        · next c =>
          rw [if_neg c]
          split at h
          · next b r' hb hr => rw [hl, shw_pl f _ _ _ _ _ hr]
          · cases h
/-- one term more: nothing is shown -/
theorem shw_more {xs : List Int} {i : Nat} (hi : i < xs.length) (h64 : xs.length ≤ 64) (x : Int) (t : Tm) : shw 7 x i xs.length (prf 7 xs i ++ [t]) = none := by
  have a := shw_pl 7 x i xs.length (prf 7 xs i) _ (shw_prf 6 xs i hi h64 (by omega) (by omega) x)
  cases h : shw 7 x i xs.length (prf 7 xs i ++ [t]) with
  | none => rfl
  | some r =>
    have b := shw_pl 7 x i xs.length _ _ h
    simp at b; omega
end Ev.K62
/-! P62l: the law's draws. -/
namespace Ev.K62
/-- a call of two by a slot's list and data -/
theorem callF_bd (T : Top) (ds : List Def) (m f : Nat) (d : Def) (hd : ds[f]? = some d) (j : Nat) (p : Bool) (xs ys : List D) (y z : D) (ρ ρ' : Ev) (hj : ρ[j]? = some (some (.L p xs))) (hl : d.np = 2)
    (h : evB T (calls T ds m) d.body m ([some (.L true xs), some (.d y)] ++ List.replicate d.nl none) = .ok (.ret (.d z)) (some (.L true ys) :: some (.d y) :: ρ')) :
    callF (calls T ds (m + 1)) (m + 1) f [.bor j, .d y] ρ = .ok (.d z) (ρ.set j (some (.L p ys))) := by
  have e : calls T ds (m + 1) (m + 1) f [some (.L true xs), some (.d y)] = .ok (.d z) [some (.L true ys), none] := by
    show call T ds (m + 1) f _ = _
    rw [call_succ, hd]
    show runD T (calls T ds m) d m _ = _
    unfold runD
    rw [if_pos (by simp [hl]), h]
    rfl
  unfold callF
  have hh : handL ρ [.bor j, .d y] = some [some (.L true xs), some (.d y)] := by
    simp [handL, hj]
  rw [hh]
  simp only [walked_bor, walked_d, walked_nil, onceEach, List.contains_nil, Bool.not_false, Bool.and_self, if_true, R.opt_some]
  rw [e]
  simp [isBor, handB, hj]
theorem s24 {m : Nat} (hm : 1 ≤ m) (a b hi : Int) (ha : 0 ≤ a) (hb : 0 ≤ b) (h0 : 0 < hi) (h1 : hi < 1073741824) (j : Nat) (p : Bool) (ρ : Ev) (hj : ρ[j]? = some (some (.L p [.int a, .int b]))) :
    ∃ a' b' r : Int, 0 ≤ a' ∧ 0 ≤ b' ∧ 0 ≤ r ∧ r < hi ∧ cf m 24 [.bor j, .d (.int hi)] ρ = .ok (.d (.int r)) (ρ.set j (some (.L p [.int a', .int b']))) := by
  obtain ⟨k, rfl⟩ : ∃ k, m = k + 1 := ⟨m - 1, by omega⟩
  have s : sml 69621 = true := by decide
  by_cases c : 0 < a
  · refine ⟨a / hi, b, a % hi, Int.ediv_nonneg ha (by omega), hb, Int.emod_nonneg _ (by omega), Int.emod_lt_of_pos _ h0, ?_⟩
    refine callF_bd L.T L.ds k 24 d24 rfl j p _ [.int (a / hi), .int b] (.int hi) (.int (a % hi)) ρ [some (.d (.int a))] hj rfl ?_
    simp [d24, varS, rs, index, ixSeq, items, c, store, free, h0, h1, isL, setAt, place, blt, intF]
  · refine ⟨a, (69621 * b) % 2147483647, ((69621 * b) % 2147483647) / 7 % hi, ha, Int.emod_nonneg _ (by omega), Int.emod_nonneg _ (by omega), Int.emod_lt_of_pos _ h0, ?_⟩
    refine callF_bd L.T L.ds k 24 d24 rfl j p _ [.int a, .int ((69621 * b) % 2147483647)] (.int hi) (.int (((69621 * b) % 2147483647) / 7 % hi)) ρ [none] hj rfl ?_
    simp [d24, varS, rs, index, ixSeq, items, c, store, free, h0, h1, isL, setAt, place, blt, intF, s]
end Ev.K62
/-! P62m: the law's stream. -/
namespace Ev.K62
@[simp] theorem int_i (i : Int) : blt .int [.d (.int i)] = some (.d (.int i)) := rfl
@[simp] theorem abs_i (i : Int) : blt .abs [.d (.int i)] = some (.d (.int (if i < 0 then -i else i))) := rfl
theorem s22 {m : Nat} (hm : 1 ≤ m) (ns : List Int) : ∃ a : Int, 0 ≤ a ∧ ∀ ρ, cf m 22 [.d (.lst (ns.map D.int)), .d (.int 0)] ρ = .ok (.d (.int a)) ρ := by
  cases ns with
  | nil =>
    refine ⟨0, by omega, fun ρ => ?_⟩
    refine cf_fin hm d22 rfl [.lst [], .int 0] ρ _ rfl fun k hk => ?_
    simp [d22, arg, varS]
  | cons x ns =>
    refine ⟨if x < 0 then -x else x, by split <;> omega, fun ρ => ?_⟩
    refine cf_fin hm d22 rfl [.lst ((x :: ns).map D.int), .int 0] ρ _ rfl fun k hk => ?_
    have g : (0 : Int) < (ns.length : Int) + 1 := by omega
    simp [d22, arg, varS, g]
theorem s23 {m : Nat} (hm : 2 ≤ m) (ns : List Int) (ρ : Ev) : ∃ a b : Int, 0 ≤ a ∧ 0 ≤ b ∧ cf m 23 [.d (.lst (ns.map D.int)), .d (.int 0)] ρ = .ok (.L [.int a, .int b]) ρ := by
  obtain ⟨k, rfl⟩ : ∃ k, m = k + 1 := ⟨m - 1, by omega⟩
  obtain ⟨a, ha, e⟩ := s22 (m := k) (by omega) ns
  refine ⟨a, 1 + (48271 * a) % 2147483647, ha, ?_, ?_⟩
  · have := Int.emod_nonneg (48271 * a) (b := 2147483647) (by omega)
    omega
  · refine cf_fin (by omega) d23 rfl [.lst (ns.map D.int), .int 0] ρ _ rfl fun k' hk => ?_
    obtain rfl : k' = k := by omega
    unfold cf at e
    have s : sml 48271 = true := by decide
    simp [d23, arg, varS, e, s]
end Ev.K62
/-! P62n: the law's own term. -/
namespace Ev.K62
def bodyT : List S := [.set 1 (.ite (.cmp .lt (.bin .mul (.int 2) (.var 1)) (.blt .len [.var 0])) (.bin .mul (.int 2) (.var 1)) (.var 1))]
theorem grow_stay : ∀ (g p n : Nat), ¬ 2 * p < n → grow g p n = p
  | 0, p, n, h => rfl
  | g + 1, p, n, h => by
    unfold grow
    rw [if_neg h]
theorem grow_for (C : Calls) (lv : Nat) (xs : List Int) (ρ0 : Ev) : ∀ (ys : List D) (p : Nat) (w : Option W), (w = none ∨ ∃ y, w = some (.d y)) →
    ∃ w', forL [] ρ0 (.nm 2) (evB L.T C bodyT lv) ys [some (.d (dI xs)), some (.d (.int p)), w] = .ok .nx [some (.d (dI xs)), some (.d (.int (grow ys.length p xs.length : Nat))), w']
  | [], p, w, hw => ⟨w, rfl⟩
  | y :: ys, p, w, hw => by
    have s : sml 2 = true := by decide
    by_cases c : 2 * p < xs.length
    · have ci : (2 : Int) * p < xs.length := by omega
      obtain ⟨w', e⟩ := grow_for C lv xs ρ0 ys (2 * p) (some (.d y)) (Or.inr ⟨_, rfl⟩)
      refine ⟨w', ?_⟩
      rw [show grow (y :: ys).length p xs.length = grow ys.length (2 * p) xs.length from if_pos c, ← e]
      have hb : evB L.T C bodyT lv [some (.d (dI xs)), some (.d (.int p)), some (.d y)] = .ok .nx [some (.d (dI xs)), some (.d (.int (2 * p : Nat))), some (.d y)] := by
        simp [bodyT, varS, s, ci, ifB_b, store, free]
      rcases hw with rfl | ⟨z, rfl⟩ <;>
      · show (R.bind (evB L.T C bodyT lv [some (.d (dI xs)), some (.d (.int p)), some (.d y)]) _) = _
        rw [hb]
        rfl
    · have ci : ¬ ((2 : Int) * p < xs.length) := by omega
      obtain ⟨w', e⟩ := grow_for C lv xs ρ0 ys p (some (.d y)) (Or.inr ⟨_, rfl⟩)
      refine ⟨w', ?_⟩
      rw [show grow (y :: ys).length p xs.length = p from if_neg c, ← grow_stay ys.length p _ c, grow_stay ys.length p _ c]
      rw [grow_stay ys.length p _ c] at e
      rw [← e]
      have hb : evB L.T C bodyT lv [some (.d (dI xs)), some (.d (.int p)), some (.d y)] = .ok .nx [some (.d (dI xs)), some (.d (.int p)), some (.d y)] := by
        simp [bodyT, varS, s, ci, ifB_b, store, free]
      rcases hw with rfl | ⟨z, rfl⟩ <;>
      · show (R.bind (evB L.T C bodyT lv [some (.d (dI xs)), some (.d (.int p)), some (.d y)]) _) = _
        rw [hb]
        rfl
/-- _law_term -/
theorem s28 : ∀ (f : Nat) {m : Nat} (hm : f + 2 ≤ m) (hf : f < 7) (xs : List Int) (h1 : 1 ≤ xs.length) (h : xs.length ≤ 2 ^ f) (h64 : xs.length ≤ 64) (ρ : Ev),
    cf m 28 [.d (dI xs)] ρ = .ok (.d (sl xs).d) ρ
  | f, m, hm, hf, xs, h1, h, h64, ρ => by
    refine cf_fin (by omega) d28 rfl [dI xs] ρ _ rfl fun k hk => ?_
    by_cases e : xs.length = 1
    · obtain ⟨x, rfl⟩ := List.length_eq_one_iff.mp e
      simp [d28, arg, varS, dI, sl_1, Tm.d, ifB_b]
    · have ei : ¬ ((xs.length : Int) = 1) := by omega
      cases f with
      | zero => omega
      | succ f =>
        obtain ⟨g1, g2, g3⟩ := grow_ok xs.length (by omega) (by omega)
        have g4 := grow_pow f (by omega) xs.length (by omega) (by omega) h
        obtain ⟨w', ef⟩ := grow_for (calls L.T L.ds k) k xs [some (.d (dI xs)), some (.d (.int 1)), none] (upTo 0 6) 1 none (Or.inl rfl)
        have hr := iter_rng1 [some (.d (dI xs)), some (.d (.int 1)), none] 6 (inR_sm 6 (by omega) (by omega))
        have e4 : evS L.T (calls L.T L.ds k) (.for_ (.nm 2) .rng [.int 6] bodyT) k [some (.d (dI xs)), some (.d (.int 1)), none] = .ok .nx [some (.d (dI xs)), some (.d (.int (grow 6 1 xs.length : Nat))), w'] := by
          rw [v_for]
          simp only [v_lcons, v_lnil, v_int, R.bind_ok, hr, List.all_nil, R.grd_true]
          exact ef
        have ea := s28 f (m := k) (by omega) (by omega) (xs.take (grow 6 1 xs.length)) (by simp; omega) (by simp; omega) (by simp; omega)
        have eb := s28 f (m := k) (by omega) (by omega) (xs.drop (grow 6 1 xs.length)) (by simp; omega) (by simp; omega) (by simp; omega)
        unfold cf at ea eb
        have sa := slice_take (xs.map D.int) (grow 6 1 xs.length) (by simp; omega)
        have sb := slice_drop (xs.map D.int) (grow 6 1 xs.length) (by simp; omega)
        simp only [dI, List.map_take, List.map_drop] at ea eb
        simp only [bodyT, dI] at e4
        rw [sl_j (by omega) h64, Tm.d]
        simp [d28, -v_for, arg, varS, dI, e, ei, e4, store, free, isAbs, sa, sb, ea, eb, ifB_b]
end Ev.K62
/-! P62o: what absent tells. -/
namespace Ev.K62
def keyD : D → Int
  | .tup [.str _, .int a, .int _] => a
  | .tup [.str _, .int a] => a
  | _ => 0
theorem keyD_d (l : Ln) : keyD l.d = l.key := by
  cases h : l.put <;> simp [Ln.d, keyD, h]
def plc (ls : List Ln) (key : Int) : Nat := (ls.filter fun l => decide (l.key < key)).length
theorem plc_len (ls : List Ln) (key : Int) : ((ls.map Ln.d).flatMap fun x => if keyD x < key then [x] else []).length = plc ls key := by
  induction ls with
  | nil => rfl
  | cons l ls ih =>
    unfold plc at ih ⊢
    simp only [List.map_cons, List.flatMap_cons, List.length_append, ih, keyD_d, List.filter_cons]
    by_cases c : l.key < key <;> simp [c] <;> omega
def paper (ls : List Ln) (i : Nat) : D := .tup [(ls.getD i default).d, .int i, dT (prf 7 (nums ls) i)]
def papD (ls : List Ln) : D → List D
  | .int i => if 0 ≤ i ∧ i < ls.length then [paper ls i.toNat] else []
  | _ => []
def told (ls : List Ln) (p : Int) : List D := papD ls (.int (p - 1)) ++ papD ls (.int p)
theorem any_keys (C : Calls) (k : Nat) (ls : List Ln) (key : Int) (h30 : ls.length ≤ 64) :
    evE L.T C (.comp (.cmp .eq (.ix (.var 4) (.int 1)) (.var 1)) (.nm 4) .seq [.var 0] [] [4]) k [some (.d (dS ls)), some (.d (.int key)), none, none, none, none]
      = .ok (.L ((ls.map Ln.d).flatMap fun x => [D.bl (keyD x == key)])) [some (.d (dS ls)), some (.d (.int key)), none, none, none, none] := by
  refine v_comp_pure _ _ _ _ _ _ _ _ _ _ (ls.map Ln.d) (fun x => [D.bl (keyD x == key)]) (by simp [varS]) rfl (by simp; show _ ≤ 16777216; omega) ?_
  intro y hy
  obtain ⟨l, hl, rfl⟩ := List.mem_map.mp hy
  have i1 := ix1 l
  refine ⟨[some (.d (dS ls)), some (.d (.int key)), none, none, some (.d l.d), none], rfl, rfl, Or.inr ⟨rfl, D.bl (l.key == key), ?_, by rw [keyD_d]⟩⟩
  simp only [v_cmp, v_ix, v_var, v_int, varS, List.getElem?_cons_succ, List.getElem?_cons_zero, R.bind_ok, rs_d, i1, okd_some, cmp_eq_d, same_ii, okb_some]
theorem less_keys (C : Calls) (k : Nat) (ls : List Ln) (key : Int) (h30 : ls.length ≤ 64) :
    evE L.T C (.comp (.var 4) (.nm 4) .seq [.var 0] [.cmp .lt (.ix (.var 4) (.int 1)) (.var 1)] [4]) k [some (.d (dS ls)), some (.d (.int key)), none, none, none, none]
      = .ok (.L ((ls.map Ln.d).flatMap fun x => if keyD x < key then [x] else [])) [some (.d (dS ls)), some (.d (.int key)), none, none, none, none] := by
  refine v_comp_pure _ _ _ _ _ _ _ _ _ _ (ls.map Ln.d) (fun x => if keyD x < key then [x] else []) (by simp [varS]) rfl (by simp; show _ ≤ 16777216; omega) ?_
  intro y hy
  obtain ⟨l, hl, rfl⟩ := List.mem_map.mp hy
  have i1 := ix1 l
  refine ⟨[some (.d (dS ls)), some (.d (.int key)), none, none, some (.d l.d), none], rfl, rfl, ?_⟩
  rw [keyD_d]
  by_cases c : l.key < key
  · refine Or.inr ⟨?_, l.d, rfl, by rw [if_pos c]⟩
    simp only [v_tcons, v_tnil, v_cmp, v_ix, v_var, v_int, varS, List.getElem?_cons_succ, List.getElem?_cons_zero, R.bind_ok, rs_d, i1, okd_some, cmp_lt_i, okb_some, asT_d, truth_bl, R.opt_some, c, decide_true, ifB_t]
  · refine Or.inl ⟨?_, by rw [if_neg c]⟩
    simp only [v_tcons, v_tnil, v_cmp, v_ix, v_var, v_int, varS, List.getElem?_cons_succ, List.getElem?_cons_zero, R.bind_ok, rs_d, i1, okd_some, cmp_lt_i, okb_some, asT_d, truth_bl, R.opt_some, c, decide_false, ifB_f]
theorem num_rows (k : Nat) (hk : 1 ≤ k) (ls : List Ln) (key : Int) (p : W) (h30 : ls.length ≤ 64) :
    evE L.T (calls L.T L.ds k) (.comp (.call 15 [.var 4]) (.nm 4) .seq [.var 0] [] [4]) k [some (.d (dS ls)), some (.d (.int key)), some p, none, none, none]
      = .ok (.L ((nums ls).map D.int)) [some (.d (dS ls)), some (.d (.int key)), some p, none, none, none] := by
  have hn : ((ls.map Ln.d).flatMap fun x => [numD x]) = (nums ls).map D.int := by
    rw [fm_one, nums, List.map_map]
    exact List.map_congr_left fun l _ => numD_d l
  rw [← hn]
  refine v_comp_pure _ _ _ _ _ _ _ _ _ _ (ls.map Ln.d) (fun x => [numD x]) (by simp [varS]) rfl (by simp; show _ ≤ 16777216; omega) ?_
  intro y hy
  obtain ⟨l, hl, rfl⟩ := List.mem_map.mp hy
  have e := s15 (m := k) (by omega) l
  unfold cf at e
  refine ⟨[some (.d (dS ls)), some (.d (.int key)), some p, none, some (.d l.d), none], rfl, rfl, Or.inr ⟨rfl, D.int l.num, ?_, by rw [numD_d]⟩⟩
  simp [varS, e]
theorem paps (k : Nat) (hk : 12 ≤ k) (ls : List Ln) (h : Sh ls) (key : Int) (p : Int) :
    evE L.T (calls L.T L.ds k) (.comp (.tup [.ix (.var 0) (.var 5), .var 5, .call 6 [.var 3, .var 5]]) (.nm 5) .seq [.tup [.bin .sub (.var 2) (.int 1), .var 2]] [.chain .le .lt (.int 0) (.var 5) (.blt .len [.var 0])] [5]) k [some (.d (dS ls)), some (.d (.int key)), some (.d (.int p)), some (.d (dI (nums ls))), none, none]
      = .ok (.L (told ls p)) [some (.d (dS ls)), some (.d (.int key)), some (.d (.int p)), some (.d (dI (nums ls))), none, none] := by
  have ht : told ls p = [D.int (p - 1), D.int p].flatMap (papD ls) := by simp [told]
  rw [ht]
  refine v_comp_pure _ _ _ _ _ _ _ _ _ _ [.int (p - 1), .int p] (papD ls) (by simp [varS]) rfl (by simp; show _ ≤ 16777216; omega) ?_
  intro y hy
  obtain ⟨i, rfl⟩ : ∃ i, y = .int i := by
    simp at hy
    rcases hy with rfl | rfl <;> exact ⟨_, rfl⟩
  refine ⟨[some (.d (dS ls)), some (.d (.int key)), some (.d (.int p)), some (.d (dI (nums ls))), none, some (.d (.int i))], rfl, rfl, ?_⟩
  have hm := h.most
  by_cases c0 : 0 ≤ i
  · by_cases c1 : i < ls.length
    · refine Or.inr ⟨by simp [varS, c0, c1], paper ls i.toNat, ?_, by simp [papD, c0, c1]⟩
      obtain ⟨j, rfl⟩ : ∃ j : Nat, i = j := ⟨i.toNat, by omega⟩
      have hj : j < ls.length := by omega
      have ix := ixS ls j hj
      have e6 := s6 6 (m := k) (by omega) (by omega) (nums ls) (by rw [nums_len]; omega) (by rw [nums_len]; omega) (by rw [nums_len]; omega) j (by rw [nums_len]; omega)
      unfold cf at e6
      simp only [v_tup, v_lcons, v_lnil, v_ix, v_var, v_call, varS, List.getElem?_cons_succ, List.getElem?_cons_zero, R.bind_ok, rs_d, ix, okd_some, e6, keeps_d, keeps_nil, Option.map_some, R.opt_some]
      simp [paper, hj]
    · exact Or.inl ⟨by simp [varS, c0, c1], by simp [papD, c1]⟩
  · exact Or.inl ⟨by simp [varS, c0], by simp [papD, c0]⟩
theorem any_keys' (ls : List Ln) (key : Int) : blt .any [.L ((ls.map Ln.d).flatMap fun x => [D.bl (keyD x == key)])] = some (.d (.bl (ls.any fun l => l.key == key))) := by
  rw [any_comp, List.any_map]
  congr 4
  funext l
  simp [keyD_d]
/-- absent -/
theorem s17 {m : Nat} (hm : 14 ≤ m) (ls : List Ln) (h : Sh ls) (key : Int) (h0 : 0 ≤ key) (h9 : key ≤ 900) (ρ : Ev) :
    cf m 17 [.d (dS ls), .d (.int key)] ρ = .ok (.d (if (ls.any fun l => l.key == key) = true then .non else .tup (told ls (plc ls key)))) ρ := by
  refine cf_fin (by omega) d17 rfl [dS ls, .int key] ρ _ rfl fun k hk => ?_
  have hmost := h.most
  have e13 := s13 (m := k) (by omega) ls h
  have e14 := s14 (m := k) (by omega) key h0 h9
  unfold cf at e13 e14
  have c1 := any_keys (calls L.T L.ds k) k ls key (by omega)
  have c2 := less_keys (calls L.T L.ds k) k ls key (by omega)
  have c3 := num_rows k (by omega) ls key (.d (.int (plc ls key))) (by omega)
  have c4 := paps k (by omega) ls h key (plc ls key)
  have ha := any_keys' ls key
  have hl := plc_len ls key
  by_cases c : (ls.any fun l => l.key == key) = true
  · simp [d17, -v_comp, arg, varS, e13, e14, c1, ha, c]
  · simp [d17, -v_comp, arg, varS, e13, e14, c1, c2, c3, c4, ha, c, hl, store, free]
end Ev.K62
/-! P62p: walks that change a slot; the law's sheet. -/
namespace Ev
inductive All2 {α β : Type} (Q : α → β → Prop) : List α → List β → Prop
  | nil : All2 Q [] []
  | cons {x y xs ys} : Q x y → All2 Q xs ys → All2 Q (x :: xs) (y :: ys)
theorem All2.len {α β : Type} {Q : α → β → Prop} {xs : List α} {ys : List β} (h : All2 Q xs ys) : ys.length = xs.length := by
  induction h with
  | nil => rfl
  | cons _ _ ih => simp [ih]
theorem walk_inv (turn : D → List D → Ev → R (List D)) (Inv : Ev → Prop) (Q : D → D → Prop) : ∀ (xs acc : List D) (ρ : Ev), Inv ρ → acc.length + xs.length ≤ cap →
    (∀ x ∈ xs, ∀ (acc : List D) (ρ : Ev), Inv ρ → acc.length < cap → ∃ y ρ', turn x acc ρ = .ok (acc ++ [y]) ρ' ∧ Inv ρ' ∧ Q x y) →
    ∃ ys ρ', walkL turn xs acc ρ = .ok (acc ++ ys) ρ' ∧ Inv ρ' ∧ All2 Q xs ys
  | [], acc, ρ, hi, _, _ => ⟨[], ρ, by simp [walkL], hi, .nil⟩
  | x :: xs, acc, ρ, hi, hc, h => by
    have hc' : acc.length + (xs.length + 1) ≤ cap := by simpa using hc
    obtain ⟨y, ρ1, e, i1, q⟩ := h x (by simp) acc ρ hi (by omega)
    obtain ⟨ys, ρ2, e2, i2, q2⟩ := walk_inv turn Inv Q xs (acc ++ [y]) ρ1 i1 (by rw [List.length_append]; simp; omega) (fun z hz => h z (List.mem_cons_of_mem _ hz))
    refine ⟨y :: ys, ρ2, ?_, i2, .cons q q2⟩
    show (turn x acc ρ).bind (walkL turn xs) = _
    rw [e]
    show walkL turn xs (acc ++ [y]) ρ1 = _
    rw [e2]
    simp
end Ev
/-! P62q: the law's sheet (1): its keys. -/
namespace Ev.K62
/-- the box, and the rest of the slots as it was -/
def Bx (w : Option W) (ρ : Ev) : Prop := ∃ a b : Int, 0 ≤ a ∧ 0 ≤ b ∧ ρ = [some (.L true [.int a, .int b]), w, none, none]
theorem turn1 (k : Nat) (hk : 1 ≤ k) (ρ1 : Ev) (x : D) (acc : List D) (ρ : Ev) (hi : Bx none ρ) (hc : acc.length < cap) :
    ∃ y ρ', compTurn [3] ρ1 [] (.nm 3) (evTs L.T (calls L.T L.ds k) [] k) (evE L.T (calls L.T L.ds k) (.bin .mul (.call 24 [.var 0, .int 60]) (.int 15)) k) x acc ρ = .ok (acc ++ [y]) ρ' ∧ Bx none ρ' ∧ ∃ r : Int, 0 ≤ r ∧ r < 60 ∧ y = .int (r * 15) := by
  obtain ⟨a, b, ha, hb, rfl⟩ := hi
  obtain ⟨a', b', r, ha', hb', hr, hr', e⟩ := s24 hk a b 60 ha hb (by omega) (by omega) 0 true [some (.L true [.int a, .int b]), none, none, some (.d x)] rfl
  refine ⟨.int (r * 15), _, ?_, ⟨a', b', ha', hb', rfl⟩, r, hr, hr', rfl⟩
  unfold cf at e
  have s : (sml r || sml 15) = true := by simp [show sml 15 = true by decide]
  unfold compTurn
  simp [stands, bindT, store, free, varS, e, wipe, hc, bin, mulO, show sml 15 = true by decide]
end Ev.K62
/-! P62r: sorted sets of ints. -/
namespace Ev
inductive Rise : List Int → Prop
  | nil : Rise []
  | cons {x xs} : (∀ y ∈ xs, x < y) → Rise xs → Rise (x :: xs)
theorem insS_mem1 (x : Int) : ∀ (xs : List Int) (y : Int), y ∈ insS x xs → y = x ∨ y ∈ xs
  | [], y, h => by simp [insS] at h; exact Or.inl h
  | z :: xs, y, h => by
    unfold insS at h
    split at h
    · simpa using h
    · split at h
      · exact Or.inr h
      · simp at h
        rcases h with rfl | h
        · exact Or.inr (by simp)
        · rcases insS_mem1 x xs y h with rfl | h
          · exact Or.inl rfl
          · exact Or.inr (by simp [h])
theorem insS_rise (x : Int) : ∀ (xs : List Int), Rise xs → Rise (insS x xs)
  | [], h => .cons (by simp) .nil
  | z :: xs, h => by
    cases h with
    | cons hz hx =>
      unfold insS
      split
      · next c =>
        refine .cons ?_ (.cons hz hx)
        intro y hy
        simp at hy
        rcases hy with rfl | hy
        · exact c
        · have := hz y hy
          omega
      · split
        · exact .cons hz hx
        · refine .cons ?_ (insS_rise x xs hx)
          intro y hy
          rcases insS_mem1 x xs y hy with rfl | hy
          · omega
          · exact hz y hy
theorem insS_len (x : Int) : ∀ (xs : List Int), 1 ≤ (insS x xs).length ∧ (insS x xs).length ≤ xs.length + 1
  | [] => by simp [insS]
  | z :: xs => by
    have := insS_len x xs
    unfold insS
    split
    · simp
    · split
      · simp
      · simp; omega
theorem sortS_rise : ∀ xs : List Int, Rise (sortS xs)
  | [] => .nil
  | x :: xs => insS_rise x _ (sortS_rise xs)
theorem sortS_mem1 : ∀ (xs : List Int) (y : Int), y ∈ sortS xs → y ∈ xs
  | [], y, h => by cases h
  | x :: xs, y, h => by
    rcases insS_mem1 x _ y h with rfl | h
    · simp
    · exact List.mem_cons_of_mem _ (sortS_mem1 xs y h)
theorem sortS_len : ∀ (xs : List Int), (sortS xs).length ≤ xs.length
  | [] => by simp [sortS]
  | x :: xs => by
    have a := sortS_len xs
    have b := (insS_len x (sortS xs)).2
    simp only [sortS, List.length_cons]; omega
theorem sortS_pos : ∀ (xs : List Int), 1 ≤ xs.length → 1 ≤ (sortS xs).length
  | [], h => by simp at h
  | x :: xs, h => (insS_len x (sortS xs)).1
end Ev
/-! P62s: the law's sheet (2). -/
namespace Ev.K62
def kQ (x y : D) : Prop := ∃ r : Int, 0 ≤ r ∧ r < 60 ∧ y = .int (r * 15)
def kE : E := .comp (.bin .mul (.call 24 [.var 0, .int 60]) (.int 15)) (.nm 3) .rng [.bin .add (.int 1) (.call 24 [.var 0, .int 30])] [] [3]
theorem keys_comp (k : Nat) (hk : 1 ≤ k) (a b : Int) (ha : 0 ≤ a) (hb : 0 ≤ b) :
    ∃ (ys : List Int) (ρ' : Ev), evE L.T (calls L.T L.ds k) kE k [some (.L true [.int a, .int b]), none, none, none] = .ok (.L (ys.map D.int)) ρ' ∧ Bx none ρ' ∧ 1 ≤ ys.length ∧ ys.length ≤ 30 ∧ ∀ y ∈ ys, ∃ r : Int, 0 ≤ r ∧ r < 60 ∧ y = r * 15 := by
  obtain ⟨a', b', r, ha', hb', hr, hr', e⟩ := s24 hk a b 30 ha hb (by omega) (by omega) 0 true [some (.L true [.int a, .int b]), none, none, none] rfl
  unfold cf at e
  obtain ⟨ys, ρ', e2, i2, q⟩ := walk_inv (compTurn [3] [some (.L true [.int a', .int b']), none, none, none] [] (.nm 3) (evTs L.T (calls L.T L.ds k) [] k) (evE L.T (calls L.T L.ds k) (.bin .mul (.call 24 [.var 0, .int 60]) (.int 15)) k)) (Bx none) kQ (upTo 0 (1 + r)) [] [some (.L true [.int a', .int b']), none, none, none]
    ⟨a', b', ha', hb', rfl⟩ (by rw [upTo_len]; show _ ≤ 16777216; simp; omega) (fun x hx acc ρ hi hc => turn1 k hk _ x acc ρ hi hc)
  have hz : ∃ zs : List Int, ys = zs.map D.int ∧ ∀ y ∈ zs, ∃ r : Int, 0 ≤ r ∧ r < 60 ∧ y = r * 15 := by
    clear e2 i2
    generalize upTo 0 (1 + r) = us at q
    induction q with
    | nil => exact ⟨[], rfl, by simp⟩
    | cons q1 _ ih =>
      obtain ⟨zs, rfl, hz⟩ := ih
      obtain ⟨r, h0, h1, rfl⟩ := q1
      exact ⟨r * 15 :: zs, rfl, fun y hy => by
        rcases List.mem_cons.mp hy with rfl | hy
        · exact ⟨r, h0, h1, rfl⟩
        · exact hz y hy⟩
  obtain ⟨zs, rfl, hz⟩ := hz
  have hl := q.len
  rw [upTo_len, List.length_map] at hl
  obtain ⟨a2, b2, ha2, hb2, rfl⟩ := i2
  refine ⟨zs, _, ?_, ⟨a2, b2, ha2, hb2, rfl⟩, by omega, by omega, hz⟩
  have hi := iter_rng1 [some (.L true [.int a', .int b']), none, none, none] (1 + r) (inR_sm _ (by omega) (by omega))
  have ea : evL L.T (calls L.T L.ds k) [.bin .add (.int 1) (.call 24 [.var 0, .int 30])] k [some (.L true [.int a, .int b]), none, none, none] = .ok [.d (.int (1 + r))] [some (.L true [.int a', .int b']), none, none, none] := by
    simp [varS, e]
  unfold kE
  rw [v_comp, ea, hi, R.bind_ok]
  show compEnd _ _ [] (walkL _ (upTo 0 (1 + r)) [] [some (.L true [.int a', .int b']), none, none, none]) = _
  rw [e2]
  rfl
end Ev.K62
/-! P62t: the law's sheet (3). -/
namespace Ev
theorem beqs_ints : ∀ xs : List Int, D.beqs (xs.map D.int) (xs.map D.int) = true
  | [] => by simp [D.beqs]
  | x :: xs => by simp [D.beqs, D.beq, beqs_ints xs]
theorem intsOf_ints : ∀ xs : List Int, intsOf (xs.map D.int) = some xs
  | [] => rfl
  | x :: xs => by simp [intsOf, intsOf_ints xs]
theorem sortedSet_L (xs : List Int) (h : xs.length < 64) : blt .sortedSet [.L (xs.map D.int)] = some (.L ((sortS xs).map D.int)) := by
  show ((itemsL (.L (xs.map D.int))).bind fun xs => (intsOf xs).bind fun ns => if ns.length < 64 then some (O.L ((sortS ns).map .int)) else none) = _
  simp [itemsL, intsOf_ints, h]
namespace K62
/-- a drawn line of a key -/
def lQ (x y : D) : Prop := ∃ l : Ln, y = l.d ∧ x = .int l.key ∧ 0 ≤ l.val ∧ l.val ≤ 900
def lE : E := .ite (.cmp .eq (.call 24 [.var 0, .int 3]) (.int 0)) (.tup [.str 6, .var 2]) (.tup [.str 5, .var 2, .call 24 [.var 0, .int 901]])
theorem turn2 (k : Nat) (hk : 1 ≤ k) (ks : List Int) (a0 b0 : Int) (key : Int) (acc : List D) (ρ : Ev) (hi : Bx (some (.L false (ks.map D.int))) ρ) (hc : acc.length < cap) :
    ∃ y ρ', compTurn [2] [some (.L true [.int a0, .int b0]), some (.L false (ks.map D.int)), none, none] [1] (.nm 2) (evTs L.T (calls L.T L.ds k) [] k) (evE L.T (calls L.T L.ds k) lE k) (.int key) acc ρ = .ok (acc ++ [y]) ρ' ∧ Bx (some (.L false (ks.map D.int))) ρ' ∧ lQ (.int key) y := by
  obtain ⟨a, b, ha, hb, rfl⟩ := hi
  obtain ⟨a', b', r, ha', hb', hr, hr', e⟩ := s24 hk a b 3 ha hb (by omega) (by omega) 0 true [some (.L true [.int a, .int b]), some (.L false (ks.map D.int)), some (.d (.int key)), none] rfl
  obtain ⟨a2, b2, r2, ha2, hb2, hr2, hr2', e2⟩ := s24 hk a' b' 901 ha' hb' (by omega) (by omega) 0 true [some (.L true [.int a', .int b']), some (.L false (ks.map D.int)), some (.d (.int key)), none] rfl
  unfold cf at e e2
  simp only [List.set_cons_zero] at e e2
  have bq := beqs_ints ks
  by_cases c : r = 0
  · refine ⟨(Ln.mk false key 0).d, _, ?_, ⟨a', b', ha', hb', rfl⟩, Ln.mk false key 0, rfl, rfl, by simp, by simp⟩
    unfold compTurn lE
    simp [stands, bq, bindT, store, free, varS, e, wipe, hc, c, Ln.d]
  · refine ⟨(Ln.mk true key r2).d, _, ?_, ⟨a2, b2, ha2, hb2, rfl⟩, Ln.mk true key r2, rfl, rfl, hr2, by simp; omega⟩
    unfold compTurn lE
    have cb : (r == 0) = false := by simp [c]
    simp [stands, bq, bindT, store, free, varS, e, e2, wipe, hc, cb, Ln.d]
/-- sheets from rising keys -/
theorem sheet_of : ∀ (ks : List Int) (ys : List D), All2 lQ (ks.map D.int) ys → ∃ ls : List Ln, ys = ls.map Ln.d ∧ ls.map Ln.key = ks ∧ ∀ l ∈ ls, 0 ≤ l.val ∧ l.val ≤ 900
  | [], ys, h => by
    cases h
    exact ⟨[], rfl, rfl, by simp⟩
  | x :: ks, ys, h => by
    cases h with
    | cons q t =>
      obtain ⟨ls, rfl, hk, hv⟩ := sheet_of ks _ t
      obtain ⟨l, rfl, hx, h0, h1⟩ := q
      refine ⟨l :: ls, rfl, ?_, ?_⟩
      · have : x = l.key := by injection hx
        simp [hk, this]
      · intro z hz
        rcases List.mem_cons.mp hz with rfl | hz
        · exact ⟨h0, h1⟩
        · exact hv z hz
theorem rise_get : ∀ (ks : List Int), Rise ks → ∀ i j (hi : i < ks.length) (hj : j < ks.length), i < j → ks[i] < ks[j]
  | [], _, i, j, hi, hj, h => by simp at hi
  | x :: ks, hr, i, j, hi, hj, h => by
    cases hr with
    | cons hx hr =>
      cases j with
      | zero => omega
      | succ j =>
        cases i with
        | zero => exact hx _ (List.getElem_mem _)
        | succ i => exact rise_get ks hr i j _ _ (by omega)
end K62
end Ev
/-! P62u: comprehensions over coded rows; what is read back; told. -/
namespace Ev
theorem walk_enc {α : Type} (own : List Nat) (ρ1 : Ev) (ws : List Nat) (tg : Tg) (tests : Ev → R Bool) (elt : Ev → R O) (enc : α → D) (f : α → List D) (ρ : Ev) (hs : stands ρ1 ρ ws = true) : ∀ (ys : List α) (acc : List D),
    (∀ x ∈ ys, ∃ ρ2, bindT tg (enc x) ρ = some ρ2 ∧ wipe ρ2 own = ρ ∧ ((tests ρ2 = .ok false ρ2 ∧ f x = []) ∨ (tests ρ2 = .ok true ρ2 ∧ ∃ y, elt ρ2 = .ok (.d y) ρ2 ∧ f x = [y]))) →
    acc.length + ys.length ≤ cap → walkL (compTurn own ρ1 ws tg tests elt) (ys.map enc) acc ρ = .ok (acc ++ ys.flatMap f) ρ
  | [], acc, _, _ => by simp [walkL]
  | x :: ys, acc, h, hcap => by
    obtain ⟨ρ2, e1, e2, e3⟩ := h x (by simp)
    show (compTurn own ρ1 ws tg tests elt (enc x) acc ρ).bind (walkL _ (ys.map enc)) = _
    have hcap' : acc.length + (ys.length + 1) ≤ cap := by simpa using hcap
    have ht : compTurn own ρ1 ws tg tests elt (enc x) acc ρ = .ok (acc ++ f x) ρ := by
      have hlt : acc.length < cap := by omega
      unfold compTurn
      rcases e3 with ⟨t, fx⟩ | ⟨t, y, ey, fx⟩
      · simp only [hs, if_true, e1, R.opt_some, t, ifB_f, e2, fx, List.append_nil]
      · simp only [hs, if_true, e1, R.opt_some, t, ifB_t, ey, R.bind_ok, keep_d, hlt, e2, fx]
    rw [ht]
    show walkL (compTurn own ρ1 ws tg tests elt) (ys.map enc) (acc ++ f x) ρ = _
    have hf : (f x).length ≤ 1 := by
      rcases e3 with ⟨t, fx⟩ | ⟨t, y, ey, fx⟩ <;> simp [fx]
    rw [walk_enc own ρ1 ws tg tests elt enc f ρ hs ys (acc ++ f x) (fun z hz => h z (List.mem_cons_of_mem _ hz)) (by simp; omega)]
    simp
theorem v_comp_enc {α : Type} (T : Top) (C : Calls) (n : Nat) (ρ : Ev) (elt : E) (tg : Tg) (k : Ik) (es ifs : List E) (own ws : List Nat) (as : List α) (enc : α → D) (f : α → List D)
    (he : iterF k (evL T C es n ρ) = .ok (as.map enc, ws) ρ) (hs : stands ρ (wipe ρ own) ws = true) (hb : back ρ (wipe ρ own) own = ρ) (hc : as.length ≤ cap)
    (h : ∀ x ∈ as, ∃ ρ2, bindT tg (enc x) (wipe ρ own) = some ρ2 ∧ wipe ρ2 own = wipe ρ own ∧ ((evTs T C ifs n ρ2 = .ok false ρ2 ∧ f x = []) ∨ (evTs T C ifs n ρ2 = .ok true ρ2 ∧ ∃ y, evE T C elt n ρ2 = .ok (.d y) ρ2 ∧ f x = [y]))) :
    evE T C (.comp elt tg k es ifs own) n ρ = .ok (.L (as.flatMap f)) ρ := by
  rw [v_comp, he, R.bind_ok]
  unfold compEnd
  rw [walk_enc own ρ ws tg _ _ enc f (wipe ρ own) hs as [] h (by simpa using hc)]
  simp [hs, hb]
theorem bols_enc {α : Type} (as : List α) (p : α → Bool) : bolsOf (as.flatMap fun x => [D.bl (p x)]) = some (as.map p) := by
  induction as with
  | nil => rfl
  | cons x xs ih =>
    show (bolsOf (xs.flatMap fun x => [D.bl (p x)])).map (p x :: ·) = _
    rw [ih]; rfl
theorem all_enc {α : Type} (as : List α) (p : α → Bool) : blt .all [.L (as.flatMap fun x => [D.bl (p x)])] = some (.d (.bl (as.all p))) := by
  show ((bolsOf (as.flatMap fun x => [D.bl (p x)])).map fun bs => O.d (.bl (bs.all id))) = _
  rw [bols_enc]
  simp [List.all_map]
theorem any_enc {α : Type} (as : List α) (p : α → Bool) : blt .any [.L (as.flatMap fun x => [D.bl (p x)])] = some (.d (.bl (as.any p))) := by
  show ((bolsOf (as.flatMap fun x => [D.bl (p x)])).map fun bs => O.d (.bl (bs.any id))) = _
  rw [bols_enc]
  simp [List.any_map]
/-- data without lists, no deeper than so -/
def rdy : Nat → D → Bool
  | 0, x => match x with | .tup _ => false | .lst _ => false | _ => true
  | n + 1, x => match x with | .tup xs => decide (xs.length ≤ 1000000) && xs.all (rdy n) | .lst _ => false | _ => true
theorem callF_le (T : Top) (ds : List Def) {m k : Nat} (h : m ≤ k) (f : Nat) (os : List O) (ρ : Ev) : callF (calls T ds k) m f os ρ = callF (calls T ds m) m f os ρ := by
  unfold callF
  rw [calls_le T ds h]
theorem told_ok (T : Top) (C : Calls) (b : E) (m : Nat) (ρ ρ' : Ev) (x : D) (h : evE T C b m ρ = .ok (.d x) ρ') (hr : callF C (m + 1) T.read [.d x] ρ' = .ok (.d x) ρ') :
    evE T C (.told b) (m + 2) ρ = .ok (.d (.tup [.int 0, x])) ρ' := by
  rw [v_told, h]
  show (R.bind (R.calm (callF C (m + 1) T.read [.d x] ρ')) _) = _
  rw [hr]
  rfl
namespace K62
/-- _law_read -/
theorem s25 : ∀ (n : Nat) (x : D) {m : Nat}, n + 1 ≤ m → rdy n x = true → ∀ ρ, cf m 25 [.d x] ρ = .ok (.d x) ρ := by
  intro n
  induction n with
  | zero =>
    intro x m hm h ρ
    refine cf_fin (by omega) d25 rfl [x] ρ _ rfl fun k hk => ?_
    cases x with
    | non => simp [d25, arg, varS, isNon]
    | bl b => cases b <;> simp [d25, arg, varS, isNon, isBl]
    | int i => simp [d25, arg, varS, isNon, isBl]
    | str j => simp [d25, arg, varS, isNon, isBl, bin, addO]
    | tup xs => simp [rdy] at h
    | lst xs => simp [rdy] at h
  | succ n ih =>
    intro x m hm h ρ
    refine cf_fin (by omega) d25 rfl [x] ρ _ rfl fun k hk => ?_
    cases x with
    | non => simp [d25, arg, varS, isNon]
    | bl b => cases b <;> simp [d25, arg, varS, isNon, isBl]
    | int i => simp [d25, arg, varS, isNon, isBl]
    | str j => simp [d25, arg, varS, isNon, isBl, bin, addO]
    | tup xs =>
      simp only [rdy, Bool.and_eq_true, decide_eq_true_eq, List.all_eq_true] at h
      have hc : evE L.T (calls L.T L.ds k) (.comp (.call 25 [.var 1]) (.nm 1) .seq [.var 0] [] [1]) k [some (.d (.tup xs)), none] = .ok (.L (xs.flatMap fun x => [x])) [some (.d (.tup xs)), none] := by
        refine v_comp_enc _ _ _ _ _ _ _ _ _ _ [] xs id (fun x => [x]) (by simp [varS]) rfl rfl (by have := h.1; show _ ≤ 16777216; omega) ?_
        intro y hy
        have e := ih y (m := k) (by omega) (h.2 y hy)
        unfold cf at e
        refine ⟨[some (.d (.tup xs)), some (.d y)], rfl, rfl, Or.inr ⟨rfl, y, ?_, rfl⟩⟩
        simp [varS, e]
      have hs : xs.flatMap (fun x => [x]) = xs := by simp
      rw [hs] at hc
      simp [d25, -v_comp, arg, varS, isNon, isBl, hc]
    | lst xs => simp [rdy] at h
theorem rdy_Tm : ∀ (t : Tm) (n : Nat), t.dp ≤ n → rdy n t.d = true
  | .leaf i, n, h => by
    obtain ⟨n, rfl⟩ : ∃ j, n = j + 1 := ⟨n - 1, by simp [Tm.dp] at h; omega⟩
    cases n <;> simp [Tm.d, rdy]
  | .join a b, n, h => by
    obtain ⟨n, rfl⟩ : ∃ j, n = j + 1 := ⟨n - 1, by simp [Tm.dp] at h; omega⟩
    have h' : max a.dp b.dp + 1 ≤ n + 1 := h
    have e1 := rdy_Tm a n (by omega)
    have e2 := rdy_Tm b n (by omega)
    have e3 : rdy n (.str 4) = true := by cases n <;> rfl
    simp [Tm.d, rdy, e1, e2, e3]
theorem prf_mem : ∀ (f : Nat) (xs : List Int) (i : Nat), 1 ≤ xs.length → xs.length ≤ 64 → ∀ t ∈ prf f xs i, t.lv.length ≤ 64 ∧ t.dp ≤ 8
  | 0, _, _, _, _, t, h => by cases h
  | f + 1, xs, i, h1, h64, t, h => by
    unfold prf at h
    split at h
    · cases h
    · next e =>
      obtain ⟨g1, g2, g3⟩ := grow_ok xs.length (by omega) (by omega)
      have hs : ∀ ys : List Int, 1 ≤ ys.length → ys.length ≤ 64 → (sl ys).lv.length ≤ 64 ∧ (sl ys).dp ≤ 8 := by
        intro ys y1 y2
        rw [lv_sl ys.length ys (Nat.le_refl _) y1 y2]
        exact ⟨y2, dp_sl ys⟩
      split at h
      · rcases List.mem_append.mp h with h | h
        · exact prf_mem f _ _ (by simp; omega) (by simp; omega) t h
        · rw [List.mem_singleton.mp h]
          exact hs _ (by simp; omega) (by simp; omega)
      · rcases List.mem_append.mp h with h | h
        · exact prf_mem f _ _ (by simp; omega) (by simp; omega) t h
        · rw [List.mem_singleton.mp h]
          exact hs _ (by simp; omega) (by simp; omega)
theorem rdy_dT {ts : List Tm} {n : Nat} (hl : ts.length ≤ 1000) (h : ∀ t ∈ ts, t.dp ≤ n) : rdy (n + 1) (dT ts) = true := by
  simp only [rdy, dT, Bool.and_eq_true, decide_eq_true_eq, List.all_eq_true, List.length_map]
  refine ⟨by omega, fun x hx => ?_⟩
  obtain ⟨t, ht, rfl⟩ := List.mem_map.mp hx
  exact rdy_Tm t n (h t ht)
/-- _law_told_proof -/
theorem s30 {m : Nat} (hm : 20 ≤ m) (xs : List Int) (h64 : xs.length ≤ 64) (i : Nat) (hi : i < xs.length) (ρ : Ev) : cf m 30 [.d (dI xs), .d (.int i)] ρ = .ok (.d (dT (prf 7 xs i))) ρ := by
  refine cf_fin (by omega) d30 rfl [dI xs, .int i] ρ _ rfl fun k hk => ?_
  obtain ⟨k, rfl⟩ : ∃ j, k = j + 2 := ⟨k - 2, by omega⟩
  have e7 := s7 (m := k) (by omega) xs h64 i hi
  have e25 := s25 9 (dT (prf 7 xs i)) (m := k + 1) (by omega) (rdy_dT (by have := prf_len 7 xs i; omega) fun t ht => (prf_mem 7 xs i (by omega) h64 t ht).2)
  unfold cf at e7 e25
  have hc : evE L.T (calls L.T L.ds (k + 2)) (.call 7 [.var 0, .var 1]) k [some (.d (dI xs)), some (.d (.int i))] = .ok (.d (dT (prf 7 xs i))) [some (.d (dI xs)), some (.d (.int i))] := by
    simp only [v_call, v_lcons, v_lnil, v_var, varS, List.getElem?_cons_succ, List.getElem?_cons_zero, R.bind_ok]
    rw [callF_le _ _ (by omega)]
    exact e7 _
  have ht := told_ok L.T (calls L.T L.ds (k + 2)) _ k _ _ _ hc (by rw [callF_le _ _ (by omega)]; exact e25 _)
  simp [d30, -v_told, arg, ht]
/-- _law_is, of what is_absent tells -/
theorem s29 {m : Nat} (hm : 40 ≤ m) (x1 x2 x3 x4 : D) (b : Bool) (h : ∀ j, 30 ≤ j → ∀ ρ, cf j 19 [.d x1, .d x2, .d x3, .d x4] ρ = .ok (.d (.bl b)) ρ) (ρ : Ev) : cf m 29 [.d x1, .d x2, .d x3, .d x4] ρ = .ok (.d (.tup [.int 0, .bl b])) ρ := by
  refine cf_fin (by omega) d29 rfl [x1, x2, x3, x4] ρ _ rfl fun k hk => ?_
  obtain ⟨k, rfl⟩ : ∃ j, k = j + 2 := ⟨k - 2, by omega⟩
  have e := h k (by omega)
  have e25 := s25 0 (.bl b) (m := k + 1) (by omega) rfl
  unfold cf at e e25
  have hc : evE L.T (calls L.T L.ds (k + 2)) (.call 19 [.var 0, .var 1, .var 2, .var 3]) k [some (.d x1), some (.d x2), some (.d x3), some (.d x4)] = .ok (.d (.bl b)) [some (.d x1), some (.d x2), some (.d x3), some (.d x4)] := by
    simp only [v_call, v_lcons, v_lnil, v_var, varS, List.getElem?_cons_succ, List.getElem?_cons_zero, R.bind_ok]
    rw [callF_le _ _ (by omega)]
    exact e _
  have ht := told_ok L.T (calls L.T L.ds (k + 2)) _ k _ _ _ hc (by rw [callF_le _ _ (by omega)]; exact e25 _)
  simp [d29, -v_told, arg, ht]
end K62
end Ev
/-! P62v: the law's sheet. -/
namespace Ev
/-- a call of one slot's list -/
theorem callF_b (T : Top) (ds : List Def) (m f : Nat) (d : Def) (hd : ds[f]? = some d) (j : Nat) (p : Bool) (xs ys : List D) (z : D) (ρ ρ' : Ev) (hj : ρ[j]? = some (some (.L p xs))) (hl : d.np = 1)
    (h : evB T (calls T ds m) d.body m ([some (.L true xs)] ++ List.replicate d.nl none) = .ok (.ret (.d z)) (some (.L true ys) :: ρ')) :
    callF (calls T ds (m + 1)) (m + 1) f [.bor j] ρ = .ok (.d z) (ρ.set j (some (.L p ys))) := by
  have e : calls T ds (m + 1) (m + 1) f [some (.L true xs)] = .ok (.d z) [some (.L true ys)] := by
    show call T ds (m + 1) f _ = _
    rw [call_succ, hd]
    show runD T (calls T ds m) d m _ = _
    unfold runD
    rw [if_pos (by simp [hl]), h]
    rfl
  unfold callF
  have hh : handL ρ [.bor j] = some [some (.L true xs)] := by
    simp [handL, hj]
  rw [hh]
  simp only [walked_bor, walked_d, walked_nil, onceEach, List.contains_nil, Bool.not_false, Bool.and_self, if_true, R.opt_some]
  rw [e]
  simp [isBor, handB, hj]
namespace K62
theorem s26 {m : Nat} (hm : 2 ≤ m) (a b : Int) (ha : 0 ≤ a) (hb : 0 ≤ b) (j : Nat) (p : Bool) (ρ : Ev) (hj : ρ[j]? = some (some (.L p [.int a, .int b]))) :
    ∃ (a' b' : Int) (ls : List Ln), 0 ≤ a' ∧ 0 ≤ b' ∧ Sh ls ∧ cf m 26 [.bor j] ρ = .ok (.d (dS ls)) (ρ.set j (some (.L p [.int a', .int b']))) := by
  obtain ⟨k, rfl⟩ : ∃ k, m = k + 1 := ⟨m - 1, by omega⟩
  obtain ⟨ys, ρ', e1, ⟨a1, b1, ha1, hb1, rfl⟩, y1, y30, yr⟩ := keys_comp k (by omega) a b ha hb
  have ss := sortedSet_L ys (by omega)
  have kl := sortS_len ys
  have kp := sortS_pos ys y1
  have kr := sortS_rise ys
  have km := sortS_mem1 ys
  generalize sortS ys = ks at ss kl kp kr km
  obtain ⟨zs, ρ'', e2, ⟨a2, b2, ha2, hb2, rfl⟩, q⟩ := walk_inv (compTurn [2] [some (.L true [.int a1, .int b1]), some (.L false (ks.map D.int)), none, none] [1] (.nm 2) (evTs L.T (calls L.T L.ds k) [] k) (evE L.T (calls L.T L.ds k) lE k))
    (Bx (some (.L false (ks.map D.int)))) lQ (ks.map D.int) [] [some (.L true [.int a1, .int b1]), some (.L false (ks.map D.int)), none, none] ⟨a1, b1, ha1, hb1, rfl⟩ (by simp; show _ ≤ 16777216; omega)
    (fun x hx acc ρ hi hc => by
      obtain ⟨key, _, rfl⟩ := List.mem_map.mp hx
      exact turn2 k (by omega) ks a1 b1 key acc ρ hi hc)
  obtain ⟨ls, rfl, hk, hv⟩ := sheet_of ks zs q
  have ll : ls.length = ks.length := by rw [← hk, List.length_map]
  refine ⟨a2, b2, ls, ha2, hb2, ⟨?_, by omega, by omega, ?_⟩, ?_⟩
  · intro l hl
    have hm' : l.key ∈ ks := by rw [← hk]; exact List.mem_map.mpr ⟨l, hl, rfl⟩
    obtain ⟨r, r0, r1, e⟩ := yr l.key (km _ hm')
    obtain ⟨v0, v1⟩ := hv l hl
    exact ⟨by omega, by omega, v0, v1⟩
  · intro i j hi hj hij
    have := rise_get ks kr i j (by omega) (by omega) hij
    have g : ∀ (i : Nat) (hi : i < ls.length), ls[i].key = ks[i]'(by omega) := by
      intro i hi
      have : (ls.map Ln.key)[i]'(by simpa using hi) = ks[i]'(by omega) := by simp only [hk]
      simpa using this
    rw [g i hi, g j hj]
    exact this
  · have hc : evE L.T (calls L.T L.ds k) (.comp lE (.nm 2) .seq [.var 1] [] [2]) k [some (.L true [.int a1, .int b1]), some (.L false (ks.map D.int)), none, none] = .ok (.L (ls.map Ln.d)) [some (.L true [.int a2, .int b2]), some (.L false (ks.map D.int)), none, none] := by
      rw [v_comp]
      have hi : iterF .seq (evL L.T (calls L.T L.ds k) [.var 1] k [some (.L true [.int a1, .int b1]), some (.L false (ks.map D.int)), none, none]) = .ok (ks.map D.int, [1]) [some (.L true [.int a1, .int b1]), some (.L false (ks.map D.int)), none, none] := by
        simp [varS, iterF, rs, walk, items]
      rw [hi, R.bind_ok]
      unfold compEnd
      show (R.bind (walkL _ (ks.map D.int) [] [some (.L true [.int a1, .int b1]), some (.L false (ks.map D.int)), none, none]) _).calm = _
      rw [e2]
      simp [stands, beqs_ints, back]
    refine callF_b L.T L.ds k 26 d26 rfl j p _ [.int a2, .int b2] _ ρ [some (.L false (ks.map D.int)), none, none] hj rfl ?_
    unfold lE at hc
    unfold kE at e1
    simp [d26, -v_comp, e1, hc, ss, store, free]
end K62
end Ev
/-! P62w: is_absent. -/
namespace Ev.K62
/-- a paper's part -/
structure Pp where
  l : Ln
  at_ : Int
  ts : List Tm
def Pp.d (p : Pp) : D := .tup [p.l.d, .int p.at_, dT p.ts]
abbrev dP (ps : List Pp) : D := .tup (ps.map Pp.d)
def pr (p : Pp) : D := .tup [.int p.at_, .int p.l.key]
def lo (key : Int) (ps : List Pp) : List Pp := ps.filter fun p => decide (p.l.key < key)
def hi (key : Int) (ps : List Pp) : List Pp := ps.filter fun p => decide (key < p.l.key)
def place1 (l : List Pp) : Int := match l with | [] => 0 | p :: _ => p.at_ + 1
def place2 (n : Nat) (l : List Pp) : Int := match l with | [] => n | p :: _ => p.at_
def swapped (ps : List Pp) : Bool := match ps with
  | p :: q :: _ => decide (q.at_ < p.at_)
  | _ => false
def isA (key : Int) (n : Nat) (S : Tm) (ps : List Pp) : Bool :=
  if (ps.all fun p => decide (0 ≤ p.at_) && decide (p.at_ < (n : Int))) = true then
    if (lo key ps).length ≤ 1 ∧ (hi key ps).length ≤ 1 ∧ 1 ≤ (lo key ps).length + (hi key ps).length ∧ (lo key ps).length + (hi key ps).length = ps.length then
      if swapped ps = true then false else
        if place1 (lo key ps) = place2 n (hi key ps) then ps.all fun p => shn p.l.num p.at_.toNat n p.ts S else false
    else false
  else false
structure PpOk (p : Pp) : Prop where
  l : p.l.ok
  len : p.ts.length ≤ 60
  ts : ∀ t ∈ p.ts, t.lv.length ≤ 64 ∧ t.dp ≤ 60
section
variable (key : Int) (n : Nat) (S : Tm) (ps : List Pp)
abbrev en (a b c : Option W) : Ev := [some (.d (.int key)), some (.d (.int n)), some (.d S.d), some (.d (dP ps)), a, b, c, none, none, none, none, none]
theorem c1 (k : Nat) (C : Calls) (hl : ps.length ≤ 1000) : evE L.T C (.comp (.andL [.isi (.var 11) .tuple, .cmp .eq (.blt .len [.var 11]) (.int 3)]) (.nm 11) .seq [.var 3] [] [11]) k (en key n S ps none none none) = .ok (.L (ps.flatMap fun _ => [D.bl true])) (en key n S ps none none none) := by
  refine v_comp_enc _ _ _ _ _ _ _ _ _ _ [] ps Pp.d (fun _ => [D.bl true]) (by simp [varS]) rfl rfl (by show _ ≤ 16777216; omega) ?_
  intro p hp
  refine ⟨[some (.d (.int key)), some (.d (.int n)), some (.d S.d), some (.d (dP ps)), none, none, none, none, none, none, none, some (.d p.d)], rfl, rfl, Or.inr ⟨rfl, D.bl true, ?_, rfl⟩⟩
  simp [varS, Pp.d]
theorem c2 (k : Nat) (hk : 3 ≤ k) (hl : ps.length ≤ 1000) (ok : ∀ p ∈ ps, PpOk p) : evE L.T (calls L.T L.ds k) (.comp (.andL [.call 18 [.var 7], .call 0 [.var 8], .call 1 [.var 8, .var 1]]) (.tp [.nm 7, .nm 8, .nm 9]) .seq [.var 3] [] [7, 8, 9]) k (en key n S ps none none none)
    = .ok (.L (ps.flatMap fun p => [D.bl (decide (0 ≤ p.at_) && decide (p.at_ < (n : Int)))])) (en key n S ps none none none) := by
  refine v_comp_enc _ _ _ _ _ _ _ _ _ _ [] ps Pp.d (fun p => [D.bl (decide (0 ≤ p.at_) && decide (p.at_ < (n : Int)))]) (by simp [varS]) rfl rfl (by show _ ≤ 16777216; omega) ?_
  intro p hp
  refine ⟨[some (.d (.int key)), some (.d (.int n)), some (.d S.d), some (.d (dP ps)), none, none, none, some (.d p.l.d), some (.d (.int p.at_)), some (.d (dT p.ts)), none, none], rfl, rfl, Or.inr ⟨rfl, _, ?_, rfl⟩⟩
  have e18 := s18 (m := k) (by omega) p.l (ok p hp).l
  have e0 := s0 (m := k) (by omega) (.int p.at_)
  have e1 := s1 (m := k) (by omega) p.at_ n
  unfold cf at e18 e0 e1
  simp [varS, e18, e0, e1, isI]
theorem c3 (k : Nat) (C : Calls) (hl : ps.length ≤ 1000) : evE L.T C (.comp (.tup [.var 8, .ix (.var 7) (.int 1)]) (.tp [.nm 7, .nm 8, .nm 9]) .seq [.var 3] [.cmp .lt (.ix (.var 7) (.int 1)) (.var 0)] [7, 8, 9]) k (en key n S ps none none none)
    = .ok (.L ((lo key ps).map pr)) (en key n S ps none none none) := by
  have hf : (lo key ps).map pr = ps.flatMap fun p => if p.l.key < key then [pr p] else [] := by
    unfold lo
    induction ps with
    | nil => rfl
    | cons p ps ih =>
      have ih := ih (by simp at hl; omega)
      by_cases c : p.l.key < key <;> simp [List.filter_cons, c, ih]
  rw [hf]
  refine v_comp_enc _ _ _ _ _ _ _ _ _ _ [] ps Pp.d (fun p => if p.l.key < key then [pr p] else []) (by simp [varS]) rfl rfl (by show _ ≤ 16777216; omega) ?_
  intro p hp
  refine ⟨[some (.d (.int key)), some (.d (.int n)), some (.d S.d), some (.d (dP ps)), none, none, none, some (.d p.l.d), some (.d (.int p.at_)), some (.d (dT p.ts)), none, none], rfl, rfl, ?_⟩
  have i1 := ix1 p.l
  by_cases c : p.l.key < key
  · refine Or.inr ⟨?_, pr p, ?_, by rw [if_pos c]⟩
    · simp only [v_tcons, v_tnil, v_cmp, v_ix, v_var, v_int, varS, List.getElem?_cons_succ, List.getElem?_cons_zero, R.bind_ok, rs_d, i1, okd_some, cmp_lt_i, okb_some, asT_d, truth_bl, R.opt_some, c, decide_true, ifB_t]
    · simp only [v_tup, v_lcons, v_lnil, v_ix, v_var, v_int, varS, List.getElem?_cons_succ, List.getElem?_cons_zero, R.bind_ok, rs_d, i1, okd_some, keeps_d, keeps_nil, Option.map_some, R.opt_some, pr]
  · refine Or.inl ⟨?_, by rw [if_neg c]⟩
    simp only [v_tcons, v_tnil, v_cmp, v_ix, v_var, v_int, varS, List.getElem?_cons_succ, List.getElem?_cons_zero, R.bind_ok, rs_d, i1, okd_some, cmp_lt_i, okb_some, asT_d, truth_bl, R.opt_some, c, decide_false, ifB_f]
theorem c4 (k : Nat) (C : Calls) (w : Option W) (hl : ps.length ≤ 1000) : evE L.T C (.comp (.tup [.var 8, .ix (.var 7) (.int 1)]) (.tp [.nm 7, .nm 8, .nm 9]) .seq [.var 3] [.cmp .gt (.ix (.var 7) (.int 1)) (.var 0)] [7, 8, 9]) k (en key n S ps w none none)
    = .ok (.L ((hi key ps).map pr)) (en key n S ps w none none) := by
  have hf : (hi key ps).map pr = ps.flatMap fun p => if key < p.l.key then [pr p] else [] := by
    unfold hi
    induction ps with
    | nil => rfl
    | cons p ps ih =>
      have ih := ih (by simp at hl; omega)
      by_cases c : key < p.l.key <;> simp [List.filter_cons, c, ih]
  rw [hf]
  refine v_comp_enc _ _ _ _ _ _ _ _ _ _ [] ps Pp.d (fun p => if key < p.l.key then [pr p] else []) (by simp [varS]) rfl rfl (by show _ ≤ 16777216; omega) ?_
  intro p hp
  refine ⟨[some (.d (.int key)), some (.d (.int n)), some (.d S.d), some (.d (dP ps)), w, none, none, some (.d p.l.d), some (.d (.int p.at_)), some (.d (dT p.ts)), none, none], rfl, rfl, ?_⟩
  have i1 := ix1 p.l
  by_cases c : key < p.l.key
  · refine Or.inr ⟨?_, pr p, ?_, by rw [if_pos c]⟩
    · simp only [v_tcons, v_tnil, v_cmp, v_ix, v_var, v_int, varS, List.getElem?_cons_succ, List.getElem?_cons_zero, R.bind_ok, rs_d, i1, okd_some, cmp_gt_i, okb_some, asT_d, truth_bl, R.opt_some, c, decide_true, ifB_t]
    · simp only [v_tup, v_lcons, v_lnil, v_ix, v_var, v_int, varS, List.getElem?_cons_succ, List.getElem?_cons_zero, R.bind_ok, rs_d, i1, okd_some, keeps_d, keeps_nil, Option.map_some, R.opt_some, pr]
  · refine Or.inl ⟨?_, by rw [if_neg c]⟩
    simp only [v_tcons, v_tnil, v_cmp, v_ix, v_var, v_int, varS, List.getElem?_cons_succ, List.getElem?_cons_zero, R.bind_ok, rs_d, i1, okd_some, cmp_gt_i, okb_some, asT_d, truth_bl, R.opt_some, c, decide_false, ifB_f]
theorem c5 (k : Nat) (hk : 22 ≤ k) (h1 : 1 ≤ n) (h60 : n ≤ 60) (hS : S.lv.length ≤ 64) (hd : S.dp ≤ 60) (a b c : Option W) (hl : ps.length ≤ 1000) (ok : ∀ p ∈ ps, PpOk p) (hat : ∀ p ∈ ps, 0 ≤ p.at_) :
    evE L.T (calls L.T L.ds k) (.comp (.call 20 [.call 15 [.var 7], .var 8, .var 1, .var 10, .var 2]) (.tp [.nm 7, .nm 8, .nm 10]) .seq [.var 3] [] [7, 8, 10]) k (en key n S ps a b c)
    = .ok (.L (ps.flatMap fun p => [D.bl (shn p.l.num p.at_.toNat n p.ts S)])) (en key n S ps a b c) := by
  refine v_comp_enc _ _ _ _ _ _ _ _ _ _ [] ps Pp.d (fun p => [D.bl (shn p.l.num p.at_.toNat n p.ts S)]) (by simp [varS]) rfl rfl (by show _ ≤ 16777216; omega) ?_
  intro p hp
  refine ⟨[some (.d (.int key)), some (.d (.int n)), some (.d S.d), some (.d (dP ps)), a, b, c, some (.d p.l.d), some (.d (.int p.at_)), none, some (.d (dT p.ts)), none], rfl, rfl, Or.inr ⟨rfl, _, ?_, rfl⟩⟩
  have e15 := s15 (m := k) (by omega) p.l
  have e20 := s20 (m := k) (by omega) p.l.num p.at_.toNat n p.ts S h1 (by omega) (ok p hp).len (ok p hp).ts hS hd
  rw [show ((p.at_.toNat : Nat) : Int) = p.at_ from Int.toNat_of_nonneg (hat p hp)] at e20
  unfold cf at e15 e20
  simp only [v_call, v_lcons, v_lnil, v_var, varS, List.getElem?_cons_succ, List.getElem?_cons_zero, R.bind_ok, e15, e20]
end
end Ev.K62
/-! P62x: is_absent, the def. -/
namespace Ev.K62
section
variable (key : Int) (n : Nat) (S : Tm) (ps : List Pp)
def fb (b : Bool) (ρ : Ev) : R Fl := if b = true then .ok (.ret (.d (.bl false))) ρ else .ok .nx ρ
theorem g8 (k : Nat) (C : Calls) (a b c : Option W) : evS L.T C (.ite (.andL [.cmp .gt (.blt .len [.var 3]) (.int 1), .cmp .gt (.ix (.ix (.var 3) (.int 0)) (.int 1)) (.ix (.ix (.var 3) (.int 1)) (.int 1))]) [.ret (.bl false)] []) k (en key n S ps a b c) = fb (swapped ps) (en key n S ps a b c) := by
  rcases ps with _ | ⟨p, _ | ⟨q, r⟩⟩
  · simp [varS, swapped, fb, ifB_b]
  · simp [varS, swapped, fb, ifB_b]
  · have : (1 : Int) < (r.length : Int) + 1 + 1 := by omega
    by_cases c : q.at_ < p.at_ <;> simp [varS, swapped, fb, ifB_b, Pp.d, c, this]
theorem g6 (k : Nat) (C : Calls) (as : List Pp) (b : Option W) : evS L.T C (.set 6 (.ite (.cmp .gt (.blt .len [.var 4]) (.int 0)) (.bin .add (.ix (.ix (.var 4) (.int 0)) (.int 0)) (.int 1)) (.int 0))) k (en key n S ps (some (.L false (as.map pr))) b none)
    = .ok .nx (en key n S ps (some (.L false (as.map pr))) b (some (.d (.int (place1 as))))) := by
  cases as with
  | nil => simp [varS, rs, place1, ifB_b, store, free]
  | cons p r =>
    have : (0 : Int) < (r.length : Int) + 1 := by omega
    simp [varS, rs, place1, ifB_b, store, free, pr, this]
theorem g10 (k : Nat) (C : Calls) (a : Option W) (bs : List Pp) (p : Int) : evS L.T C (.ite (.cmp .ne (.var 6) (.ite (.cmp .gt (.blt .len [.var 5]) (.int 0)) (.ix (.ix (.var 5) (.int 0)) (.int 0)) (.var 1))) [.ret (.bl false)] []) k (en key n S ps a (some (.L false (bs.map pr))) (some (.d (.int p))))
    = fb (decide (p ≠ place2 n bs)) (en key n S ps a (some (.L false (bs.map pr))) (some (.d (.int p)))) := by
  cases bs with
  | nil => by_cases c : p = (n : Int) <;> simp [varS, rs, place2, ifB_b, fb, c]
  | cons q r =>
    have : (0 : Int) < (r.length : Int) + 1 := by omega
    by_cases c : p = q.at_ <;> simp [varS, rs, place2, ifB_b, fb, c, pr, this]
theorem g7 (k : Nat) (C : Calls) (as bs : List Pp) (c : Option W) : evS L.T C (.ite (.orL [.cmp .gt (.blt .len [.var 4]) (.int 1), .cmp .gt (.blt .len [.var 5]) (.int 1), .not_ (.chain .le .eq (.int 1) (.bin .add (.blt .len [.var 4]) (.blt .len [.var 5])) (.blt .len [.var 3]))]) [.ret (.bl false)] []) k (en key n S ps (some (.L false (as.map pr))) (some (.L false (bs.map pr))) c)
    = fb (decide (¬ (as.length ≤ 1 ∧ bs.length ≤ 1 ∧ 1 ≤ as.length + bs.length ∧ as.length + bs.length = ps.length))) (en key n S ps (some (.L false (as.map pr))) (some (.L false (bs.map pr))) c) := by
  by_cases c1 : as.length ≤ 1
  · have d1 : ¬ ((1 : Int) < as.length) := by omega
    by_cases c2 : bs.length ≤ 1
    · have d2 : ¬ ((1 : Int) < bs.length) := by omega
      by_cases c3 : 1 ≤ as.length + bs.length
      · have d3 : (1 : Int) ≤ (as.length : Int) + bs.length := by omega
        by_cases c4 : as.length + bs.length = ps.length
        · have d4 : (as.length : Int) + bs.length = ps.length := by omega
          have d5 : (1 : Int) ≤ ps.length := by omega
          have d6 : ps ≠ [] := fun e => by rw [e] at d5; simp at d5
          simp [varS, rs, ifB_b, fb, c1, c2, c3, c4, d1, d2, d3, d4, d5, d6]
        · have d4 : ¬ ((as.length : Int) + bs.length = ps.length) := by omega
          simp [varS, rs, ifB_b, fb, c1, c2, c3, c4, d1, d2, d3, d4]
      · have d3 : ¬ ((1 : Int) ≤ (as.length : Int) + bs.length) := by omega
        simp [varS, rs, ifB_b, fb, c1, c2, c3, d1, d2, d3]
    · have d2 : (1 : Int) < bs.length := by omega
      simp [varS, rs, ifB_b, fb, c1, c2, d1, d2]
  · have d1 : (1 : Int) < as.length := by omega
    simp [varS, rs, ifB_b, fb, c1, d1]
end
theorem fbt (ρ : Ev) : fb true ρ = .ok (.ret (.d (.bl false))) ρ := rfl
theorem fbf (ρ : Ev) : fb false ρ = .ok .nx ρ := rfl
/-- is_absent -/
theorem s19 {m : Nat} (hm : 24 ≤ m) (key : Int) (n : Nat) (S : Tm) (ps : List Pp) (h0 : 0 ≤ key) (h9 : key ≤ 900) (h1 : 1 ≤ n) (h60 : n ≤ 60) (hS : S.lv.length ≤ 64) (hd : S.dp ≤ 60) (hl : ps.length ≤ 1000) (ok : ∀ p ∈ ps, PpOk p) (ρ : Ev) :
    cf m 19 [.d (.int key), .d (.int n), .d S.d, .d (dP ps)] ρ = .ok (.d (.bl (isA key n S ps))) ρ := by
  refine cf_fin (by omega) d19 rfl [.int key, .int n, S.d, dP ps] ρ _ rfl fun k hk => ?_
  have e14 := s14 (m := k) (by omega) key h0 h9
  have e2 := s2 (m := k) (by omega) n 1 60
  unfold cf at e14 e2
  have k1 : (1 : Int) ≤ n := by omega
  have k2 : (n : Int) ≤ 60 := by omega
  have a1 := c1 key n S ps k (calls L.T L.ds k) hl
  have a2 := c2 key n S ps k (by omega) hl ok
  have a3 := c3 key n S ps k (calls L.T L.ds k) hl
  have a4 := fun w => c4 key n S ps k (calls L.T L.ds k) w hl
  have t1 : blt .all [.L (ps.flatMap fun _ => [D.bl true])] = some (.d (.bl true)) := by
    rw [all_enc ps (fun _ => true)]; simp
  have t2 := all_enc ps (fun p => decide (0 ≤ p.at_) && decide (p.at_ < (n : Int)))
  have b1 : evS L.T (calls L.T L.ds k) (.ex (.call 14 [.var 0])) k (en key n S ps none none none) = .ok .nx (en key n S ps none none none) := by
    simp [varS, e14]
  have b2 : evS L.T (calls L.T L.ds k) (.ite (.not_ (.call 2 [.var 1, .int 1, .con 4])) [.raise 1] []) k (en key n S ps none none none) = .ok .nx (en key n S ps none none none) := by
    simp [varS, con4, e2, k1, k2]
  have b3 : evS L.T (calls L.T L.ds k) (.ite (.orL [.not_ (.isi (.var 3) .tuple), .not_ (.blt .all [.comp (.andL [.isi (.var 11) .tuple, .cmp .eq (.blt .len [.var 11]) (.int 3)]) (.nm 11) .seq [.var 3] [] [11]])]) [.ret (.bl false)] []) k (en key n S ps none none none) = .ok .nx (en key n S ps none none none) := by
    simp only [v_if, v_or, v_ao2, v_ao1, v_not, v_isi, v_blt, v_lcons, v_lnil, v_var, varS, List.getElem?_cons_succ, List.getElem?_cons_zero, R.bind_ok, rs_d, isTy_d, okb_some, asT_d, truth_bl, R.opt_some, Bool.not_true, onB_b, a1, List.map_cons, List.map_nil, rs_L, t1, oko_some, Bool.false_eq_true, if_false, ifB_f, v_bnil]
  have b4 : evS L.T (calls L.T L.ds k) (.ite (.not_ (.blt .all [.comp (.andL [.call 18 [.var 7], .call 0 [.var 8], .call 1 [.var 8, .var 1]]) (.tp [.nm 7, .nm 8, .nm 9]) .seq [.var 3] [] [7, 8, 9]])) [.ret (.bl false)] []) k (en key n S ps none none none)
      = fb (!(ps.all fun p => decide (0 ≤ p.at_) && decide (p.at_ < (n : Int)))) (en key n S ps none none none) := by
    simp only [v_if, v_not, v_blt, v_lcons, v_lnil, R.bind_ok, a2, List.map_cons, List.map_nil, rs_L, t2, oko_some, asT_d, truth_bl, R.opt_some, ifB_b, fb]
    cases (ps.all fun p => decide (0 ≤ p.at_) && decide (p.at_ < (n : Int))) <;> rfl
  have b5 : evS L.T (calls L.T L.ds k) (.set 4 (.comp (.tup [.var 8, .ix (.var 7) (.int 1)]) (.tp [.nm 7, .nm 8, .nm 9]) .seq [.var 3] [.cmp .lt (.ix (.var 7) (.int 1)) (.var 0)] [7, 8, 9])) k (en key n S ps none none none) = .ok .nx (en key n S ps (some (.L false ((lo key ps).map pr))) none none) := by
    rw [v_set, a3]
    rfl
  have b6 : evS L.T (calls L.T L.ds k) (.set 5 (.comp (.tup [.var 8, .ix (.var 7) (.int 1)]) (.tp [.nm 7, .nm 8, .nm 9]) .seq [.var 3] [.cmp .gt (.ix (.var 7) (.int 1)) (.var 0)] [7, 8, 9])) k (en key n S ps (some (.L false ((lo key ps).map pr))) none none) = .ok .nx (en key n S ps (some (.L false ((lo key ps).map pr))) (some (.L false ((hi key ps).map pr))) none) := by
    rw [v_set, a4]
    rfl
  show fin 4 (evB L.T (calls L.T L.ds k) d19.body k (en key n S ps none none none)) = _
  unfold d19
  unfold isA
  rw [v_bcons, b1, R.bind_ok]
  dsimp only
  rw [v_bcons, b2, R.bind_ok]
  dsimp only
  rw [v_bcons, b3, R.bind_ok]
  dsimp only
  rw [v_bcons, b4]
  by_cases q1 : (ps.all fun p => decide (0 ≤ p.at_) && decide (p.at_ < (n : Int))) = true
  · rw [if_pos q1, q1, Bool.not_true, fbf, R.bind_ok]
    dsimp only
    rw [v_bcons, b5, R.bind_ok]
    dsimp only
    rw [v_bcons, b6, R.bind_ok]
    dsimp only
    rw [v_bcons, g7]
    by_cases q2 : (lo key ps).length ≤ 1 ∧ (hi key ps).length ≤ 1 ∧ 1 ≤ (lo key ps).length + (hi key ps).length ∧ (lo key ps).length + (hi key ps).length = ps.length
    · rw [if_pos q2, decide_eq_false (by simpa using q2), fbf, R.bind_ok]
      dsimp only
      rw [v_bcons, g8]
      by_cases q3 : swapped ps = true
      · rw [if_pos q3, q3, fbt, R.bind_ok]
        rfl
      · have q3' : swapped ps = false := by simpa using q3
        rw [if_neg q3, q3', fbf, R.bind_ok]
        dsimp only
        rw [v_bcons, g6, R.bind_ok]
        dsimp only
        rw [v_bcons, g10]
        by_cases q4 : place1 (lo key ps) = place2 n (hi key ps)
        · rw [if_pos q4, decide_eq_false (by simpa using q4), fbf, R.bind_ok]
          dsimp only
          have hat : ∀ p ∈ ps, 0 ≤ p.at_ := fun p hp => by
            have := List.all_eq_true.mp q1 p hp
            simp only [Bool.and_eq_true, decide_eq_true_eq] at this
            exact this.1
          have a5 := c5 key n S ps k (by omega) h1 h60 hS hd (some (.L false ((lo key ps).map pr))) (some (.L false ((hi key ps).map pr))) (some (.d (.int (place1 (lo key ps))))) hl ok hat
          have t5 := all_enc ps (fun p => shn p.l.num p.at_.toNat n p.ts S)
          rw [v_bcons, v_ret]
          simp only [v_blt, v_lcons, v_lnil, R.bind_ok, a5, List.map_cons, List.map_nil, rs_L, t5, oko_some]
          rfl
        · rw [if_neg q4, decide_eq_true (by simpa using q4), fbt, R.bind_ok]
          rfl
    · rw [if_neg q2, decide_eq_true (by simpa using q2), fbt, R.bind_ok]
      rfl
  · have q1' : (ps.all fun p => decide (0 ≤ p.at_) && decide (p.at_ < (n : Int))) = false := by simpa using q1
    rw [if_neg q1, q1', Bool.not_false, fbt, R.bind_ok]
    rfl
/-- is_absent of what is no row of papers -/
theorem s19_7 {m : Nat} (hm : 24 ≤ m) (key : Int) (n : Nat) (S : Tm) (h0 : 0 ≤ key) (h9 : key ≤ 900) (h1 : 1 ≤ n) (h60 : n ≤ 60) (ρ : Ev) :
    cf m 19 [.d (.int key), .d (.int n), .d S.d, .d (.int 7)] ρ = .ok (.d (.bl false)) ρ := by
  refine cf_fin (by omega) d19 rfl [.int key, .int n, S.d, .int 7] ρ _ rfl fun k hk => ?_
  have e14 := s14 (m := k) (by omega) key h0 h9
  have e2 := s2 (m := k) (by omega) n 1 60
  unfold cf at e14 e2
  have k1 : (1 : Int) ≤ n := by omega
  have k2 : (n : Int) ≤ 60 := by omega
  simp [d19, -v_comp, arg, varS, e14, e2, k1, k2, con4]
theorem s19_77 {m : Nat} (hm : 24 ≤ m) (key : Int) (n : Nat) (S : Tm) (h0 : 0 ≤ key) (h9 : key ≤ 900) (h1 : 1 ≤ n) (h60 : n ≤ 60) (ρ : Ev) :
    cf m 19 [.d (.int key), .d (.int n), .d S.d, .d (.tup [.int 7])] ρ = .ok (.d (.bl false)) ρ := by
  refine cf_fin (by omega) d19 rfl [.int key, .int n, S.d, .tup [.int 7]] ρ _ rfl fun k hk => ?_
  have e14 := s14 (m := k) (by omega) key h0 h9
  have e2 := s2 (m := k) (by omega) n 1 60
  unfold cf at e14 e2
  have k1 : (1 : Int) ≤ n := by omega
  have k2 : (n : Int) ≤ 60 := by omega
  have hc : evE L.T (calls L.T L.ds k) (.comp (.andL [.isi (.var 11) .tuple, .cmp .eq (.blt .len [.var 11]) (.int 3)]) (.nm 11) .seq [.var 3] [] [11]) k [some (.d (.int key)), some (.d (.int n)), some (.d S.d), some (.d (.tup [.int 7])), none, none, none, none, none, none, none, none] = .ok (.L [.bl false]) [some (.d (.int key)), some (.d (.int n)), some (.d S.d), some (.d (.tup [.int 7])), none, none, none, none, none, none, none, none] := by
    refine v_comp_enc _ _ _ _ _ _ _ _ _ _ [] [D.int 7] id (fun _ => [D.bl false]) (by simp [varS]) rfl rfl (by decide) ?_
    intro p hp
    obtain rfl := List.mem_singleton.mp hp
    exact ⟨[some (.d (.int key)), some (.d (.int n)), some (.d S.d), some (.d (.tup [.int 7])), none, none, none, none, none, none, none, some (.d (.int 7))], rfl, rfl, Or.inr ⟨rfl, D.bl false, by simp [varS], rfl⟩⟩
  have t : blt .all [.L [.bl false]] = some (.d (.bl false)) := rfl
  simp [d19, -v_comp, arg, varS, e14, e2, k1, k2, con4, hc, t]
end Ev.K62
/-! P62y: which papers are accepted (plain). -/
namespace Ev.K62
theorem isA_nil (key : Int) (n : Nat) (S : Tm) : isA key n S [] = false := by simp [isA, lo, hi]
theorem isA_lo {key : Int} {q : Pp} (h : q.l.key < key) (n : Nat) (S : Tm) : isA key n S [q] = (decide (0 ≤ q.at_ ∧ q.at_ < n ∧ q.at_ + 1 = n) && shn q.l.num q.at_.toNat n q.ts S) := by
  have h' : ¬ (key < q.l.key) := by omega
  by_cases a : 0 ≤ q.at_ <;> by_cases b : q.at_ < n <;> by_cases c : q.at_ + 1 = n <;> simp [isA, lo, hi, h, h', a, b, c, swapped, place1, place2]
theorem isA_hi {key : Int} {q : Pp} (h : key < q.l.key) (n : Nat) (S : Tm) : isA key n S [q] = (decide (0 ≤ q.at_ ∧ q.at_ < n ∧ q.at_ = 0) && shn q.l.num q.at_.toNat n q.ts S) := by
  have h' : ¬ (q.l.key < key) := by omega
  by_cases a : 0 ≤ q.at_ <;> by_cases b : q.at_ < n <;> by_cases c : q.at_ = 0 <;> simp [isA, lo, hi, h, h', a, b, c, swapped, place1, place2, eq_comm (a := (0 : Int))]
theorem isA_at {key : Int} {q : Pp} (h : q.l.key = key) (n : Nat) (S : Tm) : isA key n S [q] = false := by
  simp [isA, lo, hi, h]
theorem isA_len {key : Int} {n : Nat} {S : Tm} {ps : List Pp} (h : ¬ ((lo key ps).length ≤ 1 ∧ (hi key ps).length ≤ 1 ∧ (lo key ps).length + (hi key ps).length = ps.length)) : isA key n S ps = false := by
  unfold isA
  split
  · rw [if_neg (fun c => h ⟨c.1, c.2.1, c.2.2.2⟩)]
  · rfl
theorem isA_2 {key : Int} {q r : Pp} (h : q.l.key < key) (h2 : key < r.l.key) (n : Nat) (S : Tm) : isA key n S [q, r] = (decide (0 ≤ q.at_ ∧ q.at_ < n ∧ 0 ≤ r.at_ ∧ r.at_ < n ∧ q.at_ + 1 = r.at_) && (shn q.l.num q.at_.toNat n q.ts S && shn r.l.num r.at_.toNat n r.ts S)) := by
  have h' : ¬ (key < q.l.key) := by omega
  have h2' : ¬ (r.l.key < key) := by omega
  by_cases a : 0 ≤ q.at_ <;> by_cases b : q.at_ < n <;> by_cases c : 0 ≤ r.at_ <;> by_cases d : r.at_ < n <;> by_cases e : q.at_ + 1 = r.at_
  all_goals first
    | (have f : ¬ (r.at_ < q.at_) := by omega
       simp [isA, lo, hi, h, h', h2, h2', a, b, c, d, e, f, swapped, place1, place2])
    | simp [isA, lo, hi, h, h', h2, h2', a, b, c, d, e, swapped, place1, place2]
theorem isA_ll {key : Int} {q r : Pp} (h : q.l.key < key) (h2 : r.l.key < key) (n : Nat) (S : Tm) : isA key n S [q, r] = false :=
  isA_len (by simp [lo, hi, h, h2])
theorem isA_hh {key : Int} {q r : Pp} (h : key < q.l.key) (h2 : key < r.l.key) (n : Nat) (S : Tm) : isA key n S [q, r] = false :=
  isA_len (by simp [lo, hi, h, h2])
theorem isA_e1 {key : Int} {q r : Pp} (h : q.l.key = key) (n : Nat) (S : Tm) : isA key n S [q, r] = false :=
  isA_len (by
    by_cases c : r.l.key < key
    · have c' : ¬ (key < r.l.key) := by omega
      simp [lo, hi, h, c, c']
    · by_cases c' : key < r.l.key <;> simp [lo, hi, h, c, c'])
theorem isA_e2 {key : Int} {q r : Pp} (h : r.l.key = key) (n : Nat) (S : Tm) : isA key n S [q, r] = false :=
  isA_len (by
    by_cases c : q.l.key < key
    · have c' : ¬ (key < q.l.key) := by omega
      simp [lo, hi, h, c, c']
    · by_cases c' : key < q.l.key <;> simp [lo, hi, h, c, c'])
theorem isA_dup {key : Int} (q : Pp) (n : Nat) (S : Tm) : isA key n S [q, q] = false := by
  by_cases c : q.l.key < key
  · exact isA_ll c c n S
  · by_cases c2 : key < q.l.key
    · exact isA_hh c2 c2 n S
    · exact isA_e1 (by omega) n S
/-! the papers of a sheet -/
def pp (ls : List Ln) (i : Nat) : Pp := ⟨ls.getD i default, i, prf 7 (nums ls) i⟩
theorem pp_d (ls : List Ln) (i : Nat) : (pp ls i).d = paper ls i := rfl
def toldP (ls : List Ln) (p : Nat) : List Pp := (if 1 ≤ p ∧ p - 1 < ls.length then [pp ls (p - 1)] else []) ++ (if p < ls.length then [pp ls p] else [])
theorem told_P (ls : List Ln) (p : Nat) : told ls p = (toldP ls p).map Pp.d := by
  unfold told toldP papD
  rw [List.map_append]
  dsimp only
  congr 1
  · by_cases c : 1 ≤ p ∧ p - 1 < ls.length
    · have c' : 0 ≤ (p : Int) - 1 ∧ (p : Int) - 1 < ls.length := by omega
      rw [if_pos c, if_pos c', show ((p : Int) - 1).toNat = p - 1 by omega]
      rfl
    · have c' : ¬ (0 ≤ (p : Int) - 1 ∧ (p : Int) - 1 < ls.length) := by omega
      rw [if_neg c, if_neg c']
      rfl
  · by_cases c : p < ls.length
    · have c' : 0 ≤ (p : Int) ∧ (p : Int) < ls.length := by omega
      rw [if_pos c, if_pos c', Int.toNat_natCast]
      rfl
    · have c' : ¬ (0 ≤ (p : Int) ∧ (p : Int) < ls.length) := by omega
      rw [if_neg c, if_neg c']
      rfl
theorem rise_of : ∀ ls : List Ln, (∀ i j (hi : i < ls.length) (hj : j < ls.length), i < j → ls[i].key < ls[j].key) → Rise (ls.map Ln.key)
  | [], _ => .nil
  | l :: ls, h => by
    refine .cons ?_ (rise_of ls fun i j hi hj hij => ?_)
    · intro y hy
      obtain ⟨z, hz, rfl⟩ := List.mem_map.mp hy
      obtain ⟨j, hj, rfl⟩ := List.mem_iff_getElem.mp hz
      exact h 0 (j + 1) (by simp) (by simpa using hj) (by omega)
    · exact h (i + 1) (j + 1) (by simpa using hi) (by simpa using hj) (by omega)
theorem plc_iff (key : Int) : ∀ ls : List Ln, Rise (ls.map Ln.key) → ∀ i (h : i < ls.length), (i < plc ls key ↔ ls[i].key < key)
  | [], _, i, h => by simp at h
  | l :: ls, hr, i, h => by
    cases hr with
    | cons hl hr =>
      by_cases c : l.key < key
      · have e : plc (l :: ls) key = plc ls key + 1 := by simp [plc, List.filter_cons, c]
        rw [e]
        cases i with
        | zero => simp [c]
        | succ i =>
          have ih := plc_iff key ls hr i (by simpa using h)
          simp only [List.getElem_cons_succ]
          omega
      · have e : plc (l :: ls) key = 0 := by
          unfold plc
          rw [List.filter_cons, if_neg (by simpa using c), List.length_eq_zero_iff, List.filter_eq_nil_iff]
          intro z hz
          have := hl z.key (List.mem_map.mpr ⟨z, hz, rfl⟩)
          simp; omega
        rw [e]
        cases i with
        | zero => simp [c]
        | succ i =>
          have hi : i < ls.length := by simpa using h
          have := hl (ls[i]'hi).key (List.mem_map.mpr ⟨_, List.getElem_mem hi, rfl⟩)
          simp only [List.getElem_cons_succ]
          omega
theorem plc_le (ls : List Ln) (key : Int) : plc ls key ≤ ls.length := List.length_filter_le _ _
section
variable {ls : List Ln} (h : Sh ls)
include h
theorem key_pp {i : Nat} (hi : i < ls.length) : (pp ls i).l = ls[i] := by
  simp [pp, hi]
theorem lv_S : (sl (nums ls)).lv = nums ls := by
  have := h.one
  have := h.most
  exact lv_sl (nums ls).length (nums ls) (Nat.le_refl _) (by rw [nums_len]; omega) (by rw [nums_len]; omega)
theorem shw_pp {i : Nat} (hi : i < ls.length) (x : Int) : shw 7 x i ls.length (pp ls i).ts = some ((nums ls).set i x) := by
  have := h.most
  have e := shw_prf 6 (nums ls) i (by rw [nums_len]; omega) (by rw [nums_len]; omega) (by omega) (by rw [nums_len]; omega) x
  rw [nums_len] at e
  exact e
theorem num_pp {i : Nat} (hi : i < ls.length) : (pp ls i).l.num = (nums ls)[i]'(by rw [nums_len]; exact hi) := by
  rw [key_pp h hi]; simp [nums]
theorem shn_own {i : Nat} (hi : i < ls.length) : shn (pp ls i).l.num (pp ls i).at_.toNat ls.length (pp ls i).ts (sl (nums ls)) = true := by
  unfold shn
  rw [show (pp ls i).at_.toNat = i by simp [pp], shw_pp h hi, num_pp h hi]
  simp [lv_S h]
theorem shn_five {i : Nat} (hi : i < ls.length) : shn (pp ls i).l.num (pp ls i).at_.toNat ls.length (pp ls i).ts (.leaf 5) = decide (nums ls = [5]) := by
  unfold shn
  rw [show (pp ls i).at_.toNat = i by simp [pp], shw_pp h hi, num_pp h hi]
  simp only [List.set_getElem_self, Tm.lv]
  by_cases c : nums ls = [5]
  · simp [c, sl_1]
  · have : ¬ ([5] = nums ls) := fun e => c e.symm
    simp [c, this]
theorem shn_ne {i : Nat} (hi : i < ls.length) {x : Int} (hx : x ≠ (pp ls i).l.num) : shn x i ls.length (pp ls i).ts (sl (nums ls)) = false := by
  unfold shn
  rw [shw_pp h hi]
  have : ¬ ((sl (nums ls)).lv = (nums ls).set i x) := by
    rw [lv_S h]
    intro e
    rw [num_pp h hi] at hx
    have e2 : (nums ls)[i]? = ((nums ls).set i x)[i]? := congrArg (fun l : List Int => l[i]?) e
    rw [List.getElem?_set_self (by rw [nums_len]; exact hi), List.getElem?_eq_getElem (by rw [nums_len]; exact hi)] at e2
    injection e2 with e2
    exact hx e2.symm
  simp [this]
theorem shn_more {i : Nat} (hi : i < ls.length) (x : Int) (t S : Tm) : shn x i ls.length ((pp ls i).ts ++ [t]) S = false := by
  have := h.most
  have e := shw_more (xs := nums ls) (i := i) (by rw [nums_len]; omega) (by rw [nums_len]; omega) x t
  rw [nums_len] at e
  unfold shn
  rw [show (pp ls i).ts = prf 7 (nums ls) i from rfl, e]
theorem shn_n1 (x : Int) (i : Nat) (ts : List Tm) : shn x i (ls.length + 1) ts (sl (nums ls)) = false := by
  unfold shn
  cases e : shw 7 x i (ls.length + 1) ts with
  | none => rfl
  | some r =>
    have l := shw_len _ _ _ _ _ _ (by omega) e
    have : ¬ ((sl (nums ls)).lv = r) := by
      rw [lv_S h]
      intro e
      have : (nums ls).length = r.length := by rw [e]
      rw [nums_len] at this
      omega
    simp [this]
/-- the three ways that a key is not there -/
theorem told_3 {key : Int} (hn : ∀ l ∈ ls, l.key ≠ key) :
    (toldP ls (plc ls key) = [pp ls 0] ∧ key < (pp ls 0).l.key ∧ plc ls key = 0) ∨
    (toldP ls (plc ls key) = [pp ls (ls.length - 1)] ∧ (pp ls (ls.length - 1)).l.key < key ∧ plc ls key = ls.length) ∨
    (∃ p, p + 1 < ls.length ∧ toldP ls (plc ls key) = [pp ls p, pp ls (p + 1)] ∧ (pp ls p).l.key < key ∧ key < (pp ls (p + 1)).l.key ∧ plc ls key = p + 1) := by
  have one := h.one
  have hr := rise_of ls h.asc
  have hle := plc_le ls key
  have iff := plc_iff key ls hr
  have ne : ∀ i (hi : i < ls.length), ls[i].key ≠ key := fun i hi => hn _ (List.getElem_mem hi)
  generalize hp : plc ls key = p at *
  by_cases c0 : p = 0
  · subst c0
    refine Or.inl ⟨?_, ?_, rfl⟩
    · unfold toldP
      rw [if_neg (by omega), if_pos (by omega)]
      rfl
    · rw [key_pp h (by omega)]
      have a := iff 0 (by omega)
      have b := ne 0 (by omega)
      omega
  · by_cases c1 : p = ls.length
    · refine Or.inr (Or.inl ⟨?_, ?_, c1⟩)
      · unfold toldP
        rw [if_pos (by omega), if_neg (by omega), c1]
        rfl
      · rw [key_pp h (by omega)]
        have a := iff (ls.length - 1) (by omega)
        omega
    · refine Or.inr (Or.inr ⟨p - 1, by omega, ?_, ?_, ?_, by omega⟩)
      · unfold toldP
        rw [if_pos (by omega), if_pos (by omega), show p - 1 + 1 = p by omega]
        rfl
      · rw [key_pp h (by omega)]
        have a := iff (p - 1) (by omega)
        omega
      · rw [show p - 1 + 1 = p by omega, key_pp h (by omega)]
        have a := iff p (by omega)
        have b := ne p (by omega)
        omega
/-- the papers that are told are accepted -/
theorem acc_own {key : Int} (hn : ∀ l ∈ ls, l.key ≠ key) : isA key ls.length (sl (nums ls)) (toldP ls (plc ls key)) = true := by
  have one := h.one
  rcases told_3 h hn with ⟨e, k, _⟩ | ⟨e, k, _⟩ | ⟨p, hp, e, k1, k2, _⟩
  · rw [e, isA_hi k, shn_own h (by omega)]
    simp [pp]; omega
  · rw [e, isA_lo k, shn_own h (by omega)]
    simp [pp]; omega
  · rw [e, isA_2 k1 k2, shn_own h (by omega), shn_own h (by omega)]
    simp [pp]; omega
theorem acc_five {key : Int} (hn : ∀ l ∈ ls, l.key ≠ key) : isA key ls.length (.leaf 5) (toldP ls (plc ls key)) = (decide (ls.length = 1) && decide (nums ls = [5])) := by
  have one := h.one
  have hl : nums ls = [5] → ls.length = 1 := fun e => by rw [← nums_len ls, e]; rfl
  rcases told_3 h hn with ⟨e, k, _⟩ | ⟨e, k, _⟩ | ⟨p, hp, e, k1, k2, _⟩
  · rw [e, isA_hi k, shn_five h (by omega)]
    by_cases c : nums ls = [5]
    · have := hl c
      simp [c, pp, this]
    · simp [c]
  · rw [e, isA_lo k, shn_five h (by omega)]
    by_cases c : nums ls = [5]
    · have := hl c
      simp [c, pp, this]
    · simp [c]
  · rw [e, isA_2 k1 k2, shn_five h (by omega), shn_five h (by omega)]
    by_cases c : nums ls = [5]
    · have := hl c
      omega
    · simp [c]
theorem acc_n1 {key : Int} (hn : ∀ l ∈ ls, l.key ≠ key) : isA key (ls.length + 1) (sl (nums ls)) (toldP ls (plc ls key)) = false := by
  rcases told_3 h hn with ⟨e, k, _⟩ | ⟨e, k, _⟩ | ⟨p, hp, e, k1, k2, _⟩
  · rw [e, isA_hi k, shn_n1 h, Bool.and_false]
  · rw [e, isA_lo k, shn_n1 h, Bool.and_false]
  · rw [e, isA_2 k1 k2, shn_n1 h, Bool.false_and, Bool.and_false]
/-- the first part changed: what is told of it -/
theorem acc_1 {key : Int} (hn : ∀ l ∈ ls, l.key ≠ key) : ∃ i rest, toldP ls (plc ls key) = pp ls i :: rest ∧ i < ls.length ∧
    (∀ q : Pp, q.l.key = (pp ls i).l.key → (q.at_ ≠ i ∨ shn q.l.num i ls.length q.ts (sl (nums ls)) = false) → isA key ls.length (sl (nums ls)) (q :: rest) = false) ∧ isA key ls.length (sl (nums ls)) rest = false := by
  have one := h.one
  rcases told_3 h hn with ⟨e, k, _⟩ | ⟨e, k, _⟩ | ⟨p, hp, e, k1, k2, _⟩
  · refine ⟨0, [], e, by omega, fun q hq hw => ?_, isA_nil _ _ _⟩
    rw [isA_hi (by omega)]
    rcases hw with hw | hw
    · have : ¬ (0 ≤ q.at_ ∧ q.at_ < ls.length ∧ q.at_ = 0) := by omega
      simp [this]
    · by_cases c : q.at_ = 0
      · rw [c, Int.toNat_zero, hw, Bool.and_false]
      · simp [c]
  · refine ⟨ls.length - 1, [], e, by omega, fun q hq hw => ?_, isA_nil _ _ _⟩
    rw [isA_lo (by omega)]
    rcases hw with hw | hw
    · have : ¬ (0 ≤ q.at_ ∧ q.at_ < ls.length ∧ q.at_ + 1 = ls.length) := by omega
      simp [this]
    · by_cases c : q.at_ + 1 = ls.length
      · rw [show q.at_.toNat = ls.length - 1 by omega, hw, Bool.and_false]
      · simp [c]
  · refine ⟨p, [pp ls (p + 1)], e, by omega, fun q hq hw => ?_, ?_⟩
    · rw [isA_2 (by omega) k2]
      have ea : (pp ls (p + 1)).at_ = (p + 1 : Nat) := rfl
      rcases hw with hw | hw
      · have : ¬ (0 ≤ q.at_ ∧ q.at_ < ls.length ∧ 0 ≤ (pp ls (p + 1)).at_ ∧ (pp ls (p + 1)).at_ < ls.length ∧ q.at_ + 1 = (pp ls (p + 1)).at_) := by rw [ea]; omega
        rw [decide_eq_false this, Bool.false_and]
      · by_cases c : q.at_ = p
        · rw [show q.at_.toNat = p by omega, hw, Bool.false_and, Bool.and_false]
        · have : ¬ (0 ≤ q.at_ ∧ q.at_ < ls.length ∧ 0 ≤ (pp ls (p + 1)).at_ ∧ (pp ls (p + 1)).at_ < ls.length ∧ q.at_ + 1 = (pp ls (p + 1)).at_) := by rw [ea]; omega
          rw [decide_eq_false this, Bool.false_and]
    · rw [isA_hi k2]
      have ea : (pp ls (p + 1)).at_ = (p + 1 : Nat) := rfl
      have : ¬ (0 ≤ (pp ls (p + 1)).at_ ∧ (pp ls (p + 1)).at_ < ls.length ∧ (pp ls (p + 1)).at_ = 0) := by rw [ea]; omega
      rw [decide_eq_false this, Bool.false_and]
/-- of a key that is there no pair of neighbours is accepted -/
theorem acc_there {q : Nat} (hq : q < ls.length) {k : Nat} (hk : k ≤ ls.length) : isA ls[q].key ls.length (sl (nums ls)) (toldP ls k) = false := by
  have one := h.one
  have asc := h.asc
  unfold toldP
  by_cases c0 : k = 0
  · subst c0
    rw [if_neg (by omega), if_pos (by omega)]
    show isA _ _ _ [pp ls 0] = false
    by_cases c : q = 0
    · subst c
      exact isA_at (by rw [key_pp h (by omega)]) _ _
    · have a := asc 0 q (by omega) hq (by omega)
      rw [isA_lo (by rw [key_pp h (by omega)]; exact a)]
      have ea : (pp ls 0).at_ = 0 := rfl
      rw [decide_eq_false (by rw [ea]; omega), Bool.false_and]
  · by_cases c1 : k = ls.length
    · rw [if_pos (by omega), if_neg (by omega)]
      show isA _ _ _ [pp ls (k - 1)] = false
      by_cases c : q = k - 1
      · subst c
        exact isA_at (by rw [key_pp h (by omega)]) _ _
      · have a := asc q (k - 1) hq (by omega) (by omega)
        rw [isA_hi (by rw [key_pp h (by omega)]; exact a)]
        have ea : (pp ls (k - 1)).at_ = ((k - 1 : Nat) : Int) := rfl
        rw [decide_eq_false (by rw [ea]; omega), Bool.false_and]
    · rw [if_pos (by omega), if_pos (by omega)]
      show isA _ _ _ [pp ls (k - 1), pp ls k] = false
      by_cases c : q = k - 1
      · subst c
        exact isA_e1 (by rw [key_pp h (by omega)]) _ _
      · by_cases c' : q = k
        · subst c'
          exact isA_e2 (by rw [key_pp h (by omega)]) _ _
        · by_cases g : q < k - 1
          · exact isA_hh (by rw [key_pp h (by omega)]; exact asc q (k - 1) hq (by omega) g) (by rw [key_pp h (by omega)]; exact asc q k hq (by omega) (by omega)) _ _
          · exact isA_ll (by rw [key_pp h (by omega)]; exact asc (k - 1) q (by omega) hq (by omega)) (by rw [key_pp h (by omega)]; exact asc k q (by omega) hq (by omega)) _ _
theorem ok_pp {i : Nat} (hi : i < ls.length) : PpOk (pp ls i) := by
  have one := h.one
  have most := h.most
  refine ⟨?_, ?_, fun t ht => ?_⟩
  · rw [key_pp h hi]
    exact h.ok _ (List.getElem_mem hi)
  · have := prf_len 7 (nums ls) i
    show (prf 7 (nums ls) i).length ≤ 60
    omega
  · have := prf_mem 7 (nums ls) i (by rw [nums_len]; omega) (by rw [nums_len]; omega) t ht
    exact ⟨this.1, by omega⟩
end
end Ev.K62
/-! P62z: the law (1). -/
namespace Ev
theorem evB_nx {T : Top} {C : Calls} {s : S} {n : Nat} {ρ ρ' : Ev} (h : evS T C s n ρ = .ok .nx ρ') (ss : List S) : evB T C (s :: ss) n ρ = evB T C ss n ρ' := by
  rw [v_bcons, h]; rfl
mutual
theorem beq_refl : ∀ x : D, D.beq x x = true
  | .non => by simp [D.beq]
  | .bl b => by simp [D.beq]
  | .int i => by simp [D.beq]
  | .str s => by simp [D.beq]
  | .tup xs => by simp [D.beq, beqs_refl xs]
  | .lst xs => by simp [D.beq, beqs_refl xs]
theorem beqs_refl : ∀ xs : List D, D.beqs xs xs = true
  | [] => by simp [D.beqs]
  | x :: xs => by simp [D.beqs, beq_refl x, beqs_refl xs]
end
mutual
theorem eqb_refl : ∀ x : D, eqb x x = true
  | .non => by simp [eqb]
  | .bl b => by simp [eqb]
  | .int i => by simp [eqb]
  | .str s => by simp [eqb]
  | .tup xs => by simp [eqb, eqbs_refl xs]
  | .lst xs => by simp [eqb, eqbs_refl xs]
theorem eqbs_refl : ∀ xs : List D, eqbs xs xs = true
  | [] => by simp [eqbs]
  | x :: xs => by simp [eqbs, eqb_refl x, eqbs_refl xs]
end
theorem same_refl {x : D} (h : lim x 60 = true) : same x x = some true := by
  simp [same, limit, h, eqb_refl]
theorem limL_of {n : Nat} : ∀ xs : List D, (∀ x ∈ xs, lim x n = true) → limL xs n = true
  | [], _ => by simp [limL]
  | x :: xs, h => by
    simp only [limL, Bool.and_eq_true]
    exact ⟨h x (by simp), limL_of xs fun y hy => h y (List.mem_cons_of_mem _ hy)⟩
theorem lim_tup {n : Nat} {xs : List D} (h : ∀ x ∈ xs, lim x n = true) : lim (.tup xs) (n + 1) = true := by
  simp only [lim]
  exact limL_of xs h
theorem forL_keep (ws : List Nat) (ρ0 : Ev) (tg : Tg) (body : Ev → R Fl) (Inv : Ev → Prop) (hs : ∀ ρ, Inv ρ → stands ρ0 ρ ws = true) : ∀ (xs : List D) (ρ : Ev), Inv ρ →
    (∀ x ∈ xs, ∀ ρ, Inv ρ → ∃ ρ1 ρ2, bindT tg x ρ = some ρ1 ∧ body ρ1 = .ok .nx ρ2 ∧ Inv ρ2) → ∃ ρ', forL ws ρ0 tg body xs ρ = .ok .nx ρ' ∧ Inv ρ'
  | [], ρ, hi, _ => ⟨ρ, by simp [forL, hs ρ hi], hi⟩
  | x :: xs, ρ, hi, h => by
    obtain ⟨ρ1, ρ2, e1, e2, i2⟩ := h x (by simp) ρ hi
    obtain ⟨ρ', e3, i3⟩ := forL_keep ws ρ0 tg body Inv hs xs ρ2 i2 (fun y hy => h y (List.mem_cons_of_mem _ hy))
    refine ⟨ρ', ?_, i3⟩
    simp only [forL, hs ρ hi, if_true, e1, R.opt_some, e2, R.bind_ok]
    exact e3
namespace K62
abbrev C60 : Calls := calls L.T L.ds 60
theorem told60 {b : E} {ρ ρ' : Ev} {x : D} (n : Nat) (hn : n ≤ 50) (h : evE L.T C60 b 58 ρ = .ok (.d x) ρ') (hr : rdy n x = true) : evE L.T C60 (.told b) 60 ρ = .ok (.d (.tup [.int 0, x])) ρ' := by
  refine told_ok L.T C60 b 58 ρ ρ' x h ?_
  rw [callF_le _ _ (by omega)]
  exact s25 n x (m := 59) (by omega) hr ρ'
section
variable (ns : List Int) (a b : Int) (ls : List Ln) (key : Int)
abbrev W0 : Option W := some (.d (.lst (ns.map .int)))
abbrev Wb : Option W := some (.L false [.int a, .int b])
abbrev S0 : Tm := sl (nums ls)
/-- the slots once the sheet is sealed -/
abbrev en31 (w4 w5 w6 w7 w8 w9 w12 w13 w14 w15 w16 w17 w18 w19 : Option W) : Ev :=
  [W0 ns, Wb a b, some (.d (dS ls)), some (.d (.tup [.int 0, (S0 ls).d])), w4, w5, w6, w7, w8, w9, some (.d (.int ls.length)), some (.d (dI (nums ls))), w12, w13, w14, w15, w16, w17, w18, w19]
abbrev en30 (w1 w2 w3 w10 w11 : Option W) : Ev := [W0 ns, w1, w2, w3, none, none, none, none, none, none, w10, w11, none, none, none, none, none, none, none, none]
theorem p1 : ∃ a b : Int, 0 ≤ a ∧ 0 ≤ b ∧ evS L.T C60 (.set 1 (.call 23 [.var 0, .int 0])) 60 (en30 ns none none none none none) = .ok .nx (en30 ns (Wb a b) none none none none) := by
  obtain ⟨a, b, ha, hb, e⟩ := s23 (m := 60) (by omega) ns (en30 ns none none none none none)
  refine ⟨a, b, ha, hb, ?_⟩
  unfold cf at e
  simp only [v_set, v_call, v_lcons, v_lnil, v_var, v_int, varS, List.getElem?_cons_succ, List.getElem?_cons_zero, R.bind_ok, e, assign_L]
  rfl
theorem p2 (ha : 0 ≤ a) (hb : 0 ≤ b) : ∃ (a' b' : Int) (ls : List Ln), 0 ≤ a' ∧ 0 ≤ b' ∧ Sh ls ∧ evS L.T C60 (.set 2 (.call 26 [.var 1])) 60 (en30 ns (Wb a b) none none none none) = .ok .nx (en30 ns (Wb a' b') (some (.d (dS ls))) none none none) := by
  obtain ⟨a', b', ls, ha', hb', h, e⟩ := s26 (m := 60) (by omega) a b ha hb 1 false (en30 ns (Wb a b) none none none none) rfl
  refine ⟨a', b', ls, ha', hb', h, ?_⟩
  unfold cf at e
  simp only [v_set, v_call, v_lcons, v_lnil, v_var, varS, List.getElem?_cons_succ, List.getElem?_cons_zero, R.bind_ok, e, assign_d]
  rfl
theorem p3 (h : Sh ls) : evS L.T C60 (.par [10, 11] [.blt .len [.var 2], .blt .tuple [.comp (.call 27 [.var 18]) (.nm 18) .seq [.var 2] [] [18]]]) 60 (en30 ns (Wb a b) (some (.d (dS ls))) none none none)
    = .ok .nx (en30 ns (Wb a b) (some (.d (dS ls))) none (some (.d (.int ls.length))) (some (.d (dI (nums ls))))) := by
  have most := h.most
  have hc : evE L.T C60 (.comp (.call 27 [.var 18]) (.nm 18) .seq [.var 2] [] [18]) 60 (en30 ns (Wb a b) (some (.d (dS ls))) none none none) = .ok (.L (ls.flatMap fun l => [D.int l.num])) (en30 ns (Wb a b) (some (.d (dS ls))) none none none) := by
    refine v_comp_enc _ _ _ _ _ _ _ _ _ _ [] ls Ln.d (fun l => [D.int l.num]) (by simp [varS]) rfl rfl (by show _ ≤ 16777216; omega) ?_
    intro l hl
    have e := s27 (m := 60) (by omega) l
    unfold cf at e
    refine ⟨[W0 ns, Wb a b, some (.d (dS ls)), none, none, none, none, none, none, none, none, none, none, none, none, none, none, none, some (.d l.d), none], rfl, rfl, Or.inr ⟨rfl, _, ?_, rfl⟩⟩
    simp only [v_call, v_lcons, v_lnil, v_var, varS, List.getElem?_cons_succ, List.getElem?_cons_zero, R.bind_ok, e]
  have hn : (ls.flatMap fun l => [D.int l.num]) = (nums ls).map D.int := by
    unfold nums
    rw [List.map_map]
    clear hc h most
    induction ls with
    | nil => rfl
    | cons l ls ih => simp at ih ⊢; exact ih
  rw [hn] at hc
  simp only [v_par, v_blt, v_lcons, v_lnil, v_var, varS, List.getElem?_cons_succ, List.getElem?_cons_zero, R.bind_ok, List.map_cons, List.map_nil, rs_d, len_tup, List.length_map, oko_some, hc, rs_L, tuple_L]
  rfl
theorem p4 (h : Sh ls) : evS L.T C60 (.set 3 (.told (.call 16 [.var 2]))) 60 (en30 ns (Wb a b) (some (.d (dS ls))) none (some (.d (.int ls.length))) (some (.d (dI (nums ls)))))
    = .ok .nx (en31 ns a b ls none none none none none none none none none none none none none none) := by
  have e := s16 (m := 58) (by omega) ls h
  have hc : evE L.T C60 (.call 16 [.var 2]) 58 (en30 ns (Wb a b) (some (.d (dS ls))) none (some (.d (.int ls.length))) (some (.d (dI (nums ls))))) = .ok (.d (S0 ls).d) (en30 ns (Wb a b) (some (.d (dS ls))) none (some (.d (.int ls.length))) (some (.d (dI (nums ls))))) := by
    simp only [v_call, v_lcons, v_lnil, v_var, varS, List.getElem?_cons_succ, List.getElem?_cons_zero, R.bind_ok]
    rw [callF_le _ _ (by omega)]
    exact e _
  rw [v_set, told60 8 (by omega) hc (rdy_Tm _ 8 (dp_sl _))]
  rfl
theorem p5 (h : Sh ls) : evS L.T C60 (.ite (.cmp .ne (.var 3) (.tup [.int 0, .call 28 [.var 11]])) [.ret (.bl false)] []) 60 (en31 ns a b ls none none none none none none none none none none none none none none)
    = .ok .nx (en31 ns a b ls none none none none none none none none none none none none none none) := by
  have most := h.most
  have one := h.one
  have e := s28 6 (m := 60) (by omega) (by omega) (nums ls) (by rw [nums_len]; omega) (by rw [nums_len]; omega) (by rw [nums_len]; omega)
  unfold cf at e
  have sr : same (.tup [.int 0, (S0 ls).d]) (.tup [.int 0, (S0 ls).d]) = some true := same_refl (lim_tup (n := 59) (by
    intro x hx
    simp only [List.mem_cons, List.not_mem_nil, or_false] at hx
    rcases hx with rfl | rfl
    · exact lim_int _ _
    · exact lim_Tm _ _ (Nat.le_trans (dp_sl (nums ls)) (by omega))))
  simp only [v_if, v_cmp, v_tup, v_lcons, v_lnil, v_int, v_call, v_var, varS, List.getElem?_cons_succ, List.getElem?_cons_zero, R.bind_ok, e, keeps_d, keeps_nil, Option.map_some, R.opt_some, rs_d, cmp_ne_d, sr, okb_some, asT_d, truth_bl, Bool.not_true, ifB_f, v_bnil]
theorem p6 (ha : 0 ≤ a) (hb : 0 ≤ b) : ∃ a' b' key : Int, 0 ≤ a' ∧ 0 ≤ b' ∧ 0 ≤ key ∧ key ≤ 900 ∧ evS L.T C60 (.set 4 (.call 24 [.var 1, .int 901])) 60 (en31 ns a b ls none none none none none none none none none none none none none none)
    = .ok .nx (en31 ns a' b' ls (some (.d (.int key))) none none none none none none none none none none none none none) := by
  obtain ⟨a', b', r, ha', hb', h0, h1, e⟩ := s24 (m := 60) (by omega) a b 901 ha hb (by omega) (by omega) 1 false (en31 ns a b ls none none none none none none none none none none none none none none) rfl
  refine ⟨a', b', r, ha', hb', h0, by omega, ?_⟩
  unfold cf at e
  simp only [v_set, v_call, v_lcons, v_lnil, v_var, v_int, varS, List.getElem?_cons_succ, List.getElem?_cons_zero, R.bind_ok, e, assign_d]
  rfl
def ther : Bool := ls.any fun l => l.key == key
theorem filt (p : Ln → Bool) : (ls.flatMap fun l => if p l = true then [l.d] else []) = (ls.filter p).map Ln.d := by
  induction ls with
  | nil => rfl
  | cons l ls ih => by_cases c : p l = true <;> simp [c, List.filter_cons, ih]
theorem p7 (h : Sh ls) : evS L.T C60 (.set 5 (.cmp .ne (.comp (.var 18) (.nm 18) .seq [.var 2] [.cmp .eq (.ix (.var 18) (.int 1)) (.var 4)] [18]) (.lst []))) 60 (en31 ns a b ls (some (.d (.int key))) none none none none none none none none none none none none none)
    = .ok .nx (en31 ns a b ls (some (.d (.int key))) (some (.d (.bl (ther ls key)))) none none none none none none none none none none none none) := by
  have most := h.most
  have hc : evE L.T C60 (.comp (.var 18) (.nm 18) .seq [.var 2] [.cmp .eq (.ix (.var 18) (.int 1)) (.var 4)] [18]) 60 (en31 ns a b ls (some (.d (.int key))) none none none none none none none none none none none none none)
      = .ok (.L (ls.flatMap fun l => if (l.key == key) = true then [l.d] else [])) (en31 ns a b ls (some (.d (.int key))) none none none none none none none none none none none none none) := by
    refine v_comp_enc _ _ _ _ _ _ _ _ _ _ [] ls Ln.d (fun l => if (l.key == key) = true then [l.d] else []) (by simp [varS]) rfl rfl (by show _ ≤ 16777216; omega) ?_
    intro l hl
    have i1 := ix1 l
    refine ⟨[W0 ns, Wb a b, some (.d (dS ls)), some (.d (.tup [.int 0, (S0 ls).d])), some (.d (.int key)), none, none, none, none, none, some (.d (.int ls.length)), some (.d (dI (nums ls))), none, none, none, none, none, none, some (.d l.d), none], rfl, rfl, ?_⟩
    by_cases c : (l.key == key) = true
    · refine Or.inr ⟨?_, l.d, rfl, by rw [if_pos c]⟩
      simp only [v_tcons, v_tnil, v_cmp, v_ix, v_var, v_int, varS, List.getElem?_cons_succ, List.getElem?_cons_zero, R.bind_ok, rs_d, i1, okd_some, cmp_eq_d, same_ii, okb_some, asT_d, truth_bl, R.opt_some, c, ifB_t]
    · have c' : (l.key == key) = false := by simpa using c
      refine Or.inl ⟨?_, by rw [if_neg c]⟩
      simp only [v_tcons, v_tnil, v_cmp, v_ix, v_var, v_int, varS, List.getElem?_cons_succ, List.getElem?_cons_zero, R.bind_ok, rs_d, i1, okd_some, cmp_eq_d, same_ii, okb_some, asT_d, truth_bl, R.opt_some, c', ifB_f]
  rw [filt] at hc
  have hcm : cmp .ne (.L ((ls.filter fun l => l.key == key).map Ln.d)) (.L []) = some (ther ls key) := by
    show (same (.lst ((ls.filter fun l => l.key == key).map Ln.d)) (.lst [])).map (!·) = _
    have hl : lim (.lst ((ls.filter fun l => l.key == key).map Ln.d)) 60 = true := by
      show limL _ 59 = true
      refine limL_of _ fun x hx => ?_
      obtain ⟨l, _, rfl⟩ := List.mem_map.mp hx
      cases hp : l.put <;> simp [Ln.d, hp, lim, limL, lim_int, lim_str]
    have hl2 : lim (.lst []) 60 = true := rfl
    unfold same limit
    rw [hl, hl2]
    unfold ther
    simp only [Bool.and_self, if_true, Option.map_some, eqb]
    cases hf : (ls.filter fun l => l.key == key) with
    | nil =>
      have : ls.any (fun l => l.key == key) = false := by
        rw [List.any_eq_false]
        intro l hl
        exact List.filter_eq_nil_iff.mp hf l hl
      rw [this]
      rfl
    | cons x r =>
      have : ls.any (fun l => l.key == key) = true := by
        rw [List.any_eq_true]
        have hx : x ∈ ls.filter fun l => l.key == key := by rw [hf]; simp
        exact ⟨x, (List.mem_filter.mp hx).1, (List.mem_filter.mp hx).2⟩
      rw [this]
      rfl
  simp only [v_set, v_cmp, hc, v_lst, v_lnil, R.bind_ok, keeps_nil, R.opt_some, rs_L, hcm, okb_some, assign_d]
  rfl
/-- what absent tells -/
def ab : D := if ther ls key = true then .non else .tup (told ls (plc ls key))
theorem lim_Ln (l : Ln) (n : Nat) (h : 1 ≤ n) : lim l.d n = true := by
  obtain ⟨n, rfl⟩ : ∃ j, n = j + 1 := ⟨n - 1, by omega⟩
  cases hp : l.put <;> simp [Ln.d, hp, lim, limL, lim_int, lim_str]
theorem rdy_Ln (l : Ln) (n : Nat) (h : 1 ≤ n) : rdy n l.d = true := by
  obtain ⟨n, rfl⟩ : ∃ j, n = j + 1 := ⟨n - 1, by omega⟩
  have e1 : ∀ i, rdy n (.int i) = true := fun i => by cases n <;> rfl
  have e2 : ∀ i, rdy n (.str i) = true := fun i => by cases n <;> rfl
  cases hp : l.put <;> simp [Ln.d, hp, rdy, e1, e2]
theorem rdy_Pp {p : Pp} (h : p.ts.length ≤ 1000) (ht : ∀ t ∈ p.ts, t.dp ≤ 8) : rdy 10 p.d = true := by
  have e1 := rdy_Ln p.l 9 (by omega)
  have e2 := rdy_dT h ht
  have e3 : rdy 9 (.int p.at_) = true := rfl
  show (decide (3 ≤ 1000000) && [p.l.d, .int p.at_, dT p.ts].all (rdy 9)) = true
  simp only [List.all_cons, List.all_nil, e1, e2, e3]
  decide
theorem mem_told {ps : List Pp} {k : Nat} (e : ps = toldP ls k) : ∀ p ∈ ps, ∃ i, i < ls.length ∧ p = pp ls i := by
  intro p hp
  rw [e] at hp
  unfold toldP at hp
  rcases List.mem_append.mp hp with hp | hp
  · split at hp
    · next c => exact ⟨k - 1, c.2, List.mem_singleton.mp hp⟩
    · cases hp
  · split at hp
    · next c => exact ⟨k, c, List.mem_singleton.mp hp⟩
    · cases hp
theorem len_told (k : Nat) : (toldP ls k).length ≤ 2 := by
  unfold toldP
  split <;> split <;> simp
theorem pp_ok (h : Sh ls) {i : Nat} (hi : i < ls.length) : (pp ls i).ts.length ≤ 7 ∧ ∀ t ∈ (pp ls i).ts, t.lv.length ≤ 64 ∧ t.dp ≤ 8 := by
  have most := h.most
  exact ⟨prf_len 7 _ _, prf_mem 7 (nums ls) i (by rw [nums_len]; omega) (by rw [nums_len]; omega)⟩
theorem rdy_told (h : Sh ls) (k : Nat) : rdy 11 (dP (toldP ls k)) = true := by
  have hl := len_told ls k
  show (decide (((toldP ls k).map Pp.d).length ≤ 1000000) && ((toldP ls k).map Pp.d).all (rdy 10)) = true
  simp only [List.length_map, Bool.and_eq_true, decide_eq_true_eq, List.all_eq_true]
  refine ⟨by omega, fun x hx => ?_⟩
  obtain ⟨p, hp, rfl⟩ := List.mem_map.mp hx
  obtain ⟨i, hi, rfl⟩ := mem_told ls rfl p hp
  have := pp_ok ls h hi
  exact rdy_Pp (by omega) fun t ht => (this.2 t ht).2
theorem p8 (h : Sh ls) (h0 : 0 ≤ key) (h9 : key ≤ 900) (w5 : Option W) : evS L.T C60 (.set 6 (.told (.call 17 [.var 2, .var 4]))) 60 (en31 ns a b ls (some (.d (.int key))) w5 none none none none none none none none none none none none)
    = .ok .nx (en31 ns a b ls (some (.d (.int key))) w5 (some (.d (.tup [.int 0, ab ls key]))) none none none none none none none none none none none) := by
  have e := s17 (m := 58) (by omega) ls h key h0 h9
  have hc : evE L.T C60 (.call 17 [.var 2, .var 4]) 58 (en31 ns a b ls (some (.d (.int key))) w5 none none none none none none none none none none none none) = .ok (.d (ab ls key)) (en31 ns a b ls (some (.d (.int key))) w5 none none none none none none none none none none none none) := by
    simp only [v_call, v_lcons, v_lnil, v_var, varS, List.getElem?_cons_succ, List.getElem?_cons_zero, R.bind_ok]
    rw [callF_le _ _ (by omega)]
    exact e _
  have hr : rdy 11 (ab ls key) = true := by
    unfold ab
    split
    · rfl
    · rw [told_P]; exact rdy_told ls h _
  rw [v_set, told60 11 (by omega) hc hr]
  rfl
theorem p9 (w7 : Option W) : evS L.T C60 (.ite (.orL [.cmp .ne (.ix (.var 6) (.int 0)) (.int 0), .cmp .ne (.cmp .is_ (.ix (.var 6) (.int 1)) .non) (.var 5)]) [.ret (.bl false)] []) 60 (en31 ns a b ls (some (.d (.int key))) (some (.d (.bl (ther ls key)))) (some (.d (.tup [.int 0, ab ls key]))) none none none none none none none none none none none)
    = .ok .nx (en31 ns a b ls (some (.d (.int key))) (some (.d (.bl (ther ls key)))) (some (.d (.tup [.int 0, ab ls key]))) none none none none none none none none none none none) := by
  have hn : isNon (ab ls key) = ther ls key := by
    unfold ab
    cases c : ther ls key <;> rfl
  simp only [v_if, v_or, v_ao2, v_ao1, v_cmp, v_ix, v_int, v_non, v_var, varS, List.getElem?_cons_succ, List.getElem?_cons_zero, R.bind_ok, rs_d, index_tup, at_0, at_1, okd_some, cmp_ne_d, same_ii, beq_self_eq_true, Option.map_some, Bool.not_true, okb_some, onB_b, Bool.false_eq_true, if_false, cmp_is_non, hn, same_bb, asT_d, truth_bl, R.opt_some, ifB_f, v_bnil]
theorem p10 (h : Sh ls) (w5 w6 : Option W) : evS L.T C60 (.set 7 (.blt .len [.comp (.var 18) (.nm 18) .seq [.var 2] [.cmp .lt (.ix (.var 18) (.int 1)) (.var 4)] [18]])) 60 (en31 ns a b ls (some (.d (.int key))) w5 w6 none none none none none none none none none none none)
    = .ok .nx (en31 ns a b ls (some (.d (.int key))) w5 w6 (some (.d (.int (plc ls key)))) none none none none none none none none none none) := by
  have most := h.most
  have hc : evE L.T C60 (.comp (.var 18) (.nm 18) .seq [.var 2] [.cmp .lt (.ix (.var 18) (.int 1)) (.var 4)] [18]) 60 (en31 ns a b ls (some (.d (.int key))) w5 w6 none none none none none none none none none none none)
      = .ok (.L (ls.flatMap fun l => if decide (l.key < key) = true then [l.d] else [])) (en31 ns a b ls (some (.d (.int key))) w5 w6 none none none none none none none none none none none) := by
    refine v_comp_enc _ _ _ _ _ _ _ _ _ _ [] ls Ln.d (fun l => if decide (l.key < key) = true then [l.d] else []) (by simp [varS]) rfl rfl (by show _ ≤ 16777216; omega) ?_
    intro l hl
    have i1 := ix1 l
    refine ⟨[W0 ns, Wb a b, some (.d (dS ls)), some (.d (.tup [.int 0, (S0 ls).d])), some (.d (.int key)), w5, w6, none, none, none, some (.d (.int ls.length)), some (.d (dI (nums ls))), none, none, none, none, none, none, some (.d l.d), none], rfl, rfl, ?_⟩
    by_cases c : decide (l.key < key) = true
    · refine Or.inr ⟨?_, l.d, rfl, by rw [if_pos c]⟩
      simp only [v_tcons, v_tnil, v_cmp, v_ix, v_var, v_int, varS, List.getElem?_cons_succ, List.getElem?_cons_zero, R.bind_ok, rs_d, i1, okd_some, cmp_lt_i, okb_some, asT_d, truth_bl, R.opt_some, c, ifB_t]
    · have c' : decide (l.key < key) = false := by simpa using c
      refine Or.inl ⟨?_, by rw [if_neg c]⟩
      simp only [v_tcons, v_tnil, v_cmp, v_ix, v_var, v_int, varS, List.getElem?_cons_succ, List.getElem?_cons_zero, R.bind_ok, rs_d, i1, okd_some, cmp_lt_i, okb_some, asT_d, truth_bl, R.opt_some, c', ifB_f]
  rw [filt] at hc
  simp only [v_set, v_blt, v_lcons, v_lnil, hc, R.bind_ok, List.map_cons, List.map_nil, rs_L, len_L, List.length_map, oko_some, assign_d]
  rfl
end
end K62
end Ev
/-! P62A: the law (2): the papers of a key that is not there. -/
namespace Ev.K62
section
variable (ns : List Int) (a b : Int) (ls : List Ln) (key : Int)
/-- the slots in the block -/
abbrev enB (w12 w13 w14 w15 w16 w18 w19 : Option W) : Ev :=
  en31 ns a b ls (some (.d (.int key))) (some (.d (.bl false))) (some (.d (.tup [.int 0, dP (toldP ls (plc ls key))]))) (some (.d (.int (plc ls key)))) none none w12 w13 w14 w15 w16 none w18 w19
theorem told60' {e : E} {ρ : Ev} {x : D} (n : Nat) (hn : n ≤ 50) (h : evE L.T C60 e 58 ρ = .ok (.d x) ρ) (hr : rdy n x = true) : evE L.T C60 (.ix (.told e) (.int 1)) 60 ρ = .ok (.d x) ρ := by
  simp only [v_ix, told60 n hn h hr, R.bind_ok, v_int, rs_d, index_tup, at_1, List.getElem?_cons_succ, List.getElem?_cons_zero, okd_some]
theorem q1 : evS L.T C60 (.set 12 (.lst [])) 60 (enB ns a b ls key none none none none none none none) = .ok .nx (enB ns a b ls key (some (.L false [])) none none none none none none) := rfl
def bodyD : List S := [.ite (.chain .le .lt (.int 0) (.var 13) (.var 10))
       [.ex (.app 12 (.tup [.ix (.var 2) (.var 13), .var 13, .ix (.told (.call 7 [.var 11, .var 13])) (.int 1)]))]
       []]
theorem q2b (h : Sh ls) (acc : List D) (ha : acc.length ≤ 5) (i : Int) : evB L.T C60 bodyD 60 (enB ns a b ls key (some (.L false acc)) (some (.d (.int i))) none none none none none) = .ok .nx (enB ns a b ls key (some (.L false (acc ++ papD ls (.int i)))) (some (.d (.int i))) none none none none none) := by
  have most := h.most
  by_cases c0 : 0 ≤ i
  · by_cases c1 : i < ls.length
    · obtain ⟨j, rfl⟩ : ∃ j : Nat, i = j := ⟨i.toNat, by omega⟩
      have hj : j < ls.length := by omega
      have ix := ixS ls j hj
      have e7 := s7 (m := 58) (by omega) (nums ls) (by rw [nums_len]; omega) j (by rw [nums_len]; omega)
      have hc : evE L.T C60 (.call 7 [.var 11, .var 13]) 58 (enB ns a b ls key (some (.L false acc)) (some (.d (.int j))) none none none none none) = .ok (.d (dT (prf 7 (nums ls) j))) (enB ns a b ls key (some (.L false acc)) (some (.d (.int j))) none none none none none) := by
        simp only [v_call, v_lcons, v_lnil, v_var, varS, List.getElem?_cons_succ, List.getElem?_cons_zero, R.bind_ok]
        rw [callF_le _ _ (by omega)]
        exact e7 _
      have pk := pp_ok ls h hj
      have ht := told60' 9 (by omega) hc (rdy_dT (n := 8) (by have := pk.1; simp only [pp] at this; omega) fun t ht => (pk.2 t ht).2)
      have hp : papD ls (.int j) = [paper ls j] := by
        unfold papD
        dsimp only
        rw [if_pos ⟨c0, c1⟩, Int.toNat_natCast]
      rw [hp]
      have hcap : acc.length < cap := by show _ < 16777216; omega
      have hpp : paper ls j = .tup [ls[j].d, .int j, dT (prf 7 (nums ls) j)] := by
        simp [paper, hj]
      rw [hpp]
      have he : evE L.T C60 (.tup [.ix (.var 2) (.var 13), .var 13, .ix (.told (.call 7 [.var 11, .var 13])) (.int 1)]) 60 (enB ns a b ls key (some (.L false acc)) (some (.d (.int j))) none none none none none) = .ok (.d (.tup [ls[j].d, .int j, dT (prf 7 (nums ls) j)])) (enB ns a b ls key (some (.L false acc)) (some (.d (.int j))) none none none none none) := by
        have hx : evE L.T C60 (.ix (.var 2) (.var 13)) 60 (enB ns a b ls key (some (.L false acc)) (some (.d (.int j))) none none none none none) = .ok (.d ls[j].d) (enB ns a b ls key (some (.L false acc)) (some (.d (.int j))) none none none none none) := by
          simp only [v_ix, v_var, varS, List.getElem?_cons_succ, List.getElem?_cons_zero, R.bind_ok, rs_d, ix, okd_some]
        simp only [v_tup, v_lcons, v_lnil, hx, ht, v_var, varS, List.getElem?_cons_succ, List.getElem?_cons_zero, R.bind_ok, keeps_d, keeps_nil, Option.map_some, R.opt_some]
      have hch : evE L.T C60 (.chain .le .lt (.int 0) (.var 13) (.var 10)) 60 (enB ns a b ls key (some (.L false acc)) (some (.d (.int j))) none none none none none) = .ok (.d (.bl true)) (enB ns a b ls key (some (.L false acc)) (some (.d (.int j))) none none none none none) := by
        simp [varS, hj]
      have hap : evE L.T C60 (.app 12 (.tup [.ix (.var 2) (.var 13), .var 13, .ix (.told (.call 7 [.var 11, .var 13])) (.int 1)])) 60 (enB ns a b ls key (some (.L false acc)) (some (.d (.int j))) none none none none none) = .ok (.d .non) (enB ns a b ls key (some (.L false (acc ++ [.tup [ls[j].d, .int j, dT (prf 7 (nums ls) j)]]))) (some (.d (.int j))) none none none none none) := by
        rw [v_app, he]
        simp [isL, appS, hcap]
      simp only [bodyD, v_bcons, v_bnil, v_if, hch, asT_d, truth_bl, R.opt_some, ifB_t, v_ex, hap, R.bind_ok]
    · have hp : papD ls (.int i) = [] := by
        unfold papD
        dsimp only
        rw [if_neg (fun c => c1 c.2)]
      rw [hp, List.append_nil]
      have hch : evE L.T C60 (.chain .le .lt (.int 0) (.var 13) (.var 10)) 60 (enB ns a b ls key (some (.L false acc)) (some (.d (.int i))) none none none none none) = .ok (.d (.bl false)) (enB ns a b ls key (some (.L false acc)) (some (.d (.int i))) none none none none none) := by
        simp [varS, c0, c1]
      simp only [bodyD, v_bcons, v_bnil, v_if, hch, asT_d, truth_bl, R.opt_some, ifB_f, R.bind_ok]
  · have hp : papD ls (.int i) = [] := by
      unfold papD
      dsimp only
      rw [if_neg (fun c => c0 c.1)]
    rw [hp, List.append_nil]
    have hch : evE L.T C60 (.chain .le .lt (.int 0) (.var 13) (.var 10)) 60 (enB ns a b ls key (some (.L false acc)) (some (.d (.int i))) none none none none none) = .ok (.d (.bl false)) (enB ns a b ls key (some (.L false acc)) (some (.d (.int i))) none none none none none) := by
      simp [varS, c0]
    simp only [bodyD, v_bcons, v_bnil, v_if, hch, asT_d, truth_bl, R.opt_some, ifB_f, R.bind_ok]
theorem pap_len (i : Int) : (papD ls (.int i)).length ≤ 1 := by
  unfold papD
  dsimp only
  split <;> simp
theorem q2 (h : Sh ls) : evS L.T C60 (.for_ (.nm 13) .seq [.tup [.bin .sub (.var 7) (.int 1), .var 7]] bodyD) 60 (enB ns a b ls key (some (.L false [])) none none none none none none)
    = .ok .nx (enB ns a b ls key (some (.L false ((toldP ls (plc ls key)).map Pp.d))) (some (.d (.int (plc ls key)))) none none none none none) := by
  have e1 := q2b ns a b ls key h [] (by simp) ((plc ls key : Int) - 1)
  have e2 := q2b ns a b ls key h (papD ls (.int ((plc ls key : Int) - 1))) (by have := pap_len ls ((plc ls key : Int) - 1); omega) (plc ls key)
  rw [List.nil_append] at e1
  have ht : (toldP ls (plc ls key)).map Pp.d = papD ls (.int ((plc ls key : Int) - 1)) ++ papD ls (.int (plc ls key)) := by
    rw [← told_P]; rfl
  rw [ht, v_for]
  simp only [v_lcons, v_lnil, v_tup, v_bin, v_var, v_int, varS, List.getElem?_cons_succ, List.getElem?_cons_zero, R.bind_ok, rs_d, bin_sub_i, oko_some, keeps_d, keeps_nil, Option.map_some, R.opt_some, iter_tup, List.all_nil, R.grd_true]
  show (R.bind (evB L.T C60 bodyD 60 (enB ns a b ls key (some (.L false [])) (some (.d (.int ((plc ls key : Int) - 1)))) none none none none none)) _) = _
  rw [e1, R.bind_ok]
  show (R.bind (evB L.T C60 bodyD 60 (enB ns a b ls key (some (.L false (papD ls (.int ((plc ls key : Int) - 1))))) (some (.d (.int (plc ls key)))) none none none none none)) _) = _
  rw [e2]
  rfl
theorem lim_Pp {p : Pp} (ht : ∀ t ∈ p.ts, t.dp ≤ 8) (n : Nat) (hn : 12 ≤ n) : lim p.d n = true := by
  obtain ⟨n, rfl⟩ : ∃ j, n = j + 1 := ⟨n - 1, by omega⟩
  refine lim_tup fun x hx => ?_
  simp only [List.mem_cons, List.not_mem_nil, or_false] at hx
  rcases hx with rfl | rfl | rfl
  · exact lim_Ln _ _ (by omega)
  · exact lim_int _ _
  · obtain ⟨n, rfl⟩ : ∃ j, n = j + 1 := ⟨n - 1, by omega⟩
    refine lim_tup fun x hx => ?_
    obtain ⟨t, h, rfl⟩ := List.mem_map.mp hx
    exact lim_Tm t _ (by have := ht t h; omega)
theorem lim_told (h : Sh ls) (k : Nat) : lim (dP (toldP ls k)) 60 = true := by
  refine lim_tup (n := 59) fun x hx => ?_
  obtain ⟨p, hp, rfl⟩ := List.mem_map.mp hx
  obtain ⟨i, hi, rfl⟩ := mem_told ls rfl p hp
  exact lim_Pp (fun t ht => ((pp_ok ls h hi).2 t ht).2) _ (by omega)
/-- _law_is of a row of papers -/
theorem s29P (h0 : 0 ≤ key) (h9 : key ≤ 900) (n : Nat) (h1 : 1 ≤ n) (h60 : n ≤ 60) (S : Tm) (hS : S.lv.length ≤ 64) (hd : S.dp ≤ 60) (ps : List Pp) (hl : ps.length ≤ 1000) (ok : ∀ p ∈ ps, PpOk p) (ρ : Ev) :
    cf 60 29 [.d (.int key), .d (.int n), .d S.d, .d (dP ps)] ρ = .ok (.d (.tup [.int 0, .bl (isA key n S ps)])) ρ :=
  s29 (by omega) _ _ _ _ _ (fun j hj ρ => s19 (by omega) key n S ps h0 h9 h1 h60 hS hd hl ok ρ) ρ
theorem S0_ok (h : Sh ls) : (S0 ls).lv.length ≤ 64 ∧ (S0 ls).dp ≤ 60 := by
  have most := h.most
  refine ⟨?_, Nat.le_trans (dp_sl _) (by omega)⟩
  rw [lv_S h, nums_len]; omega
theorem told_ok' (h : Sh ls) (k : Nat) : ∀ p ∈ toldP ls k, PpOk p := fun p hp => by
  obtain ⟨i, hi, rfl⟩ := mem_told ls rfl p hp
  exact ok_pp h hi
theorem same_b (x y : Bool) : same (.tup [.int 0, .bl x]) (.tup [.int 0, .bl y]) = some (x == y) := by
  simp [same, limit, lim, limL, eqb, eqbs]
theorem q3 (h : Sh ls) (h0 : 0 ≤ key) (h9 : key ≤ 900) (hn : ∀ l ∈ ls, l.key ≠ key) (w13 : Option W) : evS L.T C60 (.ite (.orL [.cmp .ne (.ix (.var 6) (.int 1)) (.blt .tuple [.var 12]), .cmp .ne (.call 29 [.var 4, .var 10, .ix (.var 3) (.int 1), .ix (.var 6) (.int 1)]) (.tup [.int 0, .bl true])]) [.ret (.bl false)] []) 60
      (enB ns a b ls key (some (.L false ((toldP ls (plc ls key)).map Pp.d))) w13 none none none none none)
    = .ok .nx (enB ns a b ls key (some (.L false ((toldP ls (plc ls key)).map Pp.d))) w13 none none none none none) := by
  have most := h.most
  have e := s29P key h0 h9 ls.length h.one (by omega) (S0 ls) (S0_ok ls h).1 (S0_ok ls h).2 (toldP ls (plc ls key)) (by have := len_told ls (plc ls key); omega) (told_ok' ls h _)
  rw [acc_own h hn] at e
  unfold cf at e
  have sr := same_refl (lim_told ls h (plc ls key))
  have sb := same_b true true
  simp only [v_if, v_or, v_ao2, v_ao1, v_cmp, v_ix, v_int, v_bl, v_var, v_blt, v_tup, v_call, v_lcons, v_lnil, varS, List.getElem?_cons_succ, List.getElem?_cons_zero, R.bind_ok, List.map_cons, List.map_nil, rs, tuple_L, oko_some, index_tup, at_1, okd_some, cmp_ne_d, sr, Option.map_some, Bool.not_true, okb_some, onB_b, Bool.false_eq_true, if_false, e, keeps_d, keeps_nil, R.opt_some, sb, beq_self_eq_true, asT_d, truth_bl, ifB_f, v_bnil]
end
end Ev.K62
/-! P62B: the law (3): changed papers. -/
namespace Ev.K62
theorem sl_hd (x : D) (xs : List D) : slice (.d (.tup (x :: xs))) none (some 1) = some (.d (.tup [x])) := by
  simp [slice, cut, sIx]
theorem sl_tl (x : D) (xs : List D) : slice (.d (.tup (x :: xs))) (some 1) none = some (.d (.tup xs)) := by
  simp [slice, cut, sIx]
section
variable (ns : List Int) (a b : Int) (ls : List Ln) (key : Int) (i : Nat) (rest : List Pp)
/-- the changed parts -/
def ch1 : Pp := ⟨⟨!(pp ls i).l.put, (pp ls i).l.key, 0⟩, i, (pp ls i).ts⟩
def ch2 : Pp := ⟨(pp ls i).l, i + 1, (pp ls i).ts⟩
def ch3 : Pp := ⟨(pp ls i).l, i, (pp ls i).ts ++ [.leaf 0]⟩
def wr1 : List D := [dP [pp ls i, pp ls i], dP [], dP (ch1 ls i :: rest)]
def wr2 : List D := [dP (ch2 ls i :: rest), dP (ch3 ls i :: rest), .int 7, .tup [.int 7], dP rest]
abbrev enC (w12 : Option W) (w13 : Int) (w15 w16 w18 w19 : Option W) : Ev := enB ns a b ls key w12 (some (.d (.int w13))) (some (.d (dP (toldP ls (plc ls key))))) w15 w16 w18 w19
theorem q4 (w12 : Option W) (w13 : Int) : evS L.T C60 (.set 14 (.ix (.var 6) (.int 1))) 60 (enB ns a b ls key w12 (some (.d (.int w13))) none none none none none) = .ok .nx (enC ns a b ls key w12 w13 none none none none) := by
  simp only [v_set, v_ix, v_int, v_var, varS, List.getElem?_cons_succ, List.getElem?_cons_zero, R.bind_ok, rs, index_tup, at_1, okd_some, assign_d]
  rfl
theorem q5 (he : toldP ls (plc ls key) = pp ls i :: rest) (w12 : Option W) (w13 : Int) : evS L.T C60 (.setT [.nm 18, .nm 13, .nm 19] (.ix (.var 14) (.int 0))) 60 (enC ns a b ls key w12 w13 none none none none)
    = .ok .nx (enC ns a b ls key w12 i none none (some (.d (pp ls i).l.d)) (some (.d (dT (pp ls i).ts)))) := by
  have h0 : index (.d (dP (toldP ls (plc ls key)))) (.d (.int 0)) = some (pp ls i).d := by
    rw [he]; simp
  simp only [v_setT, v_ix, v_int, v_var, varS, List.getElem?_cons_succ, List.getElem?_cons_zero, R.bind_ok, rs, h0, okd_some]
  rfl
theorem ch1_d : (ch1 ls i).d = .tup [(if (pp ls i).l.put = true then .tup [.str 6, .int (pp ls i).l.key] else .tup [.str 5, .int (pp ls i).l.key, .int 0]), .int i, dT (pp ls i).ts] := by
  cases hp : (pp ls i).l.put <;> simp [ch1, Pp.d, Ln.d, hp]
theorem q6 (h : Sh ls) (he : toldP ls (plc ls key) = pp ls i :: rest) (hr : rest.length ≤ 2) (w12 : Option W) : evS L.T C60 (.set 15 (.lst [.bin .mul (.sl (.var 14) .abs (.int 1)) (.int 2), .tup [], .bin .add (.tup [.tup [.ite (.cmp .eq (.ix (.var 18) (.int 0)) (.str 5)) (.tup [.str 6, .ix (.var 18) (.int 1)]) (.tup [.str 5, .ix (.var 18) (.int 1), .int 0]), .var 13, .var 19]]) (.sl (.var 14) (.int 1) .abs)])) 60
      (enC ns a b ls key w12 i none none (some (.d (pp ls i).l.d)) (some (.d (dT (pp ls i).ts))))
    = .ok .nx (enC ns a b ls key w12 i (some (.L false (wr1 ls i rest))) none (some (.d (pp ls i).l.d)) (some (.d (dT (pp ls i).ts)))) := by
  have e1 : evE L.T C60 (.bin .mul (.sl (.var 14) .abs (.int 1)) (.int 2)) 60 (enC ns a b ls key w12 i none none (some (.d (pp ls i).l.d)) (some (.d (dT (pp ls i).ts)))) = .ok (.d (dP [pp ls i, pp ls i])) (enC ns a b ls key w12 i none none (some (.d (pp ls i).l.d)) (some (.d (dT (pp ls i).ts)))) := by
    have hs : slice (.d (dP (toldP ls (plc ls key)))) none (some 1) = some (.d (.tup [(pp ls i).d])) := by
      rw [he]; exact sl_hd _ _
    have hm : bin .mul (.d (.tup [(pp ls i).d])) (.d (.int 2)) = some (.d (dP [pp ls i, pp ls i])) := rfl
    simp only [v_bin, v_sl, v_int, v_var, varS, List.getElem?_cons_succ, List.getElem?_cons_zero, R.bind_ok, rs, isAbs, if_true, Bool.false_eq_true, if_false, asI_d, hs, oko_some, hm]
  have e3 : evE L.T C60 (.sl (.var 14) (.int 1) .abs) 60 (enC ns a b ls key w12 i none none (some (.d (pp ls i).l.d)) (some (.d (dT (pp ls i).ts)))) = .ok (.d (dP rest)) (enC ns a b ls key w12 i none none (some (.d (pp ls i).l.d)) (some (.d (dT (pp ls i).ts)))) := by
    have hs : slice (.d (dP (toldP ls (plc ls key)))) (some 1) none = some (.d (dP rest)) := by
      rw [he]; exact sl_tl _ _
    simp only [v_sl, v_int, v_var, varS, List.getElem?_cons_succ, List.getElem?_cons_zero, R.bind_ok, rs, isAbs, if_true, Bool.false_eq_true, if_false, asI_d, hs, oko_some]
  have e2 : evE L.T C60 (.tup [.ite (.cmp .eq (.ix (.var 18) (.int 0)) (.str 5)) (.tup [.str 6, .ix (.var 18) (.int 1)]) (.tup [.str 5, .ix (.var 18) (.int 1), .int 0]), .var 13, .var 19]) 60 (enC ns a b ls key w12 i none none (some (.d (pp ls i).l.d)) (some (.d (dT (pp ls i).ts)))) = .ok (.d (ch1 ls i).d) (enC ns a b ls key w12 i none none (some (.d (pp ls i).l.d)) (some (.d (dT (pp ls i).ts)))) := by
    rw [ch1_d]
    generalize (pp ls i).l = l
    cases hp : l.put <;> simp [varS, Ln.d, hp, ifB_b]
  have ha : bin .add (.d (.tup [(ch1 ls i).d])) (.d (dP rest)) = some (.d (dP (ch1 ls i :: rest))) := add_tup _ _ (by simp; show _ ≤ 16777216; omega)
  have e4 : evE L.T C60 (.bin .add (.tup [.tup [.ite (.cmp .eq (.ix (.var 18) (.int 0)) (.str 5)) (.tup [.str 6, .ix (.var 18) (.int 1)]) (.tup [.str 5, .ix (.var 18) (.int 1), .int 0]), .var 13, .var 19]]) (.sl (.var 14) (.int 1) .abs)) 60 (enC ns a b ls key w12 i none none (some (.d (pp ls i).l.d)) (some (.d (dT (pp ls i).ts)))) = .ok (.d (dP (ch1 ls i :: rest))) (enC ns a b ls key w12 i none none (some (.d (pp ls i).l.d)) (some (.d (dT (pp ls i).ts)))) := by
    rw [v_bin, v_tup, v_lcons, e2]
    simp only [v_lnil, R.bind_ok, keeps_d, keeps_nil, Option.map_some, R.opt_some, e3, rs_d, ha, oko_some]
  rw [v_set, v_lst, v_lcons, e1, R.bind_ok, v_lcons, v_tup, v_lnil, R.bind_ok, keeps_nil, R.opt_some, R.bind_ok, v_lcons, e4]
  rfl
theorem q7 (h : Sh ls) (he : toldP ls (plc ls key) = pp ls i :: rest) (hi : i < ls.length) (hr : rest.length ≤ 2) (w12 : Option W) : evS L.T C60 (.set 15 (.bin .add (.var 15) (.lst [.bin .add (.tup [.tup [.var 18, .bin .add (.var 13) (.int 1), .var 19]]) (.sl (.var 14) (.int 1) .abs), .bin .add (.tup [.tup [.var 18, .var 13, .bin .add (.var 19) (.tup [.tup [.str 3, .int 0]])]]) (.sl (.var 14) (.int 1) .abs), .int 7, .tup [.int 7], .sl (.var 14) (.int 1) .abs]))) 60
      (enC ns a b ls key w12 i (some (.L false (wr1 ls i rest))) none (some (.d (pp ls i).l.d)) (some (.d (dT (pp ls i).ts))))
    = .ok .nx (enC ns a b ls key w12 i (some (.L false (wr1 ls i rest ++ wr2 ls i rest))) none (some (.d (pp ls i).l.d)) (some (.d (dT (pp ls i).ts)))) := by
  have hl := (pp_ok ls h hi).1
  have e3 : evE L.T C60 (.sl (.var 14) (.int 1) .abs) 60 (enC ns a b ls key w12 i (some (.L false (wr1 ls i rest))) none (some (.d (pp ls i).l.d)) (some (.d (dT (pp ls i).ts)))) = .ok (.d (dP rest)) (enC ns a b ls key w12 i (some (.L false (wr1 ls i rest))) none (some (.d (pp ls i).l.d)) (some (.d (dT (pp ls i).ts)))) := by
    have hs : slice (.d (dP (toldP ls (plc ls key)))) (some 1) none = some (.d (dP rest)) := by
      rw [he]; exact sl_tl _ _
    simp only [v_sl, v_int, v_var, varS, List.getElem?_cons_succ, List.getElem?_cons_zero, R.bind_ok, rs, isAbs, if_true, Bool.false_eq_true, if_false, asI_d, hs, oko_some]
  have e1 : evE L.T C60 (.tup [.tup [.var 18, .bin .add (.var 13) (.int 1), .var 19]]) 60 (enC ns a b ls key w12 i (some (.L false (wr1 ls i rest))) none (some (.d (pp ls i).l.d)) (some (.d (dT (pp ls i).ts)))) = .ok (.d (.tup [(ch2 ls i).d])) (enC ns a b ls key w12 i (some (.L false (wr1 ls i rest))) none (some (.d (pp ls i).l.d)) (some (.d (dT (pp ls i).ts)))) := by
    simp only [v_tup, v_lcons, v_lnil, v_bin, v_var, v_int, varS, List.getElem?_cons_succ, List.getElem?_cons_zero, R.bind_ok, rs_d, bin_add_i, oko_some, keeps_d, keeps_nil, Option.map_some, R.opt_some]
    rfl
  have hd : bin .add (.d (dT (pp ls i).ts)) (.d (.tup [.tup [.str 3, .int 0]])) = some (.d (dT ((pp ls i).ts ++ [.leaf 0]))) := by
    rw [add_tup _ _ (by simp; show _ ≤ 16777216; omega)]
    simp [Tm.d]
  have e2 : evE L.T C60 (.tup [.tup [.var 18, .var 13, .bin .add (.var 19) (.tup [.tup [.str 3, .int 0]])]]) 60 (enC ns a b ls key w12 i (some (.L false (wr1 ls i rest))) none (some (.d (pp ls i).l.d)) (some (.d (dT (pp ls i).ts)))) = .ok (.d (.tup [(ch3 ls i).d])) (enC ns a b ls key w12 i (some (.L false (wr1 ls i rest))) none (some (.d (pp ls i).l.d)) (some (.d (dT (pp ls i).ts)))) := by
    simp only [v_tup, v_lcons, v_lnil, v_bin, v_var, v_int, v_str, varS, List.getElem?_cons_succ, List.getElem?_cons_zero, R.bind_ok, rs_d, hd, oko_some, keeps_d, keeps_nil, Option.map_some, R.opt_some]
    rfl
  have a1 : bin .add (.d (.tup [(ch2 ls i).d])) (.d (dP rest)) = some (.d (dP (ch2 ls i :: rest))) := add_tup _ _ (by simp; show _ ≤ 16777216; omega)
  have a2 : bin .add (.d (.tup [(ch3 ls i).d])) (.d (dP rest)) = some (.d (dP (ch3 ls i :: rest))) := add_tup _ _ (by simp; show _ ≤ 16777216; omega)
  have eL : evE L.T C60 (.lst [.bin .add (.tup [.tup [.var 18, .bin .add (.var 13) (.int 1), .var 19]]) (.sl (.var 14) (.int 1) .abs), .bin .add (.tup [.tup [.var 18, .var 13, .bin .add (.var 19) (.tup [.tup [.str 3, .int 0]])]]) (.sl (.var 14) (.int 1) .abs), .int 7, .tup [.int 7], .sl (.var 14) (.int 1) .abs]) 60
      (enC ns a b ls key w12 i (some (.L false (wr1 ls i rest))) none (some (.d (pp ls i).l.d)) (some (.d (dT (pp ls i).ts)))) = .ok (.L (wr2 ls i rest)) (enC ns a b ls key w12 i (some (.L false (wr1 ls i rest))) none (some (.d (pp ls i).l.d)) (some (.d (dT (pp ls i).ts)))) := by
    rw [v_lst, v_lcons, v_bin, e1, R.bind_ok, e3, R.bind_ok, rs_d, rs_d, a1, oko_some, R.bind_ok, v_lcons, v_bin, e2, R.bind_ok, e3, R.bind_ok, rs_d, rs_d, a2, oko_some, R.bind_ok, v_lcons, v_int, R.bind_ok, v_lcons, v_tup, v_lcons, v_int, R.bind_ok, v_lnil]
    simp only [R.bind_ok, keeps_d, keeps_nil, Option.map_some, R.opt_some, v_lcons, v_lnil, e3]
    rfl
  have hv : evE L.T C60 (.var 15) 60 (enC ns a b ls key w12 i (some (.L false (wr1 ls i rest))) none (some (.d (pp ls i).l.d)) (some (.d (dT (pp ls i).ts)))) = .ok (.bor 15) (enC ns a b ls key w12 i (some (.L false (wr1 ls i rest))) none (some (.d (pp ls i).l.d)) (some (.d (dT (pp ls i).ts)))) := rfl
  rw [v_set, v_bin, hv, R.bind_ok, eL]
  rfl
end
end Ev.K62
/-! P62C: the law (4): no changed paper is accepted. -/
namespace Ev.K62
/-- _law_is of what is no row of papers -/
theorem s29_7 (key : Int) (h0 : 0 ≤ key) (h9 : key ≤ 900) (n : Nat) (h1 : 1 ≤ n) (h60 : n ≤ 60) (S : Tm) (ρ : Ev) : cf 60 29 [.d (.int key), .d (.int n), .d S.d, .d (.int 7)] ρ = .ok (.d (.tup [.int 0, .bl false])) ρ :=
  s29 (by omega) _ _ _ _ _ (fun j hj ρ => s19_7 (by omega) key n S h0 h9 h1 h60 ρ) ρ
theorem s29_77 (key : Int) (h0 : 0 ≤ key) (h9 : key ≤ 900) (n : Nat) (h1 : 1 ≤ n) (h60 : n ≤ 60) (S : Tm) (ρ : Ev) : cf 60 29 [.d (.int key), .d (.int n), .d S.d, .d (.tup [.int 7])] ρ = .ok (.d (.tup [.int 0, .bl false])) ρ :=
  s29 (by omega) _ _ _ _ _ (fun j hj ρ => s19_77 (by omega) key n S h0 h9 h1 h60 ρ) ρ
section
variable (ns : List Int) (a b : Int) (ls : List Ln) (key : Int) (i : Nat) (rest : List Pp)
theorem ch1_ok (h : Sh ls) (hi : i < ls.length) : PpOk (ch1 ls i) := by
  have o := ok_pp h hi
  exact ⟨⟨o.l.1, o.l.2.1, by simp [ch1], by simp [ch1]⟩, o.len, o.ts⟩
theorem ch2_ok (h : Sh ls) (hi : i < ls.length) : PpOk (ch2 ls i) := by
  have o := ok_pp h hi
  exact ⟨o.l, o.len, o.ts⟩
theorem ch3_ok (h : Sh ls) (hi : i < ls.length) : PpOk (ch3 ls i) := by
  have o := ok_pp h hi
  have k := (pp_ok ls h hi).1
  refine ⟨o.l, ?_, fun t ht => ?_⟩
  · simp [ch3]; omega
  · rcases List.mem_append.mp ht with ht | ht
    · exact o.ts t ht
    · rw [List.mem_singleton.mp ht]
      simp [Tm.lv, Tm.dp]
theorem wrong_all (h : Sh ls) (h0 : 0 ≤ key) (h9 : key ≤ 900) (hn : ∀ l ∈ ls, l.key ≠ key) (he : toldP ls (plc ls key) = pp ls i :: rest) (hi : i < ls.length)
    (hq : ∀ q : Pp, q.l.key = (pp ls i).l.key → (q.at_ ≠ i ∨ shn q.l.num i ls.length q.ts (sl (nums ls)) = false) → isA key ls.length (sl (nums ls)) (q :: rest) = false) (hr : isA key ls.length (sl (nums ls)) rest = false) :
    ∀ x ∈ wr1 ls i rest ++ wr2 ls i rest, ∀ ρ, cf 60 29 [.d (.int key), .d (.int ls.length), .d (S0 ls).d, .d x] ρ = .ok (.d (.tup [.int 0, .bl false])) ρ := by
  have most := h.most
  have one := h.one
  have rl : rest.length ≤ 2 := by
    have := len_told ls (plc ls key)
    rw [he] at this
    simp at this; omega
  have rok : ∀ p ∈ rest, PpOk p := fun p hp => told_ok' ls h (plc ls key) p (by rw [he]; exact List.mem_cons_of_mem _ hp)
  have oki := ok_pp h hi
  have go : ∀ ps : List Pp, ps.length ≤ 1000 → (∀ p ∈ ps, PpOk p) → isA key ls.length (S0 ls) ps = false → ∀ ρ, cf 60 29 [.d (.int key), .d (.int ls.length), .d (S0 ls).d, .d (dP ps)] ρ = .ok (.d (.tup [.int 0, .bl false])) ρ := by
    intro ps hl ok hf ρ
    rw [s29P key h0 h9 ls.length one (by omega) (S0 ls) (S0_ok ls h).1 (S0_ok ls h).2 ps hl ok ρ, hf]
  have cons_ok : ∀ q : Pp, PpOk q → ∀ p ∈ q :: rest, PpOk p := by
    intro q hq p hp
    rcases List.mem_cons.mp hp with rfl | hp
    · exact hq
    · exact rok p hp
  have cons_l : ∀ q : Pp, (q :: rest).length ≤ 1000 := fun q => by simp; omega
  intro x hx
  simp only [wr1, wr2, List.cons_append, List.nil_append, List.mem_cons, List.not_mem_nil, or_false] at hx
  rcases hx with rfl | rfl | rfl | rfl | rfl | rfl | rfl | rfl
  · exact go _ (by simp) (fun p hp => by
      simp at hp
      rw [hp]; exact oki) (isA_dup _ _ _)
  · exact go [] (by simp) (by simp) (isA_nil _ _ _)
  · refine go _ (cons_l _) (cons_ok _ (ch1_ok ls i h hi)) (hq _ rfl (Or.inr ?_))
    refine shn_ne h hi ?_
    show Ln.num ⟨!(pp ls i).l.put, (pp ls i).l.key, 0⟩ ≠ (pp ls i).l.num
    have := oki.l.2.2.1
    unfold Ln.num
    cases hp : (pp ls i).l.put <;> simp <;> omega
  · refine go _ (cons_l _) (cons_ok _ (ch2_ok ls i h hi)) (hq _ rfl (Or.inl ?_))
    show (i : Int) + 1 ≠ i
    omega
  · exact go _ (cons_l _) (cons_ok _ (ch3_ok ls i h hi)) (hq _ rfl (Or.inr (shn_more h hi _ _ _)))
  · exact s29_7 key h0 h9 _ one (by omega) _
  · exact s29_77 key h0 h9 _ one (by omega) _
  · exact go _ (by omega) rok hr
theorem q8 (h : Sh ls) (w12 w18 w19 : Option W) (xs : List D) (hx : ∀ x ∈ xs, ∀ ρ, cf 60 29 [.d (.int key), .d (.int ls.length), .d (S0 ls).d, .d x] ρ = .ok (.d (.tup [.int 0, .bl false])) ρ) :
    ∃ w16, evS L.T C60 (.for_ (.nm 16) .seq [.var 15] [.ite (.cmp .ne (.call 29 [.var 4, .var 10, .ix (.var 3) (.int 1), .var 16]) (.tup [.int 0, .bl false])) [.ret (.bl false)] []]) 60 (enC ns a b ls key w12 i (some (.L false xs)) none w18 w19)
      = .ok .nx (enC ns a b ls key w12 i (some (.L false xs)) w16 w18 w19) := by
  have hi : iterF .seq (evL L.T C60 [.var 15] 60 (enC ns a b ls key w12 i (some (.L false xs)) none w18 w19)) = .ok (xs, [15]) (enC ns a b ls key w12 i (some (.L false xs)) none w18 w19) := by
    simp only [v_lcons, v_lnil, v_var, varS, List.getElem?_cons_succ, List.getElem?_cons_zero, R.bind_ok, iterF, List.map_cons, List.map_nil, rs, walk, items, R.opt_some, walked_bor, walked_nil]
  obtain ⟨ρ', e, w16, _, rfl⟩ := forL_keep [15] (enC ns a b ls key w12 i (some (.L false xs)) none w18 w19) (.nm 16) (evB L.T C60 [.ite (.cmp .ne (.call 29 [.var 4, .var 10, .ix (.var 3) (.int 1), .var 16]) (.tup [.int 0, .bl false])) [.ret (.bl false)] []] 60)
    (fun ρ => ∃ w16 : Option W, (w16 = none ∨ ∃ y, w16 = some (.d y)) ∧ ρ = enC ns a b ls key w12 i (some (.L false xs)) w16 w18 w19)
    (by rintro ρ ⟨w, _, rfl⟩; simp [stands, beqs_refl]) xs (enC ns a b ls key w12 i (some (.L false xs)) none w18 w19) ⟨none, Or.inl rfl, rfl⟩
    (by
      rintro x hxm ρ ⟨w, hw, rfl⟩
      refine ⟨enC ns a b ls key w12 i (some (.L false xs)) (some (.d x)) w18 w19, enC ns a b ls key w12 i (some (.L false xs)) (some (.d x)) w18 w19, ?_, ?_, some (.d x), Or.inr ⟨x, rfl⟩, rfl⟩
      · rcases hw with rfl | ⟨y, rfl⟩ <;> rfl
      · have e := hx x hxm
        unfold cf at e
        have sb := same_b false false
        simp only [v_bcons, v_bnil, v_if, v_cmp, v_call, v_lcons, v_lnil, v_ix, v_int, v_bl, v_tup, v_var, varS, List.getElem?_cons_succ, List.getElem?_cons_zero, R.bind_ok, rs_d, index_tup, at_1, okd_some, e, keeps_d, keeps_nil, Option.map_some, R.opt_some, cmp_ne_d, sb, beq_self_eq_true, Bool.not_true, okb_some, asT_d, truth_bl, ifB_f])
  refine ⟨w16, ?_⟩
  rw [v_for, hi]
  exact e
theorem q9 (h : Sh ls) (h0 : 0 ≤ key) (h9 : key ≤ 900) (hn : ∀ l ∈ ls, l.key ≠ key) (w12 : Option W) (w13 : Int) (w15 w16 w18 w19 : Option W) :
    evS L.T C60 (.ite (.orL [.andL [.cmp .lt (.var 10) (.int 60), .cmp .ne (.call 29 [.var 4, .bin .add (.var 10) (.int 1), .ix (.var 3) (.int 1), .var 14]) (.tup [.int 0, .bl false])], .cmp .ne (.call 29 [.var 4, .var 10, .tup [.str 3, .int 5], .var 14]) (.tup [.int 0, .andL [.cmp .eq (.var 10) (.int 1), .cmp .eq (.var 11) (.tup [.int 5])]])]) [.ret (.bl false)] []) 60 (enC ns a b ls key w12 w13 w15 w16 w18 w19)
      = .ok .nx (enC ns a b ls key w12 w13 w15 w16 w18 w19) := by
  have most := h.most
  have one := h.one
  have e1 := s29P key h0 h9 (ls.length + 1) (by omega) (by omega) (S0 ls) (S0_ok ls h).1 (S0_ok ls h).2 (toldP ls (plc ls key)) (by have := len_told ls (plc ls key); omega) (told_ok' ls h _)
  rw [acc_n1 h hn] at e1
  have e2 := s29P key h0 h9 ls.length (by omega) (by omega) (.leaf 5) (by simp [Tm.lv]) (by simp [Tm.dp]) (toldP ls (plc ls key)) (by have := len_told ls (plc ls key); omega) (told_ok' ls h _)
  rw [acc_five h hn] at e2
  unfold cf at e1 e2
  rw [show ((ls.length + 1 : Nat) : Int) = (ls.length : Int) + 1 by omega] at e1
  have l60 : (ls.length : Int) < 60 := by omega
  have sb := same_b false false
  have sb2 := same_b (decide (ls.length = 1) && decide (nums ls = [5])) (decide (ls.length = 1) && decide (nums ls = [5]))
  have sn := same_dI (nums ls) [5]
  have hb : ((ls.length : Int) == 1) = decide (ls.length = 1) := by
    by_cases c : ls.length = 1
    · simp [c]
    · have : ¬ ((ls.length : Int) = 1) := by omega
      simp [c, this]
  have e3 : evE L.T C60 (.andL [.cmp .eq (.var 10) (.int 1), .cmp .eq (.var 11) (.tup [.int 5])]) 60 (enC ns a b ls key w12 w13 w15 w16 w18 w19) = .ok (.d (.bl (decide (ls.length = 1) && decide (nums ls = [5])))) (enC ns a b ls key w12 w13 w15 w16 w18 w19) := by
    have sn' : same (dI (nums ls)) (.tup [.int 5]) = some (decide (nums ls = [5])) := sn
    simp only [v_and, v_ao2, v_ao1, v_cmp, v_var, v_int, v_tup, v_lcons, v_lnil, varS, List.getElem?_cons_succ, List.getElem?_cons_zero, R.bind_ok, rs_d, cmp_eq_d, same_ii, hb, okb_some, onB_b, keeps_d, keeps_nil, Option.map_some, R.opt_some, sn']
    cases decide (ls.length = 1) <;> simp
  have e4 : evE L.T C60 (.tup [.int 0, .andL [.cmp .eq (.var 10) (.int 1), .cmp .eq (.var 11) (.tup [.int 5])]]) 60 (enC ns a b ls key w12 w13 w15 w16 w18 w19) = .ok (.d (.tup [.int 0, .bl (decide (ls.length = 1) && decide (nums ls = [5]))])) (enC ns a b ls key w12 w13 w15 w16 w18 w19) := by
    simp only [v_tup, v_lcons, v_lnil, v_int, e3, R.bind_ok, keeps_d, keeps_nil, Option.map_some, R.opt_some]
  have e2' : ∀ ρ, callF C60 60 29 [.d (.int key), .d (.int ls.length), .d (.tup [.str 3, .int 5]), .d (dP (toldP ls (plc ls key)))] ρ = .ok (.d (.tup [.int 0, .bl (decide (ls.length = 1) && decide (nums ls = [5]))])) ρ := e2
  have f1 : evE L.T C60 (.andL [.cmp .lt (.var 10) (.int 60), .cmp .ne (.call 29 [.var 4, .bin .add (.var 10) (.int 1), .ix (.var 3) (.int 1), .var 14]) (.tup [.int 0, .bl false])]) 60 (enC ns a b ls key w12 w13 w15 w16 w18 w19) = .ok (.d (.bl false)) (enC ns a b ls key w12 w13 w15 w16 w18 w19) := by
    simp only [v_and, v_ao2, v_ao1, v_cmp, v_var, v_int, v_bl, v_bin, v_ix, v_tup, v_call, v_lcons, v_lnil, varS, List.getElem?_cons_succ, List.getElem?_cons_zero, R.bind_ok, rs_d, cmp_lt_i, l60, decide_true, okb_some, onB_b, bin_add_i, oko_some, index_tup, at_1, okd_some, e1, cmp_ne_d, keeps_d, keeps_nil, Option.map_some, R.opt_some, sb, beq_self_eq_true, Bool.not_true]
    rfl
  have f2 : evE L.T C60 (.cmp .ne (.call 29 [.var 4, .var 10, .tup [.str 3, .int 5], .var 14]) (.tup [.int 0, .andL [.cmp .eq (.var 10) (.int 1), .cmp .eq (.var 11) (.tup [.int 5])]])) 60 (enC ns a b ls key w12 w13 w15 w16 w18 w19) = .ok (.d (.bl false)) (enC ns a b ls key w12 w13 w15 w16 w18 w19) := by
    rw [v_cmp]
    have g : evE L.T C60 (.call 29 [.var 4, .var 10, .tup [.str 3, .int 5], .var 14]) 60 (enC ns a b ls key w12 w13 w15 w16 w18 w19) = .ok (.d (.tup [.int 0, .bl (decide (ls.length = 1) && decide (nums ls = [5]))])) (enC ns a b ls key w12 w13 w15 w16 w18 w19) := by
      simp only [v_call, v_lcons, v_lnil, v_var, v_str, v_int, v_tup, varS, List.getElem?_cons_succ, List.getElem?_cons_zero, R.bind_ok, keeps_d, keeps_nil, Option.map_some, R.opt_some, e2']
    rw [g, R.bind_ok, e4, R.bind_ok, rs_d, cmp_ne_d, sb2]
    simp
  rw [v_if, v_or, v_ao2, f1, onB_b]
  simp only [Bool.false_eq_true, if_false, v_ao1, f2, asT_d, truth_bl, R.opt_some, ifB_f, v_bnil]
end
end Ev.K62
/-! P62D: the law (5): its end. -/
namespace Ev.K62
section
variable (ns : List Int) (a b : Int) (ls : List Ln) (key : Int)
def blockS : List S := [.set 12 (.lst []),
    .for_ (.nm 13) .seq [.tup [.bin .sub (.var 7) (.int 1), .var 7]] bodyD,
    .ite (.orL [.cmp .ne (.ix (.var 6) (.int 1)) (.blt .tuple [.var 12]), .cmp .ne (.call 29 [.var 4, .var 10, .ix (.var 3) (.int 1), .ix (.var 6) (.int 1)]) (.tup [.int 0, .bl true])])
     [.ret (.bl false)]
     [],
    .set 14 (.ix (.var 6) (.int 1)),
    .setT [.nm 18, .nm 13, .nm 19] (.ix (.var 14) (.int 0)),
    .set 15 (.lst [.bin .mul (.sl (.var 14) .abs (.int 1)) (.int 2), .tup [], .bin .add (.tup [.tup [.ite (.cmp .eq (.ix (.var 18) (.int 0)) (.str 5)) (.tup [.str 6, .ix (.var 18) (.int 1)]) (.tup [.str 5, .ix (.var 18) (.int 1), .int 0]), .var 13, .var 19]]) (.sl (.var 14) (.int 1) .abs)]),
    .set 15 (.bin .add (.var 15) (.lst [.bin .add (.tup [.tup [.var 18, .bin .add (.var 13) (.int 1), .var 19]]) (.sl (.var 14) (.int 1) .abs), .bin .add (.tup [.tup [.var 18, .var 13, .bin .add (.var 19) (.tup [.tup [.str 3, .int 0]])]]) (.sl (.var 14) (.int 1) .abs), .int 7, .tup [.int 7], .sl (.var 14) (.int 1) .abs])),
    .for_ (.nm 16) .seq [.var 15]
     [.ite (.cmp .ne (.call 29 [.var 4, .var 10, .ix (.var 3) (.int 1), .var 16]) (.tup [.int 0, .bl false]))
       [.ret (.bl false)]
       []],
    .ite (.orL [.andL [.cmp .lt (.var 10) (.int 60), .cmp .ne (.call 29 [.var 4, .bin .add (.var 10) (.int 1), .ix (.var 3) (.int 1), .var 14]) (.tup [.int 0, .bl false])], .cmp .ne (.call 29 [.var 4, .var 10, .tup [.str 3, .int 5], .var 14]) (.tup [.int 0, .andL [.cmp .eq (.var 10) (.int 1), .cmp .eq (.var 11) (.tup [.int 5])]])])
     [.ret (.bl false)]
     []]
theorem ab_not (hn : ∀ l ∈ ls, l.key ≠ key) : ther ls key = false ∧ ab ls key = dP (toldP ls (plc ls key)) := by
  have t : ther ls key = false := by
    unfold ther
    rw [List.any_eq_false]
    intro l hl
    simpa using hn l hl
  refine ⟨t, ?_⟩
  unfold ab
  rw [t, told_P]
  rfl
theorem block (h : Sh ls) (h0 : 0 ≤ key) (h9 : key ≤ 900) (hn : ∀ l ∈ ls, l.key ≠ key) :
    ∃ w12 w13 w14 w15 w16 w18 w19, evB L.T C60 blockS 60 (en31 ns a b ls (some (.d (.int key))) (some (.d (.bl (ther ls key)))) (some (.d (.tup [.int 0, ab ls key]))) (some (.d (.int (plc ls key)))) none none none none none none none none none none)
      = .ok .nx (en31 ns a b ls (some (.d (.int key))) (some (.d (.bl (ther ls key)))) (some (.d (.tup [.int 0, ab ls key]))) (some (.d (.int (plc ls key)))) none none w12 (some (.d w13)) w14 w15 w16 none w18 w19) := by
  obtain ⟨t, e⟩ := ab_not ls key hn
  obtain ⟨i, rest, he, hi, hq, hr⟩ := acc_1 h hn
  have rl : rest.length ≤ 2 := by
    have := len_told ls (plc ls key)
    rw [he] at this
    simp at this; omega
  rw [t, e]
  obtain ⟨w16, e8⟩ := q8 ns a b ls key i h (some (.L false ((toldP ls (plc ls key)).map Pp.d))) (some (.d (pp ls i).l.d)) (some (.d (dT (pp ls i).ts))) (wr1 ls i rest ++ wr2 ls i rest) (wrong_all ls key i rest h h0 h9 hn he hi hq hr)
  refine ⟨some (.L false ((toldP ls (plc ls key)).map Pp.d)), .int i, some (.d (dP (toldP ls (plc ls key)))), some (.L false (wr1 ls i rest ++ wr2 ls i rest)), w16, some (.d (pp ls i).l.d), some (.d (dT (pp ls i).ts)), ?_⟩
  unfold blockS
  rw [evB_nx (q1 ns a b ls key), evB_nx (q2 ns a b ls key h), evB_nx (q3 ns a b ls key h h0 h9 hn _), evB_nx (q4 ns a b ls key _ _), evB_nx (q5 ns a b ls key i rest he _ _), evB_nx (q6 ns a b ls key i rest h he rl _), evB_nx (q7 ns a b ls key i rest h he hi rl _), evB_nx e8, evB_nx (q9 ns a b ls key h h0 h9 hn _ _ _ _ _ _), v_bnil]
theorem p11 (h : Sh ls) (h0 : 0 ≤ key) (h9 : key ≤ 900) :
    ∃ w12 w13 w14 w15 w16 w18 w19, (w13 = none ∨ ∃ y, w13 = some (.d y)) ∧ evS L.T C60 (.ite (.not_ (.var 5)) blockS []) 60 (en31 ns a b ls (some (.d (.int key))) (some (.d (.bl (ther ls key)))) (some (.d (.tup [.int 0, ab ls key]))) (some (.d (.int (plc ls key)))) none none none none none none none none none none)
      = .ok .nx (en31 ns a b ls (some (.d (.int key))) (some (.d (.bl (ther ls key)))) (some (.d (.tup [.int 0, ab ls key]))) (some (.d (.int (plc ls key)))) none none w12 w13 w14 w15 w16 none w18 w19) := by
  by_cases c : ther ls key = true
  · refine ⟨none, none, none, none, none, none, none, Or.inl rfl, ?_⟩
    simp only [v_if, v_not, v_var, varS, List.getElem?_cons_succ, List.getElem?_cons_zero, asT_d, truth_bl, R.opt_some, R.bind_ok, c, Bool.not_true, ifB_f, v_bnil]
  · have c' : ther ls key = false := by simpa using c
    have hn : ∀ l ∈ ls, l.key ≠ key := by
      intro l hl e
      unfold ther at c'
      rw [List.any_eq_false] at c'
      exact c' l hl (by simp [e])
    obtain ⟨w12, w13, w14, w15, w16, w18, w19, e⟩ := block ns a b ls key h h0 h9 hn
    refine ⟨w12, some (.d w13), w14, w15, w16, w18, w19, Or.inr ⟨_, rfl⟩, ?_⟩
    rw [← e, v_if]
    simp only [v_not, v_var, varS, List.getElem?_cons_succ, List.getElem?_cons_zero, asT_d, truth_bl, R.opt_some, R.bind_ok, c', Bool.not_false, ifB_t]
theorem p12 (h : Sh ls) (ha : 0 ≤ a) (hb : 0 ≤ b) (w4 w5 w6 w7 w12 w13 w14 w15 w16 w18 w19 : Option W) :
    ∃ (a' b' : Int) (q : Nat) (hq : q < ls.length), 0 ≤ a' ∧ 0 ≤ b' ∧ evS L.T C60 (.set 8 (.ix (.ix (.var 2) (.call 24 [.var 1, .var 10])) (.int 1))) 60 (en31 ns a b ls w4 w5 w6 w7 none none w12 w13 w14 w15 w16 none w18 w19)
      = .ok .nx (en31 ns a' b' ls w4 w5 w6 w7 (some (.d (.int ls[q].key))) none w12 w13 w14 w15 w16 none w18 w19) := by
  have most := h.most
  have one := h.one
  obtain ⟨a', b', r, ha', hb', h0, h1, e⟩ := s24 (m := 60) (by omega) a b ls.length ha hb (by omega) (by omega) 1 false (en31 ns a b ls w4 w5 w6 w7 none none w12 w13 w14 w15 w16 none w18 w19) rfl
  obtain ⟨q, rfl⟩ : ∃ q : Nat, r = q := ⟨r.toNat, by omega⟩
  have hq : q < ls.length := by omega
  refine ⟨a', b', q, hq, ha', hb', ?_⟩
  unfold cf at e
  have ix := ixS ls q hq
  have i1 := ix1 ls[q]
  simp only [v_set, v_ix, v_call, v_lcons, v_lnil, v_var, v_int, varS, List.getElem?_cons_succ, List.getElem?_cons_zero, R.bind_ok, e, rs_d, ix, okd_some, i1, assign_d]
  rfl
def bodyE : List S := [.set 17 (.blt .tuple [.comp (.tup [.ix (.var 2) (.var 13), .var 13, .call 30 [.var 11, .var 13]]) (.nm 13) .seq [.tup [.bin .sub (.var 9) (.int 1), .var 9]] [.chain .le .lt (.int 0) (.var 13) (.var 10)] [13]]),
    .ite (.cmp .ne (.call 29 [.var 8, .var 10, .ix (.var 3) (.int 1), .var 17]) (.tup [.int 0, .bl false]))
     [.ret (.bl false)]
     []]
theorem p13b (h : Sh ls) {q : Nat} (hq : q < ls.length) (w4 w5 w6 w7 w12 w13 w14 w15 w16 w17 w18 w19 : Option W) (h17 : w17 = none ∨ ∃ y, w17 = some (.d y)) (k : Nat) (hk : k ≤ ls.length) :
    evB L.T C60 bodyE 60 (en31 ns a b ls w4 w5 w6 w7 (some (.d (.int ls[q].key))) (some (.d (.int k))) w12 w13 w14 w15 w16 w17 w18 w19)
      = .ok .nx (en31 ns a b ls w4 w5 w6 w7 (some (.d (.int ls[q].key))) (some (.d (.int k))) w12 w13 w14 w15 w16 (some (.d (dP (toldP ls k)))) w18 w19) := by
  have most := h.most
  have one := h.one
  have hc : evE L.T C60 (.comp (.tup [.ix (.var 2) (.var 13), .var 13, .call 30 [.var 11, .var 13]]) (.nm 13) .seq [.tup [.bin .sub (.var 9) (.int 1), .var 9]] [.chain .le .lt (.int 0) (.var 13) (.var 10)] [13]) 60 (en31 ns a b ls w4 w5 w6 w7 (some (.d (.int ls[q].key))) (some (.d (.int k))) w12 w13 w14 w15 w16 w17 w18 w19)
      = .ok (.L ([(k : Int) - 1, (k : Int)].flatMap fun i => papD ls (.int i))) (en31 ns a b ls w4 w5 w6 w7 (some (.d (.int ls[q].key))) (some (.d (.int k))) w12 w13 w14 w15 w16 w17 w18 w19) := by
    refine v_comp_enc _ _ _ _ _ _ _ _ _ _ [] [(k : Int) - 1, (k : Int)] D.int (fun i => papD ls (.int i)) ?_ rfl rfl (by show 2 ≤ 16777216; omega) ?_
    · simp only [v_lcons, v_lnil, v_tup, v_bin, v_var, v_int, varS, List.getElem?_cons_succ, List.getElem?_cons_zero, R.bind_ok, rs_d, bin_sub_i, oko_some, keeps_d, keeps_nil, Option.map_some, R.opt_some, iter_tup]
      rfl
    · intro i hi
      refine ⟨en31 ns a b ls w4 w5 w6 w7 (some (.d (.int ls[q].key))) (some (.d (.int k))) w12 (some (.d (.int i))) w14 w15 w16 w17 w18 w19, rfl, rfl, ?_⟩
      by_cases c0 : 0 ≤ i
      · by_cases c1 : i < ls.length
        · obtain ⟨j, rfl⟩ : ∃ j : Nat, i = j := ⟨i.toNat, by omega⟩
          have hj : j < ls.length := by omega
          have ix := ixS ls j hj
          have e30 := s30 (m := 60) (by omega) (nums ls) (by rw [nums_len]; omega) j (by rw [nums_len]; omega)
          unfold cf at e30
          have hp : papD ls (.int j) = [paper ls j] := by
            unfold papD
            dsimp only
            rw [if_pos ⟨c0, c1⟩, Int.toNat_natCast]
          have hpp : paper ls j = .tup [ls[j].d, .int j, dT (prf 7 (nums ls) j)] := by
            simp [paper, hj]
          refine Or.inr ⟨?_, paper ls j, ?_, hp⟩
          · simp [varS, hj]
          · rw [hpp]
            simp only [v_tup, v_lcons, v_lnil, v_ix, v_var, v_call, varS, List.getElem?_cons_succ, List.getElem?_cons_zero, R.bind_ok, rs_d, ix, okd_some, e30, keeps_d, keeps_nil, Option.map_some, R.opt_some]
        · refine Or.inl ⟨by simp [varS, c0, c1], ?_⟩
          unfold papD
          dsimp only
          rw [if_neg (fun c => c1 c.2)]
      · refine Or.inl ⟨by simp [varS, c0], ?_⟩
        unfold papD
        dsimp only
        rw [if_neg (fun c => c0 c.1)]
  have hp : ([(k : Int) - 1, (k : Int)].flatMap fun i => papD ls (.int i)) = (toldP ls k).map Pp.d := by
    rw [← told_P]
    simp [told]
  rw [hp] at hc
  have hok := h.ok ls[q] (List.getElem_mem hq)
  have e := s29P ls[q].key hok.1 hok.2.1 ls.length one (by omega) (S0 ls) (S0_ok ls h).1 (S0_ok ls h).2 (toldP ls k) (by have := len_told ls k; omega) (told_ok' ls h _)
  rw [acc_there h hq hk] at e
  unfold cf at e
  have sb := same_b false false
  have s1 : evS L.T C60 (.set 17 (.blt .tuple [.comp (.tup [.ix (.var 2) (.var 13), .var 13, .call 30 [.var 11, .var 13]]) (.nm 13) .seq [.tup [.bin .sub (.var 9) (.int 1), .var 9]] [.chain .le .lt (.int 0) (.var 13) (.var 10)] [13]])) 60 (en31 ns a b ls w4 w5 w6 w7 (some (.d (.int ls[q].key))) (some (.d (.int k))) w12 w13 w14 w15 w16 w17 w18 w19)
      = .ok .nx (en31 ns a b ls w4 w5 w6 w7 (some (.d (.int ls[q].key))) (some (.d (.int k))) w12 w13 w14 w15 w16 (some (.d (dP (toldP ls k)))) w18 w19) := by
    simp only [v_set, v_blt, v_lcons, v_lnil, hc, R.bind_ok, List.map_cons, List.map_nil, rs_L, tuple_L, oko_some, assign_d]
    rcases h17 with rfl | ⟨y, rfl⟩ <;> rfl
  unfold bodyE
  rw [evB_nx s1]
  simp only [v_bcons, v_bnil, v_if, v_cmp, v_call, v_lcons, v_lnil, v_ix, v_int, v_bl, v_tup, v_var, varS, List.getElem?_cons_succ, List.getElem?_cons_zero, R.bind_ok, rs_d, index_tup, at_1, okd_some, e, keeps_d, keeps_nil, Option.map_some, R.opt_some, cmp_ne_d, sb, beq_self_eq_true, Bool.not_true, okb_some, asT_d, truth_bl, ifB_f]
theorem p13 (h : Sh ls) {q : Nat} (hq : q < ls.length) (w4 w5 w6 w7 w12 w13 w14 w15 w16 w18 w19 : Option W) :
    ∃ w9 w17, evS L.T C60 (.for_ (.nm 9) .rng [.bin .add (.var 10) (.int 1)] bodyE) 60 (en31 ns a b ls w4 w5 w6 w7 (some (.d (.int ls[q].key))) none w12 w13 w14 w15 w16 none w18 w19)
      = .ok .nx (en31 ns a b ls w4 w5 w6 w7 (some (.d (.int ls[q].key))) w9 w12 w13 w14 w15 w16 w17 w18 w19) := by
  have most := h.most
  have hi : iterF .rng (evL L.T C60 [.bin .add (.var 10) (.int 1)] 60 (en31 ns a b ls w4 w5 w6 w7 (some (.d (.int ls[q].key))) none w12 w13 w14 w15 w16 none w18 w19)) = .ok (upTo 0 ((ls.length : Int) + 1), []) (en31 ns a b ls w4 w5 w6 w7 (some (.d (.int ls[q].key))) none w12 w13 w14 w15 w16 none w18 w19) := by
    have := iter_rng1 (en31 ns a b ls w4 w5 w6 w7 (some (.d (.int ls[q].key))) none w12 w13 w14 w15 w16 none w18 w19) ((ls.length : Int) + 1) (inR_sm _ (by omega) (by omega))
    simp only [v_lcons, v_lnil, v_bin, v_var, v_int, varS, List.getElem?_cons_succ, List.getElem?_cons_zero, R.bind_ok, rs_d, bin_add_i, oko_some, this]
  obtain ⟨ρ', e, w9, w17, _, _, rfl⟩ := forL_keep [] (en31 ns a b ls w4 w5 w6 w7 (some (.d (.int ls[q].key))) none w12 w13 w14 w15 w16 none w18 w19) (.nm 9) (evB L.T C60 bodyE 60)
    (fun ρ => ∃ w9 w17 : Option W, (w9 = none ∨ ∃ y, w9 = some (.d y)) ∧ (w17 = none ∨ ∃ y, w17 = some (.d y)) ∧ ρ = en31 ns a b ls w4 w5 w6 w7 (some (.d (.int ls[q].key))) w9 w12 w13 w14 w15 w16 w17 w18 w19)
    (by rintro ρ _; rfl) (upTo 0 ((ls.length : Int) + 1)) (en31 ns a b ls w4 w5 w6 w7 (some (.d (.int ls[q].key))) none w12 w13 w14 w15 w16 none w18 w19) ⟨none, none, Or.inl rfl, Or.inl rfl, rfl⟩
    (by
      rintro x hx ρ ⟨w9, w17, h9, h17, rfl⟩
      obtain ⟨k, hk, rfl⟩ := mem_upTo hx
      rw [show (0 : Int) + (k : Int) = k by omega]
      refine ⟨en31 ns a b ls w4 w5 w6 w7 (some (.d (.int ls[q].key))) (some (.d (.int k))) w12 w13 w14 w15 w16 w17 w18 w19, _, ?_, p13b ns a b ls h hq w4 w5 w6 w7 w12 w13 w14 w15 w16 w17 w18 w19 h17 k (by omega), _, _, Or.inr ⟨_, rfl⟩, Or.inr ⟨_, rfl⟩, rfl⟩
      rcases h9 with rfl | ⟨y, rfl⟩ <;> rfl)
  refine ⟨w9, w17, ?_⟩
  rw [v_for, hi]
  exact e
end
theorem plain (ns : List Int) (hl : ns.length ≤ 63) : ∃ r, call L.T L.ds 61 31 [some (.d (.lst (ns.map D.int)))] = .ok (.d (.bl true)) r := by
  obtain ⟨a, b, ha, hb, e1⟩ := p1 ns
  obtain ⟨a, b, ls, ha, hb, h, e2⟩ := p2 ns a b ha hb
  have e3 := p3 ns a b ls h
  have e4 := p4 ns a b ls h
  have e5 := p5 ns a b ls h
  obtain ⟨a, b, key, ha, hb, h0, h9, e6⟩ := p6 ns a b ls ha hb
  have e7 := p7 ns a b ls key h
  have e8 := p8 ns a b ls key h h0 h9 (some (.d (.bl (ther ls key))))
  have e9 := p9 ns a b ls key none
  have e10 := p10 ns a b ls key h (some (.d (.bl (ther ls key)))) (some (.d (.tup [.int 0, ab ls key])))
  obtain ⟨w12, w13, w14, w15, w16, w18, w19, h13, e11⟩ := p11 ns a b ls key h h0 h9
  obtain ⟨a, b, q, hq, ha, hb, e12⟩ := p12 ns a b ls h ha hb (some (.d (.int key))) (some (.d (.bl (ther ls key)))) (some (.d (.tup [.int 0, ab ls key]))) (some (.d (.int (plc ls key)))) w12 w13 w14 w15 w16 w18 w19
  obtain ⟨w9, w17, e13⟩ := p13 ns a b ls h hq (some (.d (.int key))) (some (.d (.bl (ther ls key)))) (some (.d (.tup [.int 0, ab ls key]))) (some (.d (.int (plc ls key)))) w12 w13 w14 w15 w16 w18 w19
  have hf : fin 1 (evB L.T C60 d31.body 60 ([.lst (ns.map D.int)].map arg ++ List.replicate d31.nl none)) = some (.d (.bl true)) := by
    show fin 1 (evB L.T C60 d31.body 60 (en30 ns none none none none none)) = _
    have hb : d31.body = (.set 1 (.call 23 [.var 0, .int 0])) :: (.set 2 (.call 26 [.var 1])) :: (.par [10, 11] [.blt .len [.var 2], .blt .tuple [.comp (.call 27 [.var 18]) (.nm 18) .seq [.var 2] [] [18]]]) :: (.set 3 (.told (.call 16 [.var 2]))) ::
        (.ite (.cmp .ne (.var 3) (.tup [.int 0, .call 28 [.var 11]])) [.ret (.bl false)] []) :: (.set 4 (.call 24 [.var 1, .int 901])) :: (.set 5 (.cmp .ne (.comp (.var 18) (.nm 18) .seq [.var 2] [.cmp .eq (.ix (.var 18) (.int 1)) (.var 4)] [18]) (.lst []))) :: (.set 6 (.told (.call 17 [.var 2, .var 4]))) ::
        (.ite (.orL [.cmp .ne (.ix (.var 6) (.int 0)) (.int 0), .cmp .ne (.cmp .is_ (.ix (.var 6) (.int 1)) .non) (.var 5)]) [.ret (.bl false)] []) :: (.set 7 (.blt .len [.comp (.var 18) (.nm 18) .seq [.var 2] [.cmp .lt (.ix (.var 18) (.int 1)) (.var 4)] [18]])) ::
        (.ite (.not_ (.var 5)) blockS []) :: (.set 8 (.ix (.ix (.var 2) (.call 24 [.var 1, .var 10])) (.int 1))) :: (.for_ (.nm 9) .rng [.bin .add (.var 10) (.int 1)] bodyE) :: [.ret (.bl true)] := rfl
    rw [hb, evB_nx e1, evB_nx e2, evB_nx e3, evB_nx e4, evB_nx e5, evB_nx e6, evB_nx e7, evB_nx e8, evB_nx e9, evB_nx e10, evB_nx e11, evB_nx e12, evB_nx e13]
    rfl
  obtain ⟨h1, _⟩ := runD_fin L.T C60 d31 60 [.lst (ns.map D.int)] (.d (.bl true)) rfl hf
  exact ⟨_, (call_succ L.T L.ds 60 31 _).trans h1⟩
end Ev.K62
namespace Ev.K62
open PySem PySem.Spec PyProof.Rows L2
/-! the head: what the top leaves -/
abbrev R : PySem.W.OpenRow := PySem.W.OpenLaw.row PySem.Challenge.rw_evertold_k62_papers_of_absence
abbrev hk : PySem.W.Hook := He.hookX 4 L.fa L.fn [] L.tf L.ex
def ob (s : PySem.W.SharedT) : He.AlX := He.obsX 4 L.fa L.fn [] L.tf L.ex (HandSHeadRun.getT s)
theorem ob_eq (s : PySem.W.SharedT) : ob s = hk.obs s.abs := He.obsX_eq (HandSHeadRun.getT_eq s)
def loose : List Str := (["EverError", "BadLog", "OutOfRange", "is_integer", "is_below", "is_between", "MOST_LINES_seals", "check_rows", "split", "sealed_of"] : List Str) ++ (["proof_of", "proof", "leaves_of", "lines_of_seal", "MOST_SHEET", "MOST_SHEETS", "MOST_NUMBER", "is_key_line", "check_log", "check_sheets"] : List Str) ++ (["MOST_LINES_absent", "MOST_KEY", "STEP", "check_sheet", "check_key", "number_of", "sealed_sheet", "absent", "is_line", "is_absent"] : List Str) ++ (["is_shown", "shown_lines", "_law_cell", "_law_stream", "_law_draw", "_law_read", "_law_told", "_law_sheet", "_law_number", "_law_term"] : List Str) ++ (["_law_is", "_law_told_proof"] : List Str)
set_option maxHeartbeats 0 in
theorem run (w : World) : HandSHeadRun.RunEq R (PySem.W.view R.prog [48]) hk ob 5000 loose w := by
  intro os
  kernel_rfl
end Ev.K62
open PySem PySem.W PySem.Calls PyProof.Rows in
set_option maxHeartbeats 0 in
theorem PySem.Challenge.cw_evertold_k62_papers_of_absence_holds : PySem.Challenge.rw_evertold_k62_papers_of_absence.Holds := by
  w_on; o_law
  refine HandSHeadRun.head_any (r := OpenLaw.row PySem.Challenge.rw_evertold_k62_papers_of_absence) (q := view (OpenLaw.row PySem.Challenge.rw_evertold_k62_papers_of_absence).prog [48]) (H := Ev.K62.hk) (ob := Ev.K62.ob) (M := 5000) (loose := Ev.K62.loose) (d := HandSHeadRun.topDef (OpenLaw.row PySem.Challenge.rw_evertold_k62_papers_of_absence).prog 48) (kwd := []) Ev.K62.ob_eq
    (by kernel_rfl) (fun s => by kernel_rfl) Ev.K62.run (by kernel_rfl) (by kernel_rfl) (by kernel_rfl) (by rfl) (by first | assumption | decide +kernel) (by decide +kernel) ⟨rfl, rfl, rfl, rfl, rfl, by decide +kernel⟩ ?hw ?hc
  case hw => w_witness2
  case hc =>
    refine LamX.walk_ofTsE (l := PySem.Challenge.rw_evertold_k62_papers_of_absence) (n := 63) (k := 61) (x := "script") (CX := fun w => L2.CX (PySem.Challenge.rw_evertold_k62_papers_of_absence).prog w) rfl (by decide) (by kernel_rfl) ⟨rfl, by decide, by decide⟩ ?F ?C
    case F =>
      intro w mg fa h Y G hmg0
      obtain ⟨K, KX, c⟩ := Y
      have hmg : mg ("law" : PySem.Str) = some (.ref fa) := by
        have e : (HandSHeadRun.topDef (OpenLaw.row PySem.Challenge.rw_evertold_k62_papers_of_absence).prog 48).name = ("law" : PySem.Str) := by kernel_rfl
        rw [← e]
        exact hmg0
      exact ⟨K, KX, Ev.law_at (L := Ev.K62.L) (n := 60) (fL := 31) (eL := Ev.K62.e31) KX G c Ev.K62.tok Ev.K62.tol Ev.K62.ok rfl rfl rfl hmg fun ns hl _ => Ev.K62.plain ns hl⟩
    case C =>
      intro w H s e s' x
      obtain ⟨_, _, _, _, _, _, _, _, _, _, _, _, z⟩ := x
      exact z
