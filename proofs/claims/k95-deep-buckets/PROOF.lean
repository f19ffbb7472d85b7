import PyProof.Rows.All
import Wide.All
import OpenK.AllK
import Wide.FinOn
import HandS.ForMost
import HandS.ForExc
import HandS.Lambda
import HandS.TupAny
import HandS.TupMul
import HandS.TupLe
import HandS.SortInts
import HandS.IsInst
import HandS.Deep
import HandS.SetFor
import HandS.Strs
import HandS.Zip
import HandS.Flow
import KE.GoesEnum
import HandS.WordsExc
import HandS.Style
import HandS.ExcIs
import HandS.CallLocal
import HandS.Defaults
import HandS.EndTab
import HandS.HeadWalk
import HandS.HeadHook4
import HandS.Head4
import PySem.Challenge.RW_evertold_k95_deep_buckets_read_back
set_option Elab.async false
set_option linter.all false
set_option maxRecDepth 100000
/-! Ev0: a small language, its data and its evaluator (plain Lean; nothing of the model). -/
namespace Ev
/-- data: n in str n is a place in the law's table of texts -/
inductive D where
  | non | bl (b : Bool) | int (i : Int) | str (n : Nat) | tup (xs : List D) | lst (xs : List D)
deriving Inhabited, Repr
mutual
/-- == of data -/
def eqb : D → D → Bool
  | .non, y => match y with | .non => true | _ => false
  | .bl a, y => match y with | .bl b => a == b | .int j => (if a then (1 : Int) else 0) == j | _ => false
  | .int i, y => match y with | .int j => i == j | .bl b => i == (if b then (1 : Int) else 0) | _ => false
  | .str a, y => match y with | .str b => a == b | _ => false
  | .tup xs, y => match y with | .tup ys => eqbs xs ys | _ => false
  | .lst xs, y => match y with | .lst ys => eqbs xs ys | _ => false
def eqbs : List D → List D → Bool
  | [], ys => match ys with | [] => true | _ :: _ => false
  | x :: xs, ys => match ys with | [] => false | y :: ys => eqb x y && eqbs xs ys
end
mutual
/-- how deep data may be -/
def lim : D → Nat → Bool
  | .tup xs, n => match n with | 0 => false | m + 1 => limL xs m
  | .lst xs, n => match n with | 0 => false | m + 1 => limL xs m
  | _, _ => true
def limL : List D → Nat → Bool
  | [], _ => true
  | x :: xs, n => lim x n && limL xs n
end
mutual
/-- x < y where Python tells it of ints and of tuples of such -/
def ltD : D → D → Option Bool
  | .int i, y => match y with | .int j => some (decide (i < j)) | _ => none
  | .tup xs, y => match y with | .tup ys => ltL xs ys | _ => none
  | _, _ => none
def ltL : List D → List D → Option Bool
  | [], ys => match ys with | [] => some false | _ :: _ => some true
  | x :: xs, ys => match ys with
    | [] => some false
    | y :: ys => if eqb x y then ltL xs ys else ltD x y
end
/-- what a slot of a def holds: data; a list of its own (p: the caller's, too); a dict -/
inductive W where
  | d (x : D) | L (p : Bool) (xs : List D) | M (p t : Bool) (kvs : List (D × D)) | F (f : Nat)
deriving Inhabited, Repr
/-- what an expression gives: data, a new list, a new dict, the list or dict of a slot -/
inductive O where
  | d (x : D) | L (xs : List D) | M (t : Bool) (kvs : List (D × D)) | bor (i : Nat) | F (f : Nat)
deriving Inhabited, Repr
abbrev Ev := List (Option W)
inductive R (α : Type) where
  | ok (a : α) (ρ : Ev) | exc (c : Nat) (ρ : Ev) | stuck
deriving Inhabited, Repr
def R.bind {α β : Type} (r : R α) (f : α → Ev → R β) : R β := match r with
  | .ok a ρ => f a ρ
  | .exc c ρ => .exc c ρ
  | .stuck => .stuck
@[simp] theorem R.bind_ok {α β : Type} (a : α) (ρ : Ev) (f : α → Ev → R β) : (R.ok a ρ).bind f = f a ρ := rfl
@[simp] theorem R.bind_exc {α β : Type} (c : Nat) (ρ : Ev) (f : α → Ev → R β) : (R.exc c ρ).bind f = .exc c ρ := rfl
@[simp] theorem R.bind_stuck {α β : Type} (f : α → Ev → R β) : (R.stuck : R α).bind f = .stuck := rfl
/-- no exception may come here -/
def R.calm {α : Type} (r : R α) : R α := match r with
  | .exc _ _ => .stuck
  | r => r
def R.opt {α β : Type} (o : Option α) (f : α → R β) : R β := match o with
  | some a => f a
  | none => .stuck
@[simp] theorem R.opt_some {α β : Type} (a : α) (f : α → R β) : R.opt (some a) f = f a := rfl
@[simp] theorem R.opt_none {α β : Type} (f : α → R β) : R.opt none f = .stuck := rfl
abbrev cap : Nat := 16777216
/-- only if it is so -/
def R.grd {α : Type} (b : Bool) (r : R α) : R α := if b = true then r else .stuck
@[simp] theorem R.grd_true {α : Type} (r : R α) : R.grd true r = r := rfl
@[simp] theorem R.grd_false {α : Type} (r : R α) : R.grd false r = .stuck := rfl
inductive Bop where | add | sub | mul | fdiv | mod
deriving DecidableEq, Repr
inductive Cop where | eq | ne | lt | le | gt | ge | isin | notin | is_ | isnot
deriving DecidableEq, Repr
inductive Ty where | int | bool | str | tuple | list
deriving DecidableEq, Repr
inductive Blt where | len | abs | int | tuple | list | sum | max | min | max2 | min2 | min3 | all | any | sorted | sortedSet | dict
deriving DecidableEq, Repr
/-- what a loop walks -/
inductive Ik where | seq | rng | enum | zip
deriving DecidableEq, Repr
inductive Tg where
  | nm (i : Nat) | tp (ts : List Tg)
deriving Inhabited, Repr
inductive E where
  | non | bl (b : Bool) | int (i : Int) | str (n : Nat) | abs
  | var (i : Nat) | con (k : Nat)
  | bin (op : Bop) (a b : E) | neg (a : E)
  | andL (es : List E) | orL (es : List E) | not_ (a : E)
  | cmp (op : Cop) (a b : E) | chain (o1 o2 : Cop) (a b c : E)
  | ite (c a b : E)
  | tup (es : List E) | lst (es : List E) | dnew (t : Bool)
  | ix (a i : E) | sl (a lo hi : E) | rev (a : E)
  | call (f : Nat) (es : List E)
  | blt (b : Blt) (es : List E)
  | isi (a : E) (t : Ty)
  | app (i : Nat) (e : E) | pop (i : Nat) | get2 (d k x : E) | sdef (i : Nat) (k x : E)
  | comp (elt : E) (tg : Tg) (k : Ik) (es ifs : List E) (own : List Nat)
  | comp2 (elt : E) (t1 : Tg) (k1 : Ik) (e1 : List E) (t2 : Tg) (k2 : Ik) (e2 ifs : List E) (own : List Nat)
  | dcomp (t : Bool) (key val : E) (tg : Tg) (k : Ik) (es ifs : List E) (own : List Nat)
  | told (b : E)
  | fns (fs : List Nat) (a : E) | callv (i : Nat) (es : List E)
deriving Inhabited, Repr
inductive S where
  | ex (e : E) | ret (e : E) | retN | set (i : Nat) (e : E) | setT (ts : List Tg) (e : E) | par (is : List Nat) (es : List E)
  | setIx (i : Nat) (k e : E) | aug (i : Nat) (op : Bop) (e : E) | augIx (i : Nat) (k : E) (op : Bop) (e : E)
  | ite (c : E) (a b : List S) | for_ (tg : Tg) (k : Ik) (es : List E) (b : List S) | while_ (c : E) (b : List S)
  | raise (c : Nat) | pass | brk | cont
deriving Inhabited, Repr
inductive Fl where | nx | brk | cont | ret (o : O)
deriving Inhabited, Repr

mutual
def slots : Tg → List Nat
  | .nm i => [i]
  | .tp ts => slotss ts
def slotss : List Tg → List Nat
  | [] => []
  | t :: ts => slots t ++ slotss ts
end
/-! ### values -/
/-- a slot's list or dict, as it stands -/
def rs (ρ : Ev) : O → O
  | .bor i => match ρ[i]? with
    | some (some (.L _ xs)) => .L xs
    | some (some (.M _ t kvs)) => .M t kvs
    | _ => .bor i
  | o => o
/-- the items of a tuple or list -/
def items : O → Option (List D)
  | .d (.tup xs) => some xs
  | .d (.lst xs) => some xs
  | .L xs => some xs
  | _ => none
/-- a value as data, to be looked at -/
def look : O → Option D
  | .d x => some x
  | .L xs => some (.lst xs)
  | _ => none
/-- a value kept in a tuple or list: a list stands still from then on -/
def keep (ρ : Ev) : O → Option (D × Ev)
  | .d x => some (x, ρ)
  | .L xs => some (.lst xs, ρ)
  | .bor i => match ρ[i]? with
    | some (some (.L false xs)) => some (.lst xs, ρ.set i (some (.d (.lst xs))))
    | _ => none
  | .M _ _ => none
  | .F _ => none
def keeps (ρ : Ev) : List O → Option (List D × Ev)
  | [] => some ([], ρ)
  | o :: os => match keep ρ o with
    | none => none
    | some (x, ρ1) => match keeps ρ1 os with
      | none => none
      | some (xs, ρ2) => some (x :: xs, ρ2)
/-- truth -/
def truth : O → Option Bool
  | .d .non => some false
  | .d (.bl b) => some b
  | .d (.int i) => some (i != 0)
  | .d (.tup xs) => some (!xs.isEmpty)
  | .d (.lst xs) => some (!xs.isEmpty)
  | .L xs => some (!xs.isEmpty)
  | _ => none
def sml (i : Int) : Bool := decide (-(2 ^ 64) < i) && decide (i < 2 ^ 64)
/-- a op b -/
def addO : O → O → Option O
  | .d (.int i), .d (.int j) => some (.d (.int (i + j)))
  | .d (.tup xs), .d (.tup ys) => if xs.length + ys.length ≤ cap then some (.d (.tup (xs ++ ys))) else none
  | .L xs, .L ys => if xs.length + ys.length ≤ cap then some (.L (xs ++ ys)) else none
  | .d (.str k), .d (.str n) => if k = 0 then some (.d (.str n)) else none
  | _, _ => none
def subO : O → O → Option O
  | .d (.int i), .d (.int j) => some (.d (.int (i - j)))
  | _, _ => none
def mulO : O → O → Option O
  | .d (.int i), .d (.int j) => if sml i || sml j then some (.d (.int (i * j))) else none
  | .d (.tup xs), .d (.int j) => if 0 < xs.length ∧ xs.length ≤ 1000 ∧ 2 ≤ j ∧ j ≤ 1000 then some (.d (.tup (List.replicate j.toNat xs).flatten)) else none
  | .L xs, .d (.int j) => if -(2 ^ 63) ≤ j ∧ j < 2 ^ 63 ∧ xs.length * j.toNat ≤ cap then some (.L (List.replicate j.toNat xs).flatten) else none
  | _, _ => none
def fdivO : O → O → Option O
  | .d (.int i), .d (.int j) => if 0 < j ∧ j < 1073741824 then some (.d (.int (i / j))) else none
  | _, _ => none
def modO : O → O → Option O
  | .d (.int i), .d (.int j) => if 0 < j then some (.d (.int (i % j))) else none
  | _, _ => none
def bin (op : Bop) (a b : O) : Option O := match op with
  | .add => addO a b
  | .sub => subO a b
  | .mul => mulO a b
  | .fdiv => fdivO a b
  | .mod => modO a b
def limit : Nat := 60
def same (x y : D) : Option Bool := if lim x limit && lim y limit then some (eqb x y) else none
/-- d in a list of data -/
def among (x : D) (ys : List D) : Option Bool := if lim x limit = true then some (ys.any fun y => eqb y x) else none
def findK (k : D) : List (D × D) → Option D
  | [] => none
  | (a, v) :: r => if eqb a k then some v else findK k r
def putK (k v : D) : List (D × D) → List (D × D)
  | [] => [(k, v)]
  | (a, u) :: r => if eqb a k then (a, v) :: r else (a, u) :: putK k v r
/-- what may be a dict's key: ints and texts; or tuples of them -/
def keyOk : Bool → D → Bool
  | false, .int _ => true
  | false, .str _ => true
  | true, .tup xs => xs.all fun x => match x with | .int _ => true | .str _ => true | _ => false
  | _, _ => false
def dictOf : O → Option (Bool × List (D × D))
  | .M t kvs => some (t, kvs)
  | _ => none
def isNon : D → Bool
  | .non => true
  | _ => false
def isBl (c : Bool) : D → Bool
  | .bl b => b == c
  | _ => false
def isO (a b : O) : Option Bool := match b with
  | .d .non => (look a).map isNon
  | .d (.bl c) => (look a).map (isBl c)
  | _ => none
/-- order of rows of ints -/
def lexI : List Int → List Int → Bool
  | [], ys => match ys with | [] => false | _ :: _ => true
  | x :: xs, ys => match ys with
    | [] => false
    | y :: ys => if x = y then lexI xs ys else decide (x < y)
def intsOf : List D → Option (List Int)
  | [] => some []
  | .int i :: r => (intsOf r).map (i :: ·)
  | _ :: _ => none
def ltO : O → O → Option Bool
  | .d (.int i), .d (.int j) => some (decide (i < j))
  | .d (.tup xs), .d (.tup ys) => (match intsOf xs, intsOf ys with
    | some ns, some ms => some (lexI ns ms)
    | _, _ => none)
  | _, _ => none
def eqO (a b : O) : Option Bool := match look a, look b with
  | some x, some y => same x y
  | _, _ => none
def leO : O → O → Option Bool
  | .d (.int i), .d (.int j) => some (decide (i ≤ j))
  | _, _ => none
def gtO : O → O → Option Bool
  | .d (.int i), .d (.int j) => some (decide (j < i))
  | _, _ => none
def geO : O → O → Option Bool
  | .d (.int i), .d (.int j) => some (decide (j ≤ i))
  | _, _ => none
/-- a in a list, a tuple -/
def inSeq (a b : O) : Option Bool := match look a, items b with
  | some x, some ys => among x ys
  | _, _ => none
def inO (a b : O) : Option Bool := inSeq a b
def cmp (op : Cop) (a b : O) : Option Bool := match op with
  | .eq => eqO a b
  | .ne => (eqO a b).map (!·)
  | .lt => ltO a b
  | .le => leO a b
  | .gt => gtO a b
  | .ge => geO a b
  | .isin => inO a b
  | .notin => (inO a b).map (!·)
  | .is_ => isO a b
  | .isnot => (isO a b).map (!·)
/-- the place that an index means -/
def place (n : Nat) (i : Int) : Option Nat := if 0 ≤ i then (if i < n then some i.toNat else none) else (if -(n : Int) ≤ i then some (n + i).toNat else none)
def at_ (xs : List D) (i : Int) : Option D := (place xs.length i).bind fun j => xs[j]?
def ixSeq (a i : O) : Option D := match items a, i with
  | some xs, .d (.int i) => at_ xs i
  | _, _ => none
def index (a i : O) : Option D := ixSeq a i
def sIx (n d : Nat) : Option Int → Nat
  | none => d
  | some v => if v < 0 then (v + (n : Int)).toNat else min v.toNat n
def cut {α : Type} (xs : List α) (lo hi : Option Int) : List α := (xs.drop (sIx xs.length 0 lo)).take (sIx xs.length xs.length hi - sIx xs.length 0 lo)
def slice (a : O) (lo hi : Option Int) : Option O := match a with
  | .d (.tup xs) => some (.d (.tup (cut xs lo hi)))
  | a => (items a).map fun xs => .L (cut xs lo hi)
def revd (a : O) : Option O := match a with
  | .d (.tup xs) => some (.d (.tup xs.reverse))
  | a => (items a).map fun xs => .L xs.reverse
def isTy (t : Ty) : O → Option Bool
  | .d x => some (match x, t with
    | .bl _, .int => true | .bl _, .bool => true | .int _, .int => true | .str _, .str => true | .tup _, .tuple => true | .lst _, .list => true | _, _ => false)
  | .L _ => some (t == .list)
  | _ => none
/-- the items as ints, as truth values -/
def bolsOf : List D → Option (List Bool)
  | [] => some []
  | .bl b :: r => (bolsOf r).map (b :: ·)
  | _ :: _ => none
def pairsOf : List D → Option (List (D × D))
  | [] => some []
  | .tup [a, b] :: r => (pairsOf r).map ((a, b) :: ·)
  | _ :: _ => none
/-- the first of the greatest, of the least -/
def maxL : Int → List Int → Int
  | m, [] => m
  | m, x :: r => maxL (if x > m then x else m) r
def minL : Int → List Int → Int
  | m, [] => m
  | m, x :: r => minL (if x < m then x else m) r
/-- a sorted list of ints: each put in behind the ones that are not greater -/
def insI (x : Int) : List Int → List Int
  | [] => [x]
  | y :: r => if x < y then x :: y :: r else y :: insI x r
def sortI : List Int → List Int
  | [] => []
  | x :: r => insI x (sortI r)
/-- strictly rising, each once -/
def insS (x : Int) : List Int → List Int
  | [] => [x]
  | y :: r => if x < y then x :: y :: r else if x = y then y :: r else y :: insS x r
def sortS : List Int → List Int
  | [] => []
  | x :: r => insS x (sortS r)
/-- each once (a set, told by what it holds) -/
def nubD : List D → List D
  | [] => []
  | x :: r => if (nubD r).any (eqb x) then nubD r else x :: nubD r
def dictFrom (t : Bool) : List (D × D) → List (D × D) → List (D × D)
  | acc, [] => acc
  | acc, (k, v) :: r => dictFrom t (putK k v acc) r
/-- one list or tuple -/
def seqF (f : List D → Option O) : List O → Option O
  | [a] => (items a).bind f
  | _ => none
def lenF : List O → Option O := seqF fun xs => some (.d (.int xs.length))
def absF : List O → Option O
  | [.d (.int i)] => some (.d (.int (if i < 0 then -i else i)))
  | _ => none
def intF : List O → Option O
  | [.d (.int i)] => some (.d (.int i))
  | [.d (.bl b)] => some (.d (.int (if b then 1 else 0)))
  | _ => none
def tupleF : List O → Option O := seqF fun xs => some (.d (.tup xs))
def listF : List O → Option O := seqF fun xs => some (.L xs)
/-- one list of ints -/
def itemsL : O → Option (List D)
  | .d (.lst xs) => some xs
  | .L xs => some xs
  | _ => none
def intsF (f : List Int → Option O) : List O → Option O
  | [a] => (itemsL a).bind fun xs => (intsOf xs).bind f
  | _ => none
def sumF : List O → Option O := intsF fun ns => some (.d (.int ns.sum))
def bestF (f : Int → List Int → Int) : List O → Option O := intsF fun ns => match ns with
  | [] => none
  | m :: r => some (.d (.int (f m r)))
def max2F : List O → Option O
  | [.d (.int i), .d (.int j)] => some (.d (.int (if j > i then j else i)))
  | _ => none
def min2F : List O → Option O
  | [.d (.int i), .d (.int j)] => some (.d (.int (if j < i then j else i)))
  | _ => none
def bolsF (f : List Bool → Bool) : List O → Option O
  | [a] => (itemsL a).bind fun xs => (bolsOf xs).map fun bs => .d (.bl (f bs))
  | _ => none
def sortF : List O → Option O := intsF fun ns => some (.L ((sortI ns).map .int))
/-- sorted(set(a)), a a list of ints, fewer than 64 -/
def sortSF : List O → Option O := intsF fun ns => if ns.length < 64 then some (.L ((sortS ns).map .int)) else none
def lenO : List O → Option O := lenF
def blt (b : Blt) (os : List O) : Option O := match b with
  | .len => lenO os
  | .abs => absF os
  | .int => intF os
  | .tuple => tupleF os
  | .list => listF os
  | .sum => sumF os
  | .max => bestF maxL os
  | .min => bestF minL os
  | .max2 => max2F os
  | .min2 => min2F os
  | .all => bolsF (fun bs => bs.all id) os
  | .any => bolsF (fun bs => bs.any id) os
  | .sorted => sortF os
  | .sortedSet => sortSF os
  | _ => none
/-- lo, lo + 1, .. below hi -/
def upTo (lo hi : Int) : List D := (List.range (hi - lo).toNat).map fun (k : Nat) => D.int (lo + (k : Int))
def inR (i : Int) : Bool := decide (-(2 ^ 62) ≤ i) && decide (i < 2 ^ 62)
/-- lo, lo + c, .. (n of them) -/
def stepL (lo hi c : Int) : List D :=
  let n := if 0 < c then ((hi - lo + c - 1) / c).toNat else ((lo - hi + (-c) - 1) / (-c)).toNat
  (List.range n).map fun (k : Nat) => D.int (lo + (k : Int) * c)
def enumFrom : Nat → List D → List D
  | _, [] => []
  | k, x :: r => .tup [.int k, x] :: enumFrom (k + 1) r
def isT : O → Bool
  | .d (.tup _) => true
  | _ => false
/-- what is walked: the list of all items, or the list of a slot (which the loop may not change) -/
def walk (k : Ik) (os : List O) : Option (List D) := match k, os with
  | .seq, [a] => items a
  | .rng, [.d (.int n)] => if inR n then some (upTo 0 n) else none
  | .rng, [.d (.int a), .d (.int b)] => if inR a && inR b then some (upTo a b) else none
  | .rng, [.d (.int a), .d (.int b), .d (.int c)] => if inR a && inR b && c != 0 && decide (-1073741824 < c) && decide (c < 1073741824) then some (stepL a b c) else none
  | .enum, [a] => (items a).map (enumFrom 0)
  | .zip, [a, b] => if isT a = isT b then (match items a, items b with
    | some xs, some ys => some ((xs.zip ys).map fun p => .tup [p.1, p.2])
    | _, _ => none) else none
  | _, _ => none
/-- the slots whose list is walked -/
def walked : List O → List Nat
  | [] => []
  | .bor i :: r => i :: walked r
  | _ :: r => walked r
mutual
/-- the same, as data (told by structure) -/
def D.beq : D → D → Bool
  | .non, y => match y with | .non => true | _ => false
  | .bl a, y => match y with | .bl b => a == b | _ => false
  | .int i, y => match y with | .int j => i == j | _ => false
  | .str a, y => match y with | .str b => a == b | _ => false
  | .tup xs, y => match y with | .tup ys => D.beqs xs ys | _ => false
  | .lst xs, y => match y with | .lst ys => D.beqs xs ys | _ => false
def D.beqs : List D → List D → Bool
  | [], ys => match ys with | [] => true | _ :: _ => false
  | x :: xs, ys => match ys with | [] => false | y :: ys => D.beq x y && D.beqs xs ys
end
/-- the walked slots stand as they stood -/
def stands (ρ0 ρ : Ev) : List Nat → Bool
  | [] => true
  | i :: r => (match ρ0[i]?, ρ[i]? with
    | some (some (.L _ xs)), some (some (.L _ ys)) => D.beqs xs ys
    | _, _ => false) && stands ρ0 ρ r
/-- a value put to a slot; a list of the caller's may not be left -/
def free (ρ : Ev) (i : Nat) : Bool := match ρ[i]? with
  | some (some (.L true _)) => false
  | some (some (.M true _ _)) => false
  | some _ => true
  | none => false
def store (ρ : Ev) (i : Nat) (w : W) : Option Ev := if free ρ i then some (ρ.set i (some w)) else none
mutual
def bindT : Tg → D → Ev → Option Ev
  | .nm i, x, ρ => store ρ i (.d x)
  | .tp ts, x, ρ => match x with
    | .tup xs => bindTs ts xs ρ
    | _ => none
def bindTs : List Tg → List D → Ev → Option Ev
  | [], xs, ρ => match xs with | [] => some ρ | _ :: _ => none
  | t :: ts, xs, ρ => match xs with
    | [] => none
    | x :: xs => (bindT t x ρ).bind (bindTs ts xs)
end
/-- name = value -/
def assign (ρ : Ev) (i : Nat) : O → Option Ev
  | .d x => store ρ i (.d x)
  | .L xs => store ρ i (.L false xs)
  | .M t kvs => store ρ i (.M false t kvs)
  | .F f => store ρ i (.F f)
  | .bor j => match ρ[j]? with
    | some (some (.L false xs)) => store (ρ.set j (some (.d (.lst xs)))) i (.d (.lst xs))
    | _ => none
/-- the slots of a comprehension's own -/
def wipe (ρ : Ev) : List Nat → Ev
  | [] => ρ
  | i :: r => (wipe ρ r).set i none
def back (ρ0 ρ : Ev) : List Nat → Ev
  | [] => ρ
  | i :: r => (back ρ0 ρ r).set i (ρ0[i]?.getD none)
/-- x[k] = v -/
def setAt (ρ : Ev) (i : Nat) (k : O) (v : D) : Option Ev := match ρ[i]?, k with
  | some (some (.L p xs)), .d (.int j) => (place xs.length j).map fun j => ρ.set i (some (.L p (xs.set j v)))
  | _, _ => none
/-- what a call hands over: data, a new list, a slot's list (the caller's, both) -/
def handL (ρ : Ev) : List O → Option Ev
  | [] => some []
  | o :: os => (match o with
    | .d x => some (W.d x)
    | .L xs => some (W.L true xs)
    | .M t kvs => some (W.M true t kvs)
    | .F _ => none
    | .bor i => (match ρ[i]? with
      | some (some (.L _ xs)) => some (W.L true xs)
      | some (some (.M _ t kvs)) => some (W.M true t kvs)
      | _ => none)).bind fun w => (handL ρ os).map (some w :: ·)
def onceEach : List Nat → Bool
  | [] => true
  | i :: r => !r.contains i && onceEach r
/-- behind the call: the slots' lists as the callee left them -/
def handB (ρ : Ev) : List O → Ev → Option Ev
  | [], _ => some ρ
  | .bor i :: os, a :: r => (match ρ[i]?, a with
    | some (some (.L p _)), some (.L true xs) => handB (ρ.set i (some (.L p xs))) os r
    | some (some (.M p t _)), some (.M true t' kvs) => if t == t' then handB (ρ.set i (some (.M p t kvs))) os r else none
    | _, _ => none)
  | _ :: os, _ :: r => handB ρ os r
  | _ :: _, [] => none
/-- what a def is called with, what it hands back -/
abbrev Calls := Nat → Nat → Ev → R O
/-- the things of a law: data of its module's constants; the reader; the word of each error -/
structure Top where
  con : List D
  read : Nat
  word : Nat → Nat
  ne : Nat
deriving Inhabited
def isBor : O → Bool
  | .bor _ => true
  | _ => false
def callF (C : Calls) (n f : Nat) (os : List O) (ρ : Ev) : R O :=
  if onceEach (walked os) then R.opt (handL ρ os) fun args => match C n f args with
    | .ok o ρ1 => if isBor o = true then .stuck else R.opt (handB ρ os ρ1) fun ρ2 => .ok o ρ2
    | .exc c ρ1 => R.opt (handB ρ os ρ1) fun ρ2 => .exc c ρ2
    | .stuck => .stuck
  else .stuck
/-- one item after the other -/
def walkL (turn : D → List D → Ev → R (List D)) : List D → List D → Ev → R (List D)
  | [], acc, ρ => .ok acc ρ
  | x :: r, acc, ρ => (turn x acc ρ).bind (walkL turn r)
def optInt : O → Option Int
  | .d (.int i) => some i
  | _ => none
def isAbs : E → Bool
  | .abs => true
  | _ => false
/-- a value as a test, as a slice's bound -/
def asT (r : R O) : R Bool := r.bind fun o ρ1 => R.opt (truth (rs ρ1 o)) fun b => .ok b ρ1
def asI (r : R O) : R (Option Int) := r.bind fun o ρ1 => R.opt (optInt o) fun i => .ok (some i) ρ1
/-- the last of some truth values, or the first that decides -/
def onB (stop : Bool) (r : R O) (f : Ev → R O) : R O := r.bind fun o ρ1 => match o with
  | .d (.bl b) => if b = stop then .ok (.d (.bl b)) ρ1 else f ρ1
  | _ => .stuck
def ifB {α : Type} (r : R Bool) (f g : Ev → R α) : R α := r.bind fun b ρ => if b = true then f ρ else g ρ
/-- one turn of a comprehension -/
def compTurn (own : List Nat) (ρ1 : Ev) (ws : List Nat) (tg : Tg) (tests : Ev → R Bool) (elt : Ev → R O) (x : D) (acc : List D) (ρ : Ev) : R (List D) :=
  if stands ρ1 ρ ws = true then R.opt (bindT tg x ρ) fun ρ2 => ifB (tests ρ2)
    (fun ρ3 => (elt ρ3).bind fun o ρ4 => R.opt (keep ρ4 o) fun p => if acc.length < cap then .ok (acc ++ [p.1]) (wipe p.2 own) else .stuck)
    (fun ρ3 => .ok acc (wipe ρ3 own)) else .stuck
def compEnd (own : List Nat) (ρ1 : Ev) (ws : List Nat) (r : R (List D)) : R O :=
  (r.bind fun acc ρ5 => if stands ρ1 ρ5 ws = true then .ok (.L acc) (back ρ1 ρ5 own) else .stuck).calm
/-- one turn of the outer clause of two -/
def compTurn2 (own : List Nat) (ρ1 : Ev) (ws : List Nat) (t1 : Tg) (it2 : Ev → R (List D × List Nat)) (vs1 : List Nat) (inner : Ev → List Nat → D → List D → Ev → R (List D)) (x : D) (acc : List D) (ρ : Ev) : R (List D) :=
  if stands ρ1 ρ ws = true then R.opt (bindT t1 x ρ) fun ρ2 => (it2 ρ2).bind fun p ρ3 => (walkL (inner ρ3 p.2) p.1 acc (wipe ρ3 vs1)).bind fun acc' ρ6 =>
    if stands ρ3 ρ6 p.2 = true then .ok acc' (wipe ρ6 own) else .stuck
  else .stuck
/-- what is walked, as items and slots -/
def iterF (k : Ik) (r : R (List O)) : R (List D × List Nat) := r.bind fun os ρ1 => R.opt (walk k (os.map (rs ρ1))) fun xs => .ok (xs, walked os) ρ1
def isL (ρ : Ev) (i : Nat) : Bool := match ρ[i]? with
  | some (some (.L _ _)) => true
  | _ => false
def appS (i : Nat) (x : D) (ρ : Ev) : R O := match ρ[i]? with
  | some (some (.L q xs)) => if xs.length < cap then .ok (.d .non) (ρ.set i (some (.L q (xs ++ [x])))) else .stuck
  | _ => .stuck
def popS (i : Nat) (ρ : Ev) : R O := match ρ[i]? with
  | some (some (.L q xs)) => R.opt xs[xs.length - 1]? fun x => .ok (.d x) (ρ.set i (some (.L q xs.dropLast)))
  | _ => .stuck
def getS (a y z : O) (ρ : Ev) : R O := R.opt (dictOf (rs ρ a)) fun m => match y, z with
  | .d k, .d v => if keyOk m.1 k = true then .ok (.d ((findK k m.2).getD v)) ρ else .stuck
  | _, _ => .stuck
def varS (i : Nat) (ρ : Ev) : R O := match ρ[i]? with
  | some (some (.d x)) => .ok (.d x) ρ
  | some (some (.F _)) => .stuck
  | some (some _) => .ok (.bor i) ρ
  | _ => .stuck
def toldS (T : Top) (C : Calls) (m : Nat) (r : R O) : R O := match r with
  | .ok o ρ1 => (callF C (m + 1) T.read [o] ρ1).calm.bind fun r ρ2 => R.opt (keep ρ2 r) fun p => .ok (.d (.tup [.int 0, p.1])) p.2
  | .exc c ρ1 => R.grd (decide (c < T.ne)) (.ok (.d (.tup [.int 1, .str (T.word c)])) ρ1)
  | .stuck => .stuck
/-- one of some defs -/
def fnS (fs : List Nat) (y : O) (ρ : Ev) : R O := match y with
  | .d (.int k) => if 0 ≤ k ∧ k < fs.length then R.opt fs[k.toNat]? fun f => .ok (.F f) ρ else .stuck
  | _ => .stuck
def callvS (C : Calls) (n i : Nat) (ρ : Ev) (r : R (List O)) : R O := match ρ[i]? with
  | some (some (.F f)) => r.bind fun os ρ1 => callF C n f os ρ1
  | _ => .stuck
def okd (o : Option D) (ρ : Ev) : R O := R.opt o fun x => .ok (.d x) ρ
def oko (o : Option O) (ρ : Ev) : R O := R.opt o fun x => .ok x ρ
def okb (o : Option Bool) (ρ : Ev) : R O := R.opt o fun x => .ok (.d (.bl x)) ρ
mutual
def evE (T : Top) (C : Calls) : E → Nat → Ev → R O
  | .non, _, ρ => .ok (.d .non) ρ
  | .bl b, _, ρ => .ok (.d (.bl b)) ρ
  | .int i, _, ρ => .ok (.d (.int i)) ρ
  | .str k, _, ρ => .ok (.d (.str k)) ρ
  | .abs, _, _ => .stuck
  | .var i, _, ρ => varS i ρ
  | .con k, _, ρ => okd T.con[k]? ρ
  | .bin op a b, n, ρ => (evE T C a n ρ).bind fun x ρ1 => (evE T C b n ρ1).bind fun y ρ2 => oko (bin op (rs ρ2 x) (rs ρ2 y)) ρ2
  | .neg a, n, ρ => (evE T C a n ρ).bind fun x ρ1 => R.opt (optInt x) fun i => .ok (.d (.int (-i))) ρ1
  | .andL es, n, ρ => evAO T C false es n ρ
  | .orL es, n, ρ => evAO T C true es n ρ
  | .not_ a, n, ρ => (asT (evE T C a n ρ)).bind fun b ρ1 => .ok (.d (.bl (!b))) ρ1
  | .cmp op a b, n, ρ => (evE T C a n ρ).bind fun x ρ1 => (evE T C b n ρ1).bind fun y ρ2 => okb (cmp op (rs ρ2 x) (rs ρ2 y)) ρ2
  | .chain o1 o2 a b c, n, ρ => (evE T C a n ρ).bind fun x ρ1 => (evE T C b n ρ1).bind fun y ρ2 => R.opt (cmp o1 (rs ρ2 x) (rs ρ2 y)) fun k =>
      if k = true then (evE T C c n ρ2).bind fun z ρ3 => okb (cmp o2 (rs ρ3 y) (rs ρ3 z)) ρ3 else .ok (.d (.bl false)) ρ2
  | .ite c a b, n, ρ => ifB (asT (evE T C c n ρ)) (evE T C a n) (evE T C b n)
  | .tup es, n, ρ => (evL T C es n ρ).bind fun os ρ1 => R.opt (keeps ρ1 os) fun p => .ok (.d (.tup p.1)) p.2
  | .lst es, n, ρ => (evL T C es n ρ).bind fun os ρ1 => R.opt (keeps ρ1 os) fun p => .ok (.L p.1) p.2
  | .dnew t, _, ρ => .ok (.M t []) ρ
  | .ix a i, n, ρ => (evE T C a n ρ).bind fun x ρ1 => (evE T C i n ρ1).bind fun y ρ2 => okd (index (rs ρ2 x) (rs ρ2 y)) ρ2
  | .sl a lo hi, n, ρ => (evE T C a n ρ).bind fun x ρ1 => (if isAbs lo = true then .ok none ρ1 else asI (evE T C lo n ρ1)).bind fun l ρ2 =>
      (if isAbs hi = true then .ok none ρ2 else asI (evE T C hi n ρ2)).bind fun h ρ3 => oko (slice (rs ρ3 x) l h) ρ3
  | .rev a, n, ρ => (evE T C a n ρ).bind fun x ρ1 => oko (revd (rs ρ1 x)) ρ1
  | .call f es, n, ρ => (evL T C es n ρ).bind fun os ρ1 => callF C n f os ρ1
  | .blt b es, n, ρ => (evL T C es n ρ).bind fun os ρ1 => oko (blt b (os.map (rs ρ1))) ρ1
  | .isi a t, n, ρ => (evE T C a n ρ).bind fun x ρ1 => okb (isTy t (rs ρ1 x)) ρ1
  | .app i e, n, ρ => if isL ρ i = true then (evE T C e n ρ).bind fun x ρ1 => R.opt (keep ρ1 x) fun p => appS i p.1 p.2 else .stuck
  | .pop i, _, ρ => popS i ρ
  | .get2 d k x, n, ρ => (evE T C d n ρ).bind fun a ρ1 => (evE T C k n ρ1).bind fun y ρ2 => (evE T C x n ρ2).bind fun z ρ3 => getS a y z ρ3
  | .sdef _ _ _, _, _ => .stuck
  | .comp elt tg k es ifs own, n, ρ => (iterF k (evL T C es n ρ)).bind fun p ρ1 => compEnd own ρ1 p.2 (walkL (compTurn own ρ1 p.2 tg (evTs T C ifs n) (evE T C elt n)) p.1 [] (wipe ρ1 own))
  | .comp2 elt t1 k1 e1 t2 k2 e2 ifs own, n, ρ => (iterF k1 (evL T C e1 n ρ)).bind fun p ρ1 => compEnd own ρ1 p.2 (walkL (compTurn2 own ρ1 p.2 t1 (fun ρ2 => iterF k2 (evL T C e2 n ρ2)) (slots t2)
      fun ρ3 ws2 => compTurn (slots t2) ρ3 ws2 t2 (evTs T C ifs n) (evE T C elt n)) p.1 [] (wipe ρ1 own))
  | .dcomp _ _ _ _ _ _ _ _, _, _ => .stuck
  | .told b, n, ρ => match n with
    | m + 2 => toldS T C m (evE T C b m ρ)
    | _ => .stuck
  | .fns fs a, n, ρ => (evE T C a n ρ).bind fun y ρ1 => fnS fs y ρ1
  | .callv i es, n, ρ => callvS C n i ρ (evL T C es n ρ)
termination_by structural e => e
def evL (T : Top) (C : Calls) : List E → Nat → Ev → R (List O)
  | [], _, ρ => .ok [] ρ
  | e :: es, n, ρ => (evE T C e n ρ).bind fun o ρ1 => (evL T C es n ρ1).bind fun os ρ2 => .ok (o :: os) ρ2
termination_by structural es => es
def evTs (T : Top) (C : Calls) : List E → Nat → Ev → R Bool
  | [], _, ρ => .ok true ρ
  | e :: es, n, ρ => ifB (asT (evE T C e n ρ)) (evTs T C es n) (fun ρ1 => .ok false ρ1)
termination_by structural es => es
def evAO (T : Top) (C : Calls) (stop : Bool) : List E → Nat → Ev → R O
  | [], _, _ => .stuck
  | e :: es, n, ρ => match es with
    | [] => evE T C e n ρ
    | _ :: _ => onB stop (evE T C e n ρ) (evAO T C stop es n)
termination_by structural es => es
end
/-! ### statements -/
mutual
/-- the slots that a statement stores to -/
def sets : S → List Nat
  | .set i _ => [i]
  | .setT ts _ => slotss ts
  | .par is _ => is
  | .aug i _ _ => [i]
  | .ite _ a b => setss a ++ setss b
  | .for_ t _ _ b => slots t ++ setss b
  | .while_ _ b => setss b
  | _ => []
def setss : List S → List Nat
  | [] => []
  | s :: ss => sets s ++ setss ss
end
def big : Nat := 1048576
/-- one item after the other; brk leaves -/
def forL (ws : List Nat) (ρ0 : Ev) (tg : Tg) (body : Ev → R Fl) : List D → Ev → R Fl
  | [], ρ => if stands ρ0 ρ ws = true then .ok .nx ρ else .stuck
  | x :: r, ρ => if stands ρ0 ρ ws = true then R.opt (bindT tg x ρ) fun ρ1 => (body ρ1).bind fun fl ρ2 => match fl with
      | .nx => forL ws ρ0 tg body r ρ2
      | .cont => forL ws ρ0 tg body r ρ2
      | .brk => .ok .nx ρ2
      | .ret o => .ok (.ret o) ρ2
    else .stuck
def whileL (test : Ev → R Bool) (body : Ev → R Fl) : Nat → Ev → R Fl
  | 0, _ => .stuck
  | m + 1, ρ => ifB (test ρ) (fun ρ1 => (body ρ1).bind fun fl ρ2 => match fl with
      | .nx => whileL test body m ρ2
      | .cont => whileL test body m ρ2
      | .brk => .ok .nx ρ2
      | .ret o => .ok (.ret o) ρ2) (fun ρ1 => .ok .nx ρ1)
/-- several names take several values -/
def assigns (ρ : Ev) : List Nat → List O → Option Ev
  | [], os => match os with | [] => some ρ | _ :: _ => none
  | i :: is, os => match os with
    | [] => none
    | o :: os => (assign ρ i o).bind fun ρ1 => assigns ρ1 is os
def augI (op : Bop) (a b : Int) : Option Int := match op with
  | .add => some (a + b)
  | .sub => some (a - b)
  | _ => none
def nxt (o : Option Ev) : R Fl := R.opt o fun ρ => .ok .nx ρ
/-- a list or dict handed back: the def's own -/
def give (ρ : Ev) : O → Option (O × Ev)
  | .bor i => match ρ[i]? with
    | some (some (.L false xs)) => some (.L xs, ρ.set i none)
    | some (some (.M false t kvs)) => some (.M t kvs, ρ.set i none)
    | _ => none
  | .F _ => none
  | o => some (o, ρ)
mutual
def evS (T : Top) (C : Calls) : S → Nat → Ev → R Fl
  | .ex e, n, ρ => (evE T C e n ρ).bind fun _ ρ1 => .ok .nx ρ1
  | .ret e, n, ρ => (evE T C e n ρ).bind fun o ρ1 => .ok (.ret o) ρ1
  | .retN, _, ρ => .ok (.ret (.d .non)) ρ
  | .set i e, n, ρ => (evE T C e n ρ).bind fun o ρ1 => nxt (assign ρ1 i o)
  | .setT ts e, n, ρ => (evE T C e n ρ).bind fun o ρ1 => match o with
    | .d x => nxt (bindT (.tp ts) x ρ1)
    | _ => .stuck
  | .par is es, n, ρ => (evL T C es n ρ).bind fun os ρ1 => R.grd ((walked os).all fun k => !is.contains k) (nxt (assigns ρ1 is os))
  | .setIx i k e, n, ρ => (evE T C e n ρ).bind fun o ρ1 => R.opt (keep ρ1 o) fun p => R.grd (isL p.2 i) ((evE T C k n p.2).bind fun y ρ2 => nxt (setAt ρ2 i y p.1))
  | .aug i op e, n, ρ => match ρ[i]? with
    | some (some (.d (.int a))) => (evE T C e n ρ).bind fun o ρ1 => R.opt (optInt o) fun b => R.opt (augI op a b) fun z => nxt (store ρ1 i (.d (.int z)))
    | _ => .stuck
  | .augIx _ _ _ _, _, _ => .stuck
  | .ite c a b, n, ρ => ifB (asT (evE T C c n ρ)) (evB T C a n) (evB T C b n)
  | .for_ tg k es b, n, ρ => (iterF k (evL T C es n ρ)).bind fun p ρ1 => R.grd (p.2.all fun i => !(slots tg ++ setss b).contains i) (forL p.2 ρ1 tg (evB T C b n) p.1 ρ1)
  | .while_ c b, n, ρ => whileL (fun ρ => asT (evE T C c n ρ)) (evB T C b n) big ρ
  | .raise c, _, ρ => .exc c ρ
  | .pass, _, ρ => .ok .nx ρ
  | .brk, _, ρ => .ok .brk ρ
  | .cont, _, ρ => .ok .cont ρ
termination_by structural s => s
def evB (T : Top) (C : Calls) : List S → Nat → Ev → R Fl
  | [], _, ρ => .ok .nx ρ
  | s :: ss, n, ρ => (evS T C s n ρ).bind fun fl ρ1 => match fl with
    | .nx => evB T C ss n ρ1
    | fl => .ok fl ρ1
termination_by structural ss => ss
end
/-! ### defs -/
structure Def where
  np : Nat
  nl : Nat
  body : List S
deriving Inhabited
/-- the caller's part of the slots: the first ones -/
def outs (k : Nat) (args ρ : Ev) : Option Ev := match k, args, ρ with
  | 0, _, _ => some []
  | k + 1, a :: args, r :: ρ => (match a with
    | some (.L true _) => (match r with
      | some (.L true xs) => some (some (W.L true xs))
      | _ => none)
    | some (.M true t _) => (match r with
      | some (.M true t' kvs) => if t == t' then some (some (W.M true t kvs)) else none
      | _ => none)
    | _ => some (none : Option W)).bind fun w => (outs k args ρ).map (w :: ·)
  | _ + 1, _, _ => none
def runD (T : Top) (C : Calls) (d : Def) (n : Nat) (args : Ev) : R O :=
  if args.length = d.np then match evB T C d.body n (args ++ List.replicate d.nl none) with
    | .ok fl ρ => (match fl with
      | .nx => R.opt (outs args.length args ρ) fun r => .ok (.d .non) r
      | .ret o => R.opt (give ρ o) fun p => R.opt (outs args.length args p.2) fun r => .ok p.1 r
      | _ => .stuck)
    | .exc c ρ => R.opt (outs args.length args ρ) fun r => .exc c r
    | .stuck => .stuck
  else .stuck
/-- the calls of level up to n -/
def calls (T : Top) (ds : List Def) : Nat → Calls
  | 0 => fun _ _ _ => .stuck
  | n + 1 => fun m f args => if m = n + 1 then (match ds[f]? with
      | some d => runD T (calls T ds n) d n args
      | none => .stuck) else calls T ds n m f args
/-- f(args) at level n -/
def call (T : Top) (ds : List Def) (n f : Nat) (args : Ev) : R O := calls T ds n n f args
theorem calls_le (T : Top) (ds : List Def) : ∀ {n m : Nat}, m ≤ n → calls T ds n m = calls T ds m m
  | 0, m, h => by
    have e : m = 0 := by omega
    rw [e]
  | n + 1, m, h => by
    by_cases e : m = n + 1
    · rw [e]
    · have h1 : calls T ds (n + 1) m = calls T ds n m := by
        funext f args
        show (if m = n + 1 then _ else calls T ds n m f args) = _
        rw [if_neg e]
      rw [h1]
      exact calls_le T ds (by omega)
theorem call_succ (T : Top) (ds : List Def) (n f : Nat) (args : Ev) : call T ds (n + 1) f args = match ds[f]? with
    | some d => runD T (calls T ds n) d n args
    | none => .stuck := by
  show (if n + 1 = n + 1 then _ else _) = _
  rw [if_pos rfl]
end Ev
/-! Ev1: how data stand in the abstract heap; states; the lifted judgement. -/
namespace Ev
open PySem PySem.Spec PyProof.Rows L2
/-- the world: the written part, the texts, the tables of code objects, the errors' classes -/
structure Wo where
  K : PySem.W.Frag
  ST : List Str
  TT : List (Addr × Str)
  cls : Nat → Value
  fa : Nat → Addr
  f1 : Nat → Bool
abbrev Fz := Addr → Prop
/-- a list that stands still: tracked, or written -/
def SL (Z : Wo) (F : Fz) (H : Hp) (a : Addr) (vs : List V) : Prop :=
  (F a ∧ Rd H a (.lst vs)) ∨
    ∃ (o : Obj) (its : Array Value) (n : Nat), Z.K.lookup a = some o ∧ o.cls = .type "list" ∧ o.dict = none ∧ o.data = .seq its n ∧ its.size ≤ sizeLine ∧ Vals vs its.toList
theorem SL.sq {Z : Wo} {F : Fz} {H : Hp} {a : Addr} {vs : List V} (h : SL Z F H a vs) : SqL Z.K H a vs := h.elim (fun x => .inl x.2) .inr
mutual
def Rp (Z : Wo) (F : Fz) (H : Hp) : D → V → Prop
  | .non, v => v = .non
  | .bl b, v => v = .bl b
  | .int i, v => v = .int i
  | .str n, v => ∃ x, Z.ST[n]? = some x ∧ v = .str x
  | .tup xs, v => ∃ a vs, v = .ref a ∧ SqT Z.K H a vs ∧ Rps Z F H xs vs
  | .lst xs, v => ∃ a vs, v = .ref a ∧ SL Z F H a vs ∧ Rps Z F H xs vs
def Rps (Z : Wo) (F : Fz) (H : Hp) : List D → List V → Prop
  | [], vs => vs = []
  | x :: xs, vs => ∃ v r, vs = v :: r ∧ Rp Z F H x v ∧ Rps Z F H xs r
end
/-- what data lean on stays -/
structure Up (F : Fz) (H : Hp) (F' : Fz) (H' : Hp) : Prop where
  tups : ∀ a vs, H a = some (.tup vs) → H' a = some (.tup vs)
  frzs : ∀ a o u, H a = some (.frz o u) → H' a = some (.frz o u)
  fin : ∀ a, F a → F' a
  fkeep : ∀ a vs, F a → H a = some (.lst vs) → H' a = some (.lst vs)
theorem Up.refl {F : Fz} {H : Hp} : Up F H F H := ⟨fun _ _ h => h, fun _ _ _ h => h, fun _ h => h, fun _ _ _ h => h⟩
theorem Up.of_same {F : Fz} {H H' : Hp} (h : Same H H') : Up F H F H' := ⟨fun _ _ e => h _ _ e, fun _ _ _ e => h _ _ e, fun _ h => h, fun _ _ _ e => h _ _ e⟩
section
variable {Z : Wo} {F F' : Fz} {H H' : Hp}
theorem Up.sqT {a : Addr} {vs : List V} (u : Up F H F' H') (h : SqT Z.K H a vs) : SqT Z.K H' a vs := by
  rcases h with (h | ⟨o, h⟩) | h
  · exact .inl (.inl (u.tups _ _ h))
  · exact .inl (.inr ⟨o, u.frzs _ _ _ h⟩)
  · exact .inr h
theorem Up.sl {a : Addr} {vs : List V} (u : Up F H F' H') (h : SL Z F H a vs) : SL Z F' H' a vs := by
  rcases h with ⟨f, h | ⟨o, h⟩⟩ | h
  · exact .inl ⟨u.fin _ f, .inl (u.fkeep _ _ f h)⟩
  · exact .inl ⟨u.fin _ f, .inr ⟨o, u.frzs _ _ _ h⟩⟩
  · exact .inr h
mutual
theorem Rp.up (u : Up F H F' H') : ∀ {x : D} {v : V}, Rp Z F H x v → Rp Z F' H' x v
  | .non, _, h => by simpa only [Rp] using h
  | .bl _, _, h => by simpa only [Rp] using h
  | .int _, _, h => by simpa only [Rp] using h
  | .str _, _, h => by simpa only [Rp] using h
  | .tup xs, v, h => by
    simp only [Rp] at h ⊢
    obtain ⟨a, vs, e, s, r⟩ := h
    exact ⟨a, vs, e, u.sqT s, Rps.up u r⟩
  | .lst xs, v, h => by
    simp only [Rp] at h ⊢
    obtain ⟨a, vs, e, s, r⟩ := h
    exact ⟨a, vs, e, u.sl s, Rps.up u r⟩
theorem Rps.up (u : Up F H F' H') : ∀ {xs : List D} {vs : List V}, Rps Z F H xs vs → Rps Z F' H' xs vs
  | [], _, h => by simpa only [Rps] using h
  | x :: xs, _, h => by
    simp only [Rps] at h ⊢
    obtain ⟨v, r, e, h1, h2⟩ := h
    exact ⟨v, r, e, Rp.up u h1, Rps.up u h2⟩
end
theorem Rps.nil : Rps Z F H [] [] := by simp only [Rps]
theorem Rps.cons {x : D} {v : V} {xs : List D} {vs : List V} (h : Rp Z F H x v) (t : Rps Z F H xs vs) : Rps Z F H (x :: xs) (v :: vs) := by
  simp only [Rps]
  exact ⟨v, vs, rfl, h, t⟩
theorem Rps.inv {x : D} {xs : List D} {vs : List V} (h : Rps Z F H (x :: xs) vs) : ∃ v r, vs = v :: r ∧ Rp Z F H x v ∧ Rps Z F H xs r := by simpa only [Rps] using h
theorem Rps.inv0 {vs : List V} (h : Rps Z F H [] vs) : vs = [] := by simpa only [Rps] using h
theorem Rps.len : ∀ {xs : List D} {vs : List V}, Rps Z F H xs vs → xs.length = vs.length
  | [], _, h => by rw [h.inv0]; rfl
  | x :: xs, _, h => by
    obtain ⟨v, r, e, h1, h2⟩ := h.inv
    rw [e, List.length_cons, List.length_cons, Rps.len h2]
theorem Rps.get : ∀ {xs : List D} {vs : List V} {i : Nat} {x : D}, Rps Z F H xs vs → xs[i]? = some x → ∃ v, vs[i]? = some v ∧ Rp Z F H x v
  | [], _, i, x, _, e => by simp at e
  | y :: xs, _, 0, x, h, e => by
    obtain ⟨v, r, e2, h1, h2⟩ := h.inv
    have : y = x := by simpa using e
    subst this
    exact ⟨v, by rw [e2]; rfl, h1⟩
  | y :: xs, _, i + 1, x, h, e => by
    obtain ⟨v, r, e2, h1, h2⟩ := h.inv
    obtain ⟨w, e3, h3⟩ := Rps.get (i := i) (x := x) h2 (by simpa using e)
    exact ⟨w, by rw [e2]; simpa using e3, h3⟩
theorem Rps.append : ∀ {xs ys : List D} {vs ws : List V}, Rps Z F H xs vs → Rps Z F H ys ws → Rps Z F H (xs ++ ys) (vs ++ ws)
  | [], _, _, _, h, t => by rw [h.inv0]; exact t
  | x :: xs, _, _, _, h, t => by
    obtain ⟨v, r, e, h1, h2⟩ := h.inv
    rw [e]
    exact .cons h1 (Rps.append h2 t)
theorem Rps.set {x : D} {v : V} (hx : Rp Z F H x v) : ∀ {xs : List D} {vs : List V} (i : Nat), Rps Z F H xs vs → Rps Z F H (xs.set i x) (vs.set i v)
  | [], _, i, h => by
    rw [h.inv0]
    exact .nil
  | y :: xs, _, 0, h => by
    obtain ⟨w, r, e, h1, h2⟩ := h.inv
    rw [e]
    exact .cons hx h2
  | y :: xs, _, i + 1, h => by
    obtain ⟨w, r, e, h1, h2⟩ := h.inv
    rw [e]
    exact .cons h1 (Rps.set hx i h2)
theorem Rps.take : ∀ {xs : List D} {vs : List V} (n : Nat), Rps Z F H xs vs → Rps Z F H (xs.take n) (vs.take n)
  | [], _, n, h => by
    rw [h.inv0]
    simpa using Rps.nil
  | x :: xs, _, 0, h => by simpa using Rps.nil
  | x :: xs, _, n + 1, h => by
    obtain ⟨w, r, e, h1, h2⟩ := h.inv
    rw [e]
    exact .cons h1 (Rps.take n h2)
theorem Rps.drop : ∀ {xs : List D} {vs : List V} (n : Nat), Rps Z F H xs vs → Rps Z F H (xs.drop n) (vs.drop n)
  | [], _, n, h => by
    rw [h.inv0]
    simpa using Rps.nil
  | x :: xs, _, 0, h => h
  | x :: xs, _, n + 1, h => by
    obtain ⟨w, r, e, h1, h2⟩ := h.inv
    rw [e]
    exact Rps.drop n h2
theorem Rps.reverse : ∀ {xs : List D} {vs : List V}, Rps Z F H xs vs → Rps Z F H xs.reverse vs.reverse
  | [], _, h => by
    rw [h.inv0]
    exact .nil
  | x :: xs, _, h => by
    obtain ⟨w, r, e, h1, h2⟩ := h.inv
    rw [e, List.reverse_cons, List.reverse_cons]
    exact (Rps.reverse h2).append (.cons h1 .nil)
end
/-! ### dicts -/
def keyD (Z : Wo) : Key → D → Prop
  | .inl i, x => x = .int i
  | .inr s, x => ∃ n, Z.ST[n]? = some s ∧ x = .str n
def DicK (Z : Wo) (F : Fz) (H : Hp) (p : Key × V) (q : D × D) : Prop := keyD Z p.1 q.1 ∧ Rp Z F H q.2 p.2
def DicT (Z : Wo) (F : Fz) (H : Hp) (p : List Key × V) (q : D × D) : Prop := (∃ ds, q.1 = .tup ds ∧ Paired (keyD Z) p.1 ds) ∧ Rp Z F H q.2 p.2
def Dic (Z : Wo) (F : Fz) (H : Hp) : Bool → Addr → List (D × D) → Prop
  | false, a, kvs => ∃ ps, H a = some (.dK ps) ∧ Paired (DicK Z F H) ps kvs
  | true, a, kvs => ∃ ps, H a = some (.dT ps) ∧ Paired (DicT Z F H) ps kvs
theorem Dic.up {Z : Wo} {F F' : Fz} {H H' : Hp} {t : Bool} {a : Addr} {kvs : List (D × D)} (u : Up F H F' H') (k : ∀ o, H a = some o → H' a = some o) (h : Dic Z F H t a kvs) : Dic Z F' H' t a kvs := by
  cases t with
  | false =>
    obtain ⟨ps, e, p⟩ := h
    exact ⟨ps, k _ e, L2.Paired.mapP p fun _ _ q => ⟨q.1, q.2.up u⟩⟩
  | true =>
    obtain ⟨ps, e, p⟩ := h
    exact ⟨ps, k _ e, L2.Paired.mapP p fun _ _ q => ⟨q.1, q.2.up u⟩⟩
/-- nothing there, but for a table of code objects -/
def NoO : Option HO → Prop
  | none => True
  | some (.tbl _) => True
  | some _ => False
theorem NoO.none {o : Option HO} (h : o = none) : NoO o := by
  rw [h]
  trivial
theorem NoO.tbl {u : HO} (h : NoO (some u)) : ∃ ps, u = .tbl ps := by
  cases u <;> first | exact ⟨_, rfl⟩ | exact h.elim
theorem NoO.of_not {o : Option HO} (h : ¬ ¬ NoO o) : NoO o := Classical.byContradiction h
/-! ### slots -/
def isOwn : W → Bool
  | .d _ => false
  | .F _ => false
  | _ => true
def RpW (Z : Wo) (F : Fz) (H : Hp) : W → V → Prop
  | .d x, v => Rp Z F H x v
  | .L _ xs, v => ∃ a vs, v = .ref a ∧ H a = some (.lst vs) ∧ Rps Z F H xs vs ∧ ¬ F a
  | .M _ t kvs, v => ∃ a, v = .ref a ∧ Dic Z F H t a kvs ∧ ¬ F a
  | .F f, v => Z.f1 f = true ∧ v = .ref (Z.fa f)
def Own (σ : L2.St) (ρ : Ev) (a : Addr) : Prop := ∃ (i : Nat) (w : W), ρ[i]? = some (some w) ∧ isOwn w = true ∧ σ[i]? = some (some (V.ref a))
structure Sta (Z : Wo) (F : Fz) (H : Hp) (σ : L2.St) (ρ : Ev) : Prop where
  len : ρ.length = σ.length
  rep : ∀ (i : Nat) (w : W), ρ[i]? = some (some w) → ∃ v, σ[i]? = some (some v) ∧ RpW Z F H w v
  inj : ∀ (i j : Nat) (wi wj : W) (a : Addr), ρ[i]? = some (some wi) → ρ[j]? = some (some wj) → isOwn wi = true → isOwn wj = true → σ[i]? = some (some (.ref a)) → σ[j]? = some (some (.ref a)) → i = j
  tabs : LamX.Tabs Z.TT H
  ft : ∀ a, F a → ¬ NoO (H a)
structure Stp (Z : Wo) (ow : Addr → Prop) (F : Fz) (H : Hp) (F' : Fz) (H' : Hp) : Prop where
  keep : ∀ b o, H b = some o → ¬ ow b → (∀ ps, o ≠ .tbl ps) → H' b = some o
  there : ∀ b, ¬ NoO (H b) → ¬ NoO (H' b)
  fin : ∀ b, F b → F' b
  fout : ∀ b, F' b → F b ∨ NoO (H b) ∨ ow b
section
variable {Z : Wo} {F F' F1 F2 : Fz} {H H' H1 H2 : Hp} {σ : L2.St} {ρ ρ' ρ1 ρ2 : Ev} {ow ow' : Addr → Prop}
theorem Stp.refl : Stp Z ow F H F H := ⟨fun _ _ h _ _ => h, fun _ h => h, fun _ h => h, fun _ h => .inl h⟩
theorem Stp.of_same (h : Same H H') : Stp Z ow F H F H' := ⟨fun _ _ e _ _ => h _ _ e, fun b n => by
  cases q : H b with
  | none => exact absurd (.none q) n
  | some o =>
    rw [h _ _ q, ← q]
    exact n, fun _ h => h, fun _ h => .inl h⟩
theorem Stp.trans (a : Stp Z ow F H F1 H1) (b : Stp Z ow' F1 H1 F2 H2) (o : ∀ x, ow' x → ow x ∨ NoO (H x)) : Stp Z ow F H F2 H2 := by
  refine ⟨fun x u e n t => ?_, fun x n => b.there _ (a.there _ n), fun x f => b.fin _ (a.fin _ f), fun x f => ?_⟩
  · refine b.keep x u (a.keep x u e n t) (fun z => ?_) t
    rcases o x z with z | z
    · exact n z
    · rw [e] at z
      obtain ⟨ps, z⟩ := z.tbl
      exact t ps z
  · rcases b.fout x f with z | z | z
    · exact a.fout x z
    · exact .inr (.inl (.of_not fun y => a.there x y z))
    · rcases o x z with z | z
      · exact .inr (.inr z)
      · exact .inr (.inl z)
theorem Sta.kind (s : Sta Z F H σ ρ) {a : Addr} (h : Own σ ρ a) : ((∃ vs, H a = some (.lst vs)) ∨ (∃ ps, H a = some (.dK ps)) ∨ ∃ ps, H a = some (.dT ps)) ∧ ¬ F a := by
  obtain ⟨i, w, e1, e2, e3⟩ := h
  obtain ⟨v, e4, r⟩ := s.rep i w e1
  rw [e3] at e4
  have e5 : v = .ref a := (Option.some.inj (Option.some.inj e4)).symm
  subst e5
  cases w with
  | d x => cases e2
  | F f => cases e2
  | L p xs =>
    obtain ⟨b, vs, e, h1, _, h2⟩ := r
    cases e
    exact ⟨.inl ⟨vs, h1⟩, h2⟩
  | M p t kvs =>
    obtain ⟨b, e, h1, h2⟩ := r
    cases e
    refine ⟨?_, h2⟩
    cases t with
    | false =>
      obtain ⟨ps, h1, _⟩ := h1
      exact .inr (.inl ⟨ps, h1⟩)
    | true =>
      obtain ⟨ps, h1, _⟩ := h1
      exact .inr (.inr ⟨ps, h1⟩)
theorem Sta.up (s : Sta Z F H σ ρ) (p : Stp Z (Own σ ρ) F H F' H') : Up F H F' H' := by
  refine ⟨fun a vs e => p.keep a _ e (fun z => ?_) (fun _ q => by cases q), fun a o u e => p.keep a _ e (fun z => ?_) (fun _ q => by cases q), p.fin, fun a vs f e => p.keep a _ e (fun z => (s.kind z).2 f) (fun _ q => by cases q)⟩
  · rcases (s.kind z).1 with ⟨_, q⟩ | ⟨_, q⟩ | ⟨_, q⟩ <;> · rw [e] at q; cases q
  · rcases (s.kind z).1 with ⟨_, q⟩ | ⟨_, q⟩ | ⟨_, q⟩ <;> · rw [e] at q; cases q
theorem RpW.up {w : W} {v : V} (u : Up F H F' H') (k : ∀ a, v = .ref a → isOwn w = true → (∀ o, H a = some o → H' a = some o) ∧ ¬ F' a) (h : RpW Z F H w v) : RpW Z F' H' w v := by
  cases w with
  | d x => exact Rp.up u h
  | F f => exact h
  | L p xs =>
    obtain ⟨a, vs, e, h1, h2, h3⟩ := h
    obtain ⟨k1, k2⟩ := k a e rfl
    exact ⟨a, vs, e, k1 _ h1, h2.up u, k2⟩
  | M p t kvs =>
    obtain ⟨a, e, h1, h2⟩ := h
    obtain ⟨k1, k2⟩ := k a e rfl
    exact ⟨a, e, h1.up u k1, k2⟩
/-- new objects, or tables: the state as it is -/
theorem Sta.same (s : Sta Z F H σ ρ) (h : Same H H') : Sta Z F H' σ ρ := by
  refine ⟨s.len, fun i w e => ?_, s.inj, s.tabs.ext h, fun a f => (Stp.of_same (Z := Z) (ow := fun _ => False) (F := F) h).there a (s.ft a f)⟩
  obtain ⟨v, e2, r⟩ := s.rep i w e
  refine ⟨v, e2, r.up (.of_same h) fun a ea ho => ⟨fun o q => h _ _ q, ?_⟩⟩
  subst ea
  exact (s.kind ⟨i, w, e, ho, e2⟩).2
theorem own_of {i : Nat} {w : W} {a : Addr} (e : ρ[i]? = some (some w)) (o : isOwn w = true) (e2 : σ[i]? = some (some (.ref a))) : Own σ ρ a := ⟨i, w, e, o, e2⟩
end
/-! ### what an expression gives -/
def Out (Z : Wo) (F : Fz) (H : Hp) (σ : L2.St) (ρ : Ev) : O → V → Prop
  | .d x, v => Rp Z F H x v
  | .L xs, v => ∃ a vs, v = .ref a ∧ H a = some (.lst vs) ∧ Rps Z F H xs vs ∧ ¬ F a ∧ ¬ Own σ ρ a
  | .M t kvs, v => ∃ a, v = .ref a ∧ Dic Z F H t a kvs ∧ ¬ F a ∧ ¬ Own σ ρ a
  | .bor i, v => σ[i]? = some (some v)
  | .F f, v => Z.f1 f = true ∧ v = .ref (Z.fa f)
def isNew : O → Bool
  | .L _ => true
  | .M _ _ => true
  | _ => false
/-- a new list or dict was not there -/
def Frs (H : Hp) (o : O) (v : V) : Prop := isNew o = true → ∀ a, v = .ref a → NoO (H a)
/-- a value as it stands -/
def Rv (Z : Wo) (F : Fz) (H : Hp) : O → V → Prop
  | .d x, v => Rp Z F H x v
  | .L xs, v => ∃ a vs, v = .ref a ∧ H a = some (.lst vs) ∧ Rps Z F H xs vs
  | .M t kvs, v => ∃ a, v = .ref a ∧ Dic Z F H t a kvs
  | .bor _, _ => True
  | .F f, v => Z.f1 f = true ∧ v = .ref (Z.fa f)
section
variable {Z : Wo} {F F' F1 F2 : Fz} {H H' H1 H2 : Hp} {σ : L2.St} {ρ ρ' ρ1 ρ2 : Ev}
theorem Out.dp {x : D} {v : V} (h : Out Z F H σ ρ (.d x) v) : Rp Z F H x v := h
theorem Out.rv (s : Sta Z F H σ ρ) {o : O} {v : V} (h : Out Z F H σ ρ o v) : Rv Z F H (rs ρ o) v := by
  cases o with
  | d x => exact h
  | F f => exact h
  | L xs =>
    obtain ⟨a, vs, e, h1, h2, _⟩ := h
    exact ⟨a, vs, e, h1, h2⟩
  | M t kvs =>
    obtain ⟨a, e, h1, _⟩ := h
    exact ⟨a, e, h1⟩
  | bor i =>
    have e : σ[i]? = some (some v) := h
    cases e2 : ρ[i]? with
    | none => simp only [rs, e2, Rv]
    | some x =>
      cases x with
      | none => simp only [rs, e2, Rv]
      | some w =>
        obtain ⟨v', e3, r⟩ := s.rep i w e2
        rw [e] at e3
        have e4 : v = v' := Option.some.inj (Option.some.inj e3)
        subst e4
        cases w with
        | d x => simp only [rs, e2, Rv]
        | F f => simp only [rs, e2, Rv]
        | L p xs =>
          obtain ⟨a, vs, e, h1, h2, _⟩ := r
          simp only [rs, e2, Rv]
          exact ⟨a, vs, e, h1, h2⟩
        | M p t kvs =>
          obtain ⟨a, e, h1, _⟩ := r
          simp only [rs, e2, Rv]
          exact ⟨a, e, h1⟩
/-- the caller's lists in the slots stay there -/
def isP : W → Bool
  | .L p _ => p
  | .M p _ _ => p
  | .d _ => false
  | .F _ => false
def Pk (σ0 : L2.St) (ρ0 : Ev) (σ1 : L2.St) (ρ1 : Ev) : Prop := ∀ (i : Nat) (w : W), ρ1[i]? = some (some w) → isP w = true → (∃ w0, ρ0[i]? = some (some w0) ∧ isP w0 = true) ∧ σ1[i]? = σ0[i]?
theorem Pk.refl {σ : L2.St} {ρ : Ev} : Pk σ ρ σ ρ := fun i w h p => ⟨⟨w, h, p⟩, rfl⟩
theorem Pk.trans {σ0 σ1 σ2 : L2.St} {ρ0 ρ1 ρ2 : Ev} (a : Pk σ0 ρ0 σ1 ρ1) (b : Pk σ1 ρ1 σ2 ρ2) : Pk σ0 ρ0 σ2 ρ2 := fun i w h p => by
  obtain ⟨⟨w1, h1, p1⟩, e1⟩ := b i w h p
  obtain ⟨h0, e0⟩ := a i w1 h1 p1
  exact ⟨h0, e1.trans e0⟩
/-- from one state to a later one -/
structure Path (Z : Wo) (σ0 : L2.St) (F0 : Fz) (H0 : Hp) (ρ0 : Ev) (σ1 : L2.St) (F1 : Fz) (H1 : Hp) (ρ1 : Ev) : Prop where
  st : Sta Z F1 H1 σ1 ρ1
  sp : Stp Z (Own σ0 ρ0) F0 H0 F1 H1
  sub : ∀ b, Own σ1 ρ1 b → Own σ0 ρ0 b ∨ NoO (H0 b)
  pp : Pk σ0 ρ0 σ1 ρ1
theorem Path.refl (s : Sta Z F H σ ρ) : Path Z σ F H ρ σ F H ρ := ⟨s, .refl, fun _ h => .inl h, .refl⟩
theorem Path.trans {σ0 σ1 σ2 : L2.St} {F0 : Fz} {H0 : Hp} {ρ0 : Ev} (a : Path Z σ0 F0 H0 ρ0 σ1 F1 H1 ρ1) (b : Path Z σ1 F1 H1 ρ1 σ2 F2 H2 ρ2) : Path Z σ0 F0 H0 ρ0 σ2 F2 H2 ρ2 := by
  refine ⟨b.st, a.sp.trans b.sp a.sub, fun x h => ?_, a.pp.trans b.pp⟩
  rcases b.sub x h with z | z
  · exact a.sub x z
  · exact .inr (.of_not fun y => a.sp.there x y z)
theorem Path.same {σ0 σ1 : L2.St} {F0 : Fz} {H0 : Hp} {ρ0 : Ev} (a : Path Z σ0 F0 H0 ρ0 σ1 F1 H1 ρ1) (h : Same H1 H2) : Path Z σ0 F0 H0 ρ0 σ1 F1 H2 ρ1 :=
  a.trans ⟨a.st.same h, .of_same h, fun _ z => .inl z, .refl⟩
/-- a value kept over a further step -/
theorem Out.step {σ' : L2.St} (s : Sta Z F H σ ρ) (p : Path Z σ F H ρ σ' F' H' ρ') (e : ∀ (i : Nat) (v : V), σ[i]? = some (some v) → σ'[i]? = some (some v)) {o : O} {v : V} (h : Out Z F H σ ρ o v) : Out Z F' H' σ' ρ' o v := by
  have u := s.up p.sp
  have sp := p.sp
  cases o with
  | d x => exact Rp.up u h
  | F f => exact h
  | L xs =>
    obtain ⟨a, vs, e, h1, h2, h3, h4⟩ := h
    refine ⟨a, vs, e, sp.keep _ _ h1 h4 (fun _ q => by cases q), h2.up u, fun z => ?_, fun z => ?_⟩
    · rcases sp.fout a z with z | z | z
      · exact h3 z
      · rw [h1] at z; cases z
      · exact h4 z
    · rcases p.sub _ z with z | z
      · exact h4 z
      · rw [h1] at z; cases z
  | M t kvs =>
    obtain ⟨a, e, h1, h3, h4⟩ := h
    have hk : ∃ o, H a = some o ∧ ∀ ps, o ≠ .tbl ps := by
      cases t with
      | false =>
        obtain ⟨ps, q, _⟩ := h1
        exact ⟨_, q, fun _ z => by cases z⟩
      | true =>
        obtain ⟨ps, q, _⟩ := h1
        exact ⟨_, q, fun _ z => by cases z⟩
    obtain ⟨o, ho, hn⟩ := hk
    refine ⟨a, e, h1.up u fun o' q => ?_, fun z => ?_, fun z => ?_⟩
    · rw [ho] at q
      cases q
      exact sp.keep _ _ ho h4 hn
    · rcases sp.fout a z with z | z | z
      · exact h3 z
      · rw [ho] at z; obtain ⟨ps, z⟩ := z.tbl; exact hn ps z
      · exact h4 z
    · rcases p.sub _ z with z | z
      · exact h4 z
      · rw [ho] at z; obtain ⟨ps, z⟩ := z.tbl; exact hn ps z
  | bor i => exact e i v h
theorem Frs.back {σ0 : L2.St} {F0 : Fz} {H0 : Hp} {ρ0 : Ev} (p : Path Z σ0 F0 H0 ρ0 σ F H ρ) {o : O} {v : V} (h : Frs H o v) : Frs H0 o v := fun n a e => by
  exact .of_not fun y => p.sp.there a y (h n a e)
end
/-! ### the lifted judgement: what is wanted of what the evaluator gives -/
section
variable {Z : Wo} {E : XK} {α β γ δ : Type}
/-- how a result stands: relation of the start's heap, the end's -/
abbrev Rel (α β : Type) := L2.St → Hp → Fz → Hp → Ev → α → β → Prop
def PostG (Z : Wo) (E : XK) (rel : Rel α β) (σ : L2.St) (F0 : Fz) (H0 : Hp) (ρ0 : Ev) (r : R α) (Q : β → Hp → Prop) : Prop := match r with
  | .ok a ρ' => ∀ b F' H', Path Z σ F0 H0 ρ0 σ F' H' ρ' → rel σ H0 F' H' ρ' a b → Q b H'
  | .exc c ρ' => ∀ F' H', Path Z σ F0 H0 ρ0 σ F' H' ρ' → E (Z.cls c) none H'
  | .stuck => False
def LG (Z : Wo) (E : XK) (rel : Rel α β) (f : Ev → R α) : L2.St → Hp → (β → Hp → Prop) → Prop := fun σ H Q =>
  ∃ F0 H0 ρ0 F ρ, Path Z σ F0 H0 ρ0 σ F H ρ ∧ PostG Z E rel σ F0 H0 ρ0 (f ρ) Q
/-- a part runs -/
theorem runE {rel : Rel α β} {rel' : Rel γ δ} {σ : L2.St} {F0 F1 : Fz} {H0 H1 : Hp} {ρ0 ρ1 : Ev} {g : Ev → R α} {k : α → Ev → R γ} {Q : δ → Hp → Prop} {Q2 : β → Hp → Prop}
    (p : Path Z σ F0 H0 ρ0 σ F1 H1 ρ1) (post : PostG Z E rel' σ F0 H0 ρ0 ((g ρ1).bind k) Q)
    (h : ∀ y ρ2 b F2 H2, g ρ1 = .ok y ρ2 → Path Z σ F1 H1 ρ1 σ F2 H2 ρ2 → Path Z σ F0 H0 ρ0 σ F2 H2 ρ2 → rel σ H1 F2 H2 ρ2 y b → PostG Z E rel' σ F0 H0 ρ0 (k y ρ2) Q → Q2 b H2) : LG Z E rel g σ H1 Q2 := by
  refine ⟨F1, H1, ρ1, F1, ρ1, .refl p.st, ?_⟩
  cases e : g ρ1 with
  | ok a ρ2 =>
    rw [e] at post
    exact fun b F' H' q r => h a ρ2 b F' H' e q (p.trans q) r post
  | exc c ρ2 =>
    rw [e] at post
    exact fun F' H' q => post F' H' (p.trans q)
  | stuck =>
    rw [e] at post
    exact post.elim
theorem run {rel : Rel α β} {rel' : Rel γ δ} {σ : L2.St} {F0 F1 : Fz} {H0 H1 : Hp} {ρ0 ρ1 : Ev} {g : Ev → R α} {k : α → Ev → R γ} {Q : δ → Hp → Prop} {Q2 : β → Hp → Prop}
    (p : Path Z σ F0 H0 ρ0 σ F1 H1 ρ1) (post : PostG Z E rel' σ F0 H0 ρ0 ((g ρ1).bind k) Q)
    (h : ∀ y ρ2 b F2 H2, Path Z σ F1 H1 ρ1 σ F2 H2 ρ2 → Path Z σ F0 H0 ρ0 σ F2 H2 ρ2 → rel σ H1 F2 H2 ρ2 y b → PostG Z E rel' σ F0 H0 ρ0 (k y ρ2) Q → Q2 b H2) : LG Z E rel g σ H1 Q2 :=
  runE p post fun y ρ2 b F2 H2 _ => h y ρ2 b F2 H2
/-- the relation of an expression's result, of a test's, of a slice's bound -/
def relE (Z : Wo) : Rel O V := fun σ H0 F H ρ o v => Out Z F H σ ρ o v ∧ Frs H0 o v
def relT : Rel Bool Bool := fun _ _ _ _ _ a b => b = a
abbrev LE (Z : Wo) (E : XK) (f : Ev → R O) : TE := LG Z E (relE Z) f
abbrev LT (Z : Wo) (E : XK) (f : Ev → R Bool) : TT := LG Z E relT f
/-- what a rule by values gives: nothing is changed, a new list or dict is new -/
def NewO (Z : Wo) (F : Fz) (H : Hp) : O → V → Hp → Prop
  | .d x, v, H' => Same H H' ∧ Rp Z F H' x v
  | .L xs, v, H' => Same H H' ∧ ∃ a vs, v = .ref a ∧ H a = none ∧ H' a = some (.lst vs) ∧ Rps Z F H' xs vs
  | .M t kvs, v, H' => Same H H' ∧ ∃ a, v = .ref a ∧ H a = none ∧ H' a ≠ none ∧ Dic Z F H' t a kvs
  | .bor _, _, _ => False
  | .F f, v, H' => Same H H' ∧ Z.f1 f = true ∧ v = .ref (Z.fa f)
theorem NewO.here {F : Fz} {H : Hp} {x : D} {v : V} (h : Rp Z F H x v) : NewO Z F H (.d x) v H := ⟨.refl H, h⟩
theorem fin_new {σ : L2.St} {F0 F : Fz} {H0 H H' : Hp} {ρ0 ρ : Ev} {o : O} {v : V} {Q : VK} (p : Path Z σ F0 H0 ρ0 σ F H ρ) (post : PostG Z E (relE Z) σ F0 H0 ρ0 (.ok o ρ) Q) (n : NewO Z F H o v H') : Q v H' := by
  have nF : ∀ a, H a = none → ¬ F a := fun a e f => p.st.ft a f (.none e)
  have nO : ∀ a, H a = none → ¬ Own σ ρ a := fun a e z => by
    rcases (p.st.kind z).1 with ⟨_, q⟩ | ⟨_, q⟩ | ⟨_, q⟩ <;> · rw [e] at q; cases q
  have n0 : ∀ a, H a = none → NoO (H0 a) := fun a e => .of_not fun y => p.sp.there a y (.none e)
  cases o with
  | d x => exact post v F H' (p.same n.1) ⟨n.2, fun z => by cases z⟩
  | F f => exact post v F H' (p.same n.1) ⟨n.2, fun z => by cases z⟩
  | L xs =>
    obtain ⟨sm, a, vs, rfl, e, h1, h2⟩ := n
    exact post _ F H' (p.same sm) ⟨⟨a, vs, rfl, h1, h2, nF a e, nO a e⟩, fun _ b q => by cases q; exact n0 a e⟩
  | M t kvs =>
    obtain ⟨sm, a, rfl, e, _, h2⟩ := n
    exact post _ F H' (p.same sm) ⟨⟨a, rfl, h2, nF a e, nO a e⟩, fun _ b q => by cases q; exact n0 a e⟩
  | bor i => exact n.elim
end
end Ev
/-! Ev2: lists of results, lists that are kept, what a call hands over. -/
namespace Ev
open PySem PySem.Spec PyProof.Rows L2
section
variable {Z : Wo} {E : XK} {F F' F0 F1 F2 : Fz} {H H' H0 H1 H2 : Hp} {σ σ0 σ1 : L2.St} {ρ ρ' ρ0 ρ1 ρ2 : Ev}
/-- a new object is none of these -/
def Apart (a : Addr) : List O → List V → Prop
  | o :: os, v :: vs => (isNew o = true → v ≠ .ref a) ∧ Apart a os vs
  | _, _ => True
def OutL (Z : Wo) (H0 : Hp) (F : Fz) (H : Hp) (σ : L2.St) (ρ : Ev) : List O → List V → Prop
  | [], vs => vs = []
  | o :: os, vs => ∃ v r, vs = v :: r ∧ Out Z F H σ ρ o v ∧ Frs H0 o v ∧ (isNew o = true → ∀ a, v = .ref a → Apart a os r) ∧ OutL Z H0 F H σ ρ os r
def relL (Z : Wo) : Rel (List O) (List V) := fun σ H0 F H ρ os vs => OutL Z H0 F H σ ρ os vs
abbrev LA (Z : Wo) (E : XK) (f : Ev → R (List O)) : TA := LG Z E (relL Z) f
theorem OutL.len : ∀ {os : List O} {vs : List V}, OutL Z H0 F H σ ρ os vs → os.length = vs.length
  | [], _, h => by
    have e : _ = [] := h
    rw [e]; rfl
  | o :: os, _, h => by
    obtain ⟨v, r, e, _, _, _, t⟩ := h
    rw [e, List.length_cons, List.length_cons, OutL.len t]
theorem Apart.of_new {a : Addr} : ∀ {os : List O} {vs : List V}, ¬ NoO (H1 a) → OutL Z H1 F H σ ρ os vs → Apart a os vs
  | [], _, _, _ => by unfold Apart; trivial
  | o :: os, _, n, h => by
    obtain ⟨v, r, e, _, f, _, t⟩ := h
    rw [e]
    exact ⟨fun hn q => n (f hn a q), Apart.of_new n t⟩
theorem OutL.back {σ0 : L2.St} {F0 : Fz} {H0 : Hp} {ρ0 : Ev} (p : Path Z σ0 F0 H0 ρ0 σ1 F1 H1 ρ1) : ∀ {os : List O} {vs : List V}, OutL Z H1 F H σ ρ os vs → OutL Z H0 F H σ ρ os vs
  | [], _, h => h
  | o :: os, _, h => by
    obtain ⟨v, r, e, h1, f, a, t⟩ := h
    exact ⟨v, r, e, h1, f.back p, a, OutL.back p t⟩
theorem new_there {o : O} {v : V} {a : Addr} (h : Out Z F H σ ρ o v) (n : isNew o = true) (e : v = .ref a) : ¬ NoO (H a) := by
  cases o with
  | d x => cases n
  | F f => cases n
  | L xs =>
    obtain ⟨b, vs, e2, h1, _⟩ := h
    rw [e] at e2
    cases e2
    rw [h1]; exact id
  | M t kvs =>
    obtain ⟨b, e2, h1, _⟩ := h
    rw [e] at e2
    cases e2
    cases t with
    | false =>
      obtain ⟨ps, q, _⟩ := h1
      rw [q]; exact id
    | true =>
      obtain ⟨ps, q, _⟩ := h1
      rw [q]; exact id
  | bor i => cases n
/-- what is frozen -/
def frz (F : Fz) (a : Addr) : Fz := fun b => F b ∨ b = a
theorem Up.frz {a : Addr} : Up F H (frz F a) H := ⟨fun _ _ h => h, fun _ _ _ h => h, fun _ h => .inl h, fun _ _ _ h => h⟩
theorem getset {ρ : Ev} {i j : Nat} {w : Option W} {x : Option W} (e : (ρ.set i w)[j]? = some x) : (j = i ∧ x = w ∧ i < ρ.length) ∨ (j ≠ i ∧ ρ[j]? = some x) := by
  by_cases h : j = i
  · subst h
    have hl : j < ρ.length := by
      have z := (List.getElem?_eq_some_iff.mp e).1
      rwa [List.length_set] at z
    rw [List.getElem?_set_self hl] at e
    exact .inl ⟨rfl, (Option.some.inj e).symm, hl⟩
  · rw [List.getElem?_set_ne (Ne.symm h)] at e
    exact .inr ⟨h, e⟩
/-- a slot that takes something that is not the caller's -/
theorem Pk.set_d {i : Nat} {w : W} {σ : L2.St} {ρ : Ev} (e : isP w = false) : Pk σ ρ σ (ρ.set i (some w)) := fun j u h p => by
  rcases getset h with ⟨_, z, _⟩ | ⟨_, z⟩
  · cases z
    rw [e] at p
    cases p
  · exact ⟨⟨u, z, p⟩, rfl⟩
/-- a new list stands still from now on -/
theorem frz_new {a : Addr} (p : Path Z σ0 F0 H0 ρ0 σ F H ρ) (h0 : NoO (H0 a)) (h1 : ¬ NoO (H a)) (nO : ¬ Own σ ρ a) : Path Z σ0 F0 H0 ρ0 σ (frz F a) H ρ := by
  refine ⟨⟨p.st.len, fun i w e => ?_, p.st.inj, p.st.tabs, fun b f => ?_⟩, ⟨p.sp.keep, p.sp.there, fun b f => .inl (p.sp.fin _ f), fun b f => ?_⟩, p.sub, p.pp⟩
  · obtain ⟨v, e2, r⟩ := p.st.rep i w e
    refine ⟨v, e2, r.up .frz fun b eb ho => ⟨fun _ q => q, fun f => ?_⟩⟩
    subst eb
    rcases f with f | f
    · exact (p.st.kind (own_of e ho e2)).2 f
    · subst f
      exact nO (own_of e ho e2)
  · rcases f with f | rfl
    · exact p.st.ft b f
    · exact h1
  · rcases f with f | rfl
    · exact p.sp.fout _ f
    · exact .inr (.inl h0)
/-- a slot's own list stands still from now on -/
theorem frz_own {i : Nat} {a : Addr} {xs : List D} {q : Bool} (p : Path Z σ0 F0 H0 ρ0 σ F H ρ) (e : ρ[i]? = some (some (.L q xs))) (e2 : σ[i]? = some (some (.ref a))) :
    Path Z σ0 F0 H0 ρ0 σ (frz F a) H (ρ.set i (some (.d (.lst xs)))) ∧ Rp Z (frz F a) H (.lst xs) (.ref a) := by
  obtain ⟨v, e3, b, vs, e4, h1, h2, h3⟩ := p.st.rep i _ e
  rw [e2] at e3
  have e5 := Option.some.inj (Option.some.inj e3)
  subst e4
  cases e5
  have ow : Own σ ρ a := own_of e rfl e2
  have rp : Rp Z (frz F a) H (.lst xs) (.ref a) := by
    simp only [Rp]
    exact ⟨a, vs, rfl, .inl ⟨.inr rfl, .inl h1⟩, h2.up .frz⟩
  have sub : ∀ b, Own σ (ρ.set i (some (.d (.lst xs)))) b → Own σ ρ b ∧ b ≠ a := fun b ⟨j, w, ej, ho, es⟩ => by
    rcases getset ej with ⟨rfl, z, _⟩ | ⟨hn, z⟩
    · cases z
      cases ho
    · refine ⟨own_of z ho es, fun q => hn ?_⟩
      subst q
      exact p.st.inj _ _ _ _ _ z e ho rfl es e2
  refine ⟨⟨⟨by rw [List.length_set]; exact p.st.len, fun j w ej => ?_, fun j k wj wk b ej ek hj hk sj sk => ?_, p.st.tabs, fun b f => ?_⟩, ⟨p.sp.keep, p.sp.there, fun b f => .inl (p.sp.fin _ f), fun b f => ?_⟩, fun b h => p.sub b (sub b h).1, p.pp.trans (Pk.set_d (e := rfl))⟩, rp⟩
  · rcases getset ej with ⟨rfl, z, _⟩ | ⟨hn, z⟩
    · cases z
      exact ⟨_, e2, rp⟩
    · obtain ⟨v, e6, r⟩ := p.st.rep j w z
      refine ⟨v, e6, r.up .frz fun b eb ho => ⟨fun _ q => q, fun f => ?_⟩⟩
      subst eb
      rcases f with f | f
      · exact (p.st.kind (own_of z ho e6)).2 f
      · subst f
        exact hn (p.st.inj _ _ _ _ _ z e ho rfl e6 e2)
  · rcases getset ej with ⟨rfl, z, _⟩ | ⟨_, z⟩
    · cases z
      cases hj
    · rcases getset ek with ⟨rfl, z2, _⟩ | ⟨_, z2⟩
      · cases z2
        cases hk
      · exact p.st.inj _ _ _ _ _ z z2 hj hk sj sk
  · rcases f with f | rfl
    · exact p.st.ft b f
    · rw [h1]; exact id
  · rcases f with f | rfl
    · exact p.sp.fout _ f
    · rcases p.sub _ ow with z | z
      · exact .inr (.inr z)
      · exact .inr (.inl z)
/-- what a value is frozen to -/
def FrE (F F2 : Fz) (o : O) (v : V) : Prop := ∀ b, F2 b → F b ∨ (v = .ref b ∧ (isNew o = true ∨ ∃ i, o = .bor i))
theorem keep_ok {o : O} {v : V} {x : D} (p : Path Z σ0 F0 H0 ρ0 σ F H ρ) (h : Out Z F H σ ρ o v) (f : Frs H0 o v) (e : keep ρ o = some (x, ρ2)) :
    ∃ F2, Path Z σ0 F0 H0 ρ0 σ F2 H ρ2 ∧ Rp Z F2 H x v ∧ Up F H F2 H ∧ (∀ b, F2 b → F b ∨ (v = .ref b ∧ (isNew o = true ∨ Own σ ρ b))) ∧ (∀ b, Own σ ρ2 b → Own σ ρ b) := by
  cases o with
  | d y =>
    simp only [keep, Option.some.injEq, Prod.mk.injEq] at e
    obtain ⟨rfl, rfl⟩ := e
    exact ⟨F, p, h, .refl, fun _ z => .inl z, fun _ z => z⟩
  | L xs =>
    simp only [keep, Option.some.injEq, Prod.mk.injEq] at e
    obtain ⟨rfl, rfl⟩ := e
    obtain ⟨a, vs, rfl, h1, h2, h3, h4⟩ := h
    refine ⟨_, frz_new p (f rfl a rfl) (by rw [h1]; exact id) h4, ?_, .frz, fun b z => ?_, fun _ z => z⟩
    · simp only [Rp]
      exact ⟨a, vs, rfl, .inl ⟨.inr rfl, .inl h1⟩, h2.up .frz⟩
    · rcases z with z | rfl
      · exact .inl z
      · exact .inr ⟨rfl, .inl rfl⟩
  | M t kvs => simp only [keep] at e; cases e
  | F f => simp only [keep] at e; cases e
  | bor i =>
    have hs : σ[i]? = some (some v) := h
    simp only [keep] at e
    split at e
    · rename_i xs q
      simp only [Option.some.injEq, Prod.mk.injEq] at e
      obtain ⟨rfl, rfl⟩ := e
      obtain ⟨v', e3, a, vs, e4, _⟩ := p.st.rep i _ q
      rw [hs] at e3
      have e5 := Option.some.inj (Option.some.inj e3)
      subst e5 e4
      obtain ⟨p2, r⟩ := frz_own p q hs
      refine ⟨_, p2, r, .frz, fun b z => ?_, fun b ⟨j, w, ej, ho, es⟩ => ?_⟩
      · rcases z with z | rfl
        · exact .inl z
        · exact .inr ⟨rfl, .inr (own_of q rfl hs)⟩
      · rcases getset ej with ⟨rfl, z, _⟩ | ⟨hn, z⟩
        · cases z
          cases ho
        · exact own_of z ho es
    · cases e
/-- another value, when one is kept -/
theorem Out.kept {F2 : Fz} {o : O} {v : V} (h : Out Z F H σ ρ o v) (u : Up F H F2 H) (fr : isNew o = true → ∀ b, v = .ref b → F2 b → F b) (ow : ∀ b, Own σ ρ2 b → Own σ ρ b) : Out Z F2 H σ ρ2 o v := by
  cases o with
  | d x => exact Rp.up u h
  | F f => exact h
  | L xs =>
    obtain ⟨a, vs, rfl, h1, h2, h3, h4⟩ := h
    exact ⟨a, vs, rfl, h1, h2.up u, fun z => h3 (fr rfl a rfl z), fun z => h4 (ow a z)⟩
  | M t kvs =>
    obtain ⟨a, rfl, h1, h3, h4⟩ := h
    exact ⟨a, rfl, h1.up u fun _ q => q, fun z => h3 (fr rfl a rfl z), fun z => h4 (ow a z)⟩
  | bor i => exact h
theorem Out.newNotOwn {o : O} {a : Addr} (h : Out Z F H σ ρ o (.ref a)) (n : isNew o = true) : ¬ Own σ ρ a := by
  cases o with
  | d x => cases n
  | F f => cases n
  | L xs =>
    obtain ⟨b, vs, e, _, _, _, h4⟩ := h
    cases e
    exact h4
  | M t kvs =>
    obtain ⟨b, e, _, _, h4⟩ := h
    cases e
    exact h4
  | bor i => cases n
theorem OutL.kept {F2 : Fz} {ow : ∀ b, Own σ ρ2 b → Own σ ρ b} (u : Up F H F2 H) {o : O} {v : V} (fr : ∀ b, F2 b → F b ∨ (v = .ref b ∧ (isNew o = true ∨ Own σ ρ b))) : ∀ {os : List O} {vs : List V},
    (isNew o = true → ∀ a, v = .ref a → Apart a os vs) → OutL Z H0 F H σ ρ os vs → OutL Z H0 F2 H σ ρ2 os vs
  | [], _, _, h => h
  | p :: os, _, ap, h => by
    obtain ⟨w, r, rfl, h1, f, a, t⟩ := h
    refine ⟨w, r, rfl, h1.kept u (fun n b eb z => ?_) ow, f, a, OutL.kept (ow := ow) u fr (fun n a e => (ap n a e).2) t⟩
    rcases fr b z with z | ⟨z1, z2⟩
    · exact z
    · rcases z2 with z2 | z2
      · exact absurd eb ((ap z2 b z1).1 n)
      · subst eb
        exact absurd z2 (h1.newNotOwn n)
theorem keeps_ok : ∀ {os : List O} {vs : List V} {xs : List D} {F : Fz} {ρ ρ2 : Ev}, Path Z σ0 F0 H0 ρ0 σ F H ρ → OutL Z H0 F H σ ρ os vs → keeps ρ os = some (xs, ρ2) →
    ∃ F2, Path Z σ0 F0 H0 ρ0 σ F2 H ρ2 ∧ Rps Z F2 H xs vs ∧ Up F H F2 H
  | [], _, xs, F, ρ, ρ2, p, h, e => by
    simp only [keeps, Option.some.injEq, Prod.mk.injEq] at e
    obtain ⟨rfl, rfl⟩ := e
    have e2 : _ = [] := h
    rw [e2]
    exact ⟨F, p, .nil, .refl⟩
  | o :: os, _, xs, F, ρ, ρ2, p, h, e => by
    obtain ⟨v, r, rfl, h1, f, ap, t⟩ := h
    simp only [keeps] at e
    cases ek : keep ρ o with
    | none => rw [ek] at e; cases e
    | some q =>
      obtain ⟨x, ρ3⟩ := q
      rw [ek] at e
      simp only at e
      obtain ⟨F3, p3, r3, u3, fr3, ow3⟩ := keep_ok p h1 f ek
      cases es : keeps ρ3 os with
      | none => rw [es] at e; cases e
      | some q =>
        obtain ⟨ys, ρ4⟩ := q
        rw [es] at e
        simp only [Option.some.injEq, Prod.mk.injEq] at e
        obtain ⟨rfl, rfl⟩ := e
        obtain ⟨F4, p4, r4, u4⟩ := keeps_ok p3 (OutL.kept (ow := ow3) u3 fr3 ap t) es
        exact ⟨F4, p4, .cons (r3.up u4) r4, ⟨fun _ _ q => q, fun _ _ _ q => q, fun a z => u4.fin _ (u3.fin _ z), fun _ _ _ q => q⟩⟩
end
end Ev
/-! Ev3: operators, comparisons, built-ins by values. -/
namespace Ev
open PySem PySem.Spec PyProof.Rows L2
/-- the texts are unlike, none is long -/
structure StOk (Z : Wo) : Prop where
  nd : Z.ST.Nodup
  ok : ∀ x ∈ Z.ST, PyData.canLay0 (.str x) = true
  e0 : ∀ x, Z.ST[0]? = some x → x = ("" : Str)
  len : ∀ x ∈ Z.ST, x.length ≤ 1000
section
variable {Z : Wo} {F F' : Fz} {H H' : Hp}
/-! ### data as the library tells them -/
mutual
def toPy (Z : Wo) : D → PyData
  | .non => .none
  | .bl b => .bool b
  | .int i => .int i
  | .str n => .str (Z.ST.getD n ⟨#[]⟩)
  | .tup xs => .tuple (toPys Z xs)
  | .lst xs => .list (toPys Z xs)
def toPys (Z : Wo) : List D → List PyData
  | [] => []
  | x :: xs => toPy Z x :: toPys Z xs
end
theorem getD_of {n : Nat} {x : Str} (h : Z.ST[n]? = some x) : Z.ST.getD n ⟨#[]⟩ = x := by
  rw [List.getD_eq_getElem?_getD, h]; rfl
mutual
theorem Rp.dp : ∀ {x : D} {v : V}, Rp Z F H x v → Dp Z.K H v (toPy Z x)
  | .non, _, h => by
    simp only [Rp] at h
    subst h
    simp only [toPy]
    exact .non
  | .bl b, _, h => by
    simp only [Rp] at h
    subst h
    simp only [toPy]
    exact .bl b
  | .int i, _, h => by
    simp only [Rp] at h
    subst h
    simp only [toPy]
    exact .int i
  | .str n, _, h => by
    simp only [Rp] at h
    obtain ⟨x, e, rfl⟩ := h
    simp only [toPy]
    rw [getD_of e]
    exact .str x
  | .tup xs, _, h => by
    simp only [Rp] at h
    obtain ⟨a, vs, rfl, s, r⟩ := h
    simp only [toPy]
    exact .tup s (Rps.dp r)
  | .lst xs, _, h => by
    simp only [Rp] at h
    obtain ⟨a, vs, rfl, s, r⟩ := h
    simp only [toPy]
    exact .lst s.sq (Rps.dp r)
theorem Rps.dp : ∀ {xs : List D} {vs : List V}, Rps Z F H xs vs → DpAll Z.K H vs (toPys Z xs)
  | [], _, h => by
    rw [h.inv0]
    simp only [toPys]
    exact .nil
  | x :: xs, _, h => by
    obtain ⟨v, r, e, h1, h2⟩ := h.inv
    rw [e]
    simp only [toPys]
    exact .cons (Rp.dp h1) (Rps.dp h2)
end
theorem str_eq (hs : StOk Z) {a b : Nat} {x y : Str} (h1 : Z.ST[a]? = some x) (h2 : Z.ST[b]? = some y) : (x == y) = (a == b) := by
  by_cases e : a = b
  · subst e
    rw [h1] at h2
    cases h2
    simp
  · have n : x ≠ y := fun q => by
      subst q
      obtain ⟨l1, e1⟩ := List.getElem?_eq_some_iff.mp h1
      obtain ⟨l2, e2⟩ := List.getElem?_eq_some_iff.mp h2
      exact e ((List.getElem_inj hs.nd).mp (e1.trans e2.symm))
    have z1 : (x == y) = false := by simpa using n
    have z2 : (a == b) = false := by simpa using e
    rw [z1, z2]
mutual
theorem eqv_eqb (hs : StOk Z) : ∀ {x y : D} {v w : V} {G : Fz} {L : Hp}, Rp Z F H x v → Rp Z G L y w → PyData.eqv (toPy Z x) (toPy Z y) = eqb x y
  | .non, y, _, _, _, _, _, _ => by cases y <;> simp only [toPy, eqb, PyData.eqv]
  | .bl a, y, _, _, _, _, _, _ => by cases y <;> simp only [toPy, eqb, PyData.eqv]
  | .int a, y, _, _, _, _, _, _ => by cases y <;> simp only [toPy, eqb, PyData.eqv]
  | .str a, y, _, _, _, _, h, g => by
    cases y with
    | str b =>
      simp only [Rp] at h g
      obtain ⟨x, e, _⟩ := h
      obtain ⟨x', e', _⟩ := g
      simp only [toPy, eqb, PyData.eqv]
      rw [getD_of e, getD_of e']
      exact str_eq hs e e'
    | _ => simp only [toPy, eqb, PyData.eqv]
  | .tup xs, y, _, _, _, _, h, g => by
    cases y with
    | tup ys =>
      simp only [Rp] at h g
      obtain ⟨_, _, _, _, r⟩ := h
      obtain ⟨_, _, _, _, r'⟩ := g
      simp only [toPy, eqb, PyData.eqv]
      exact eqvs_eqb hs r r'
    | _ => simp only [toPy, eqb, PyData.eqv]
  | .lst xs, y, _, _, _, _, h, g => by
    cases y with
    | lst ys =>
      simp only [Rp] at h g
      obtain ⟨_, _, _, _, r⟩ := h
      obtain ⟨_, _, _, _, r'⟩ := g
      simp only [toPy, eqb, PyData.eqv]
      exact eqvs_eqb hs r r'
    | _ => simp only [toPy, eqb, PyData.eqv]
theorem eqvs_eqb (hs : StOk Z) : ∀ {xs ys : List D} {vs ws : List V} {G : Fz} {L : Hp}, Rps Z F H xs vs → Rps Z G L ys ws → PyData.eqvAll (toPys Z xs) (toPys Z ys) = eqbs xs ys
  | [], ys, _, _, _, _, _, _ => by cases ys <;> simp only [toPys, eqbs, PyData.eqvAll]
  | x :: xs, ys, _, _, _, _, h, g => by
    cases ys with
    | nil => simp only [toPys, eqbs, PyData.eqvAll]
    | cons y ys =>
      obtain ⟨_, _, _, h1, h2⟩ := h.inv
      obtain ⟨_, _, _, g1, g2⟩ := g.inv
      simp only [toPys, eqbs, PyData.eqvAll]
      rw [eqv_eqb hs h1 g1, eqvs_eqb hs h2 g2]
end
mutual
theorem lay_of (hs : StOk Z) : ∀ {x : D} {v : V}, Rp Z F H x v → PyData.canLay0 (toPy Z x) = true
  | .non, _, _ => by simp only [toPy, PyData.canLay0]
  | .bl _, _, _ => by simp only [toPy, PyData.canLay0]
  | .int _, _, _ => by simp only [toPy, PyData.canLay0]
  | .str n, _, h => by
    simp only [Rp] at h
    obtain ⟨x, e, _⟩ := h
    simp only [toPy]
    rw [getD_of e]
    exact hs.ok x (List.mem_of_getElem? e)
  | .tup xs, _, h => by
    simp only [Rp] at h
    obtain ⟨_, _, _, _, r⟩ := h
    simp only [toPy, PyData.canLay0]
    exact lays_of hs r
  | .lst xs, _, h => by
    simp only [Rp] at h
    obtain ⟨_, _, _, _, r⟩ := h
    simp only [toPy, PyData.canLay0]
    exact lays_of hs r
theorem lays_of (hs : StOk Z) : ∀ {xs : List D} {vs : List V}, Rps Z F H xs vs → PyData.canLayAll0 (toPys Z xs) = true
  | [], _, _ => by simp only [toPys, PyData.canLayAll0]
  | x :: xs, _, h => by
    obtain ⟨_, _, _, h1, h2⟩ := h.inv
    simp only [toPys, PyData.canLayAll0]
    rw [lay_of hs h1, lays_of hs h2] <;> rfl
end
mutual
theorem lim_depth : ∀ {x : D} {n : Nat}, lim x n = true → (toPy Z x).depth ≤ n
  | .non, _, _ => by simp only [toPy, PyData.depth]; omega
  | .bl _, _, _ => by simp only [toPy, PyData.depth]; omega
  | .int _, _, _ => by simp only [toPy, PyData.depth]; omega
  | .str _, _, _ => by simp only [toPy, PyData.depth]; omega
  | .tup xs, 0, h => by simp only [lim] at h; cases h
  | .tup xs, n + 1, h => by
    simp only [lim] at h
    simp only [toPy, PyData.depth]
    have := limL_depth (xs := xs) h
    omega
  | .lst xs, 0, h => by simp only [lim] at h; cases h
  | .lst xs, n + 1, h => by
    simp only [lim] at h
    simp only [toPy, PyData.depth]
    have := limL_depth (xs := xs) h
    omega
theorem limL_depth : ∀ {xs : List D} {n : Nat}, limL xs n = true → PyData.depthAll (toPys Z xs) ≤ n
  | [], _, _ => by simp only [toPys, PyData.depthAll]; omega
  | x :: xs, n, h => by
    simp only [limL, Bool.and_eq_true] at h
    simp only [toPys, PyData.depthAll]
    have h1 := lim_depth (x := x) h.1
    have h2 := limL_depth (xs := xs) h.2
    omega
end
theorem shaped_of (hs : StOk Z) {x : D} {v : V} (h : Rp Z F H x v) (l : lim x limit = true) : SeqAt.shaped (toPy Z x) = true := by
  unfold SeqAt.shaped
  rw [lay_of hs h, Bool.true_and]
  refine decide_eq_true ?_
  have := lim_depth (Z := Z) l
  unfold limit at this
  omega
theorem Rv.d {x : D} {v : V} (h : Rv Z F H (.d x) v) : Rp Z F H x v := h
theorem Rv.l {xs : List D} {v : V} (h : Rv Z F H (.L xs) v) : ∃ a vs, v = .ref a ∧ H a = some (.lst vs) ∧ Rps Z F H xs vs := h
/-! ### operators -/
def rN (Z : Wo) (g : O → O → Option O) : R2 := fun x y H Q => ∃ F a b o, Rv Z F H a x ∧ Rv Z F H b y ∧ g a b = some o ∧ ∀ v H', NewO Z F H o v H' → Q v H'
def rNb (Z : Wo) (g : O → O → Option Bool) : R2 := fun x y H Q => ∃ F a b o, Rv Z F H a x ∧ Rv Z F H b y ∧ g a b = some o ∧ Q (.bl o) H
theorem opImp {X : Cx} {f : Value → Value → Sem Value} {r r' : R2} (h : OpR X f r) (i : ∀ x y H Q, r' x y H Q → r x y H Q) : OpR X f r' :=
  fun pins s σ H x y v u Q I rx ry q => h pins s σ H x y v u Q I rx ry (i x y H Q q)
theorem same_upd {H : Hp} {p : Addr} {o : HO} (h : H p = none) : Same H (upd H p o) := fun b x e => by
  rw [upd_ne (ne_of_none e h)]
  exact e
theorem new_tup {p : Addr} {xs : List D} {vs : List V} (h : H p = none) (r : Rps Z F H xs vs) : NewO Z F H (.d (.tup xs)) (.ref p) (upd H p (.tup vs)) := by
  refine ⟨same_upd h, ?_⟩
  simp only [Rp]
  exact ⟨p, vs, rfl, .inl (.inl upd_same), r.up (.of_same (same_upd h))⟩
theorem new_lst {p : Addr} {xs : List D} {vs : List V} (h : H p = none) (r : Rps Z F H xs vs) : NewO Z F H (.L xs) (.ref p) (upd H p (.lst vs)) :=
  ⟨same_upd h, p, vs, rfl, h, upd_same, r.up (.of_same (same_upd h))⟩
theorem new_int (i : Int) : NewO Z F H (.d (.int i)) (.int i) H := .here (by simp only [Rp])
theorem new_bl (b : Bool) : NewO Z F H (.d (.bl b)) (.bl b) H := .here (by simp only [Rp])
theorem Rp.inv_int {i : Int} {v : V} (h : Rp Z F H (.int i) v) : v = .int i := by simpa only [Rp] using h
theorem Rp.inv_bl {b : Bool} {v : V} (h : Rp Z F H (.bl b) v) : v = .bl b := by simpa only [Rp] using h
theorem Rp.inv_non {v : V} (h : Rp Z F H .non v) : v = .non := by simpa only [Rp] using h
theorem Rp.inv_tup {xs : List D} {v : V} (h : Rp Z F H (.tup xs) v) : ∃ a vs, v = .ref a ∧ SqT Z.K H a vs ∧ Rps Z F H xs vs := by simpa only [Rp] using h
theorem Rp.inv_lst {xs : List D} {v : V} (h : Rp Z F H (.lst xs) v) : ∃ a vs, v = .ref a ∧ SL Z F H a vs ∧ Rps Z F H xs vs := by simpa only [Rp] using h
theorem Rps.rep {xs : List D} {vs : List V} (h : Rps Z F H xs vs) : ∀ n : Nat, Rps Z F H (List.replicate n xs).flatten (List.replicate n vs).flatten
  | 0 => by simpa using Rps.nil
  | n + 1 => by
    rw [List.replicate_succ, List.replicate_succ, List.flatten_cons, List.flatten_cons]
    exact h.append (Rps.rep h n)
end
section
variable {X : Cx} {Z : Wo}
theorem nil_cat (j : Str) : ("" : Str) ++ j = j := by
  show (⟨#[] ++ j.cps⟩ : Str) = j
  rw [Array.empty_append]
theorem op_addO (hK : X.K = Z.K) (hs : StOk Z) : OpR X (binaryOp .Add) (rN Z addO) := by
  refine opImp (((op_add.or op_catA).or op_cat).or op_add_str) fun x y H Q ⟨F, a, b, o, ra, rb, e, q⟩ => ?_
  unfold addO at e
  split at e
  · cases e
    have e1 := Rp.inv_int (Rv.d ra)
    have e2 := Rp.inv_int (Rv.d rb)
    exact .inl (.inl (.inl ⟨_, _, e1, e2, q _ _ (new_int _)⟩))
  · rename_i xs ys
    split at e
    · rename_i hc
      cases e
      obtain ⟨a, vs, e1, s1, r1⟩ := Rp.inv_tup (Rv.d ra)
      obtain ⟨b, ws, e2, s2, r2⟩ := Rp.inv_tup (Rv.d rb)
      refine .inl (.inl (.inr ⟨a, b, vs, ws, e1, e2, by rw [hK]; exact s1, by rw [hK]; exact s2, ?_, fun z => ?_, fun _ z => ?_, fun _ _ p hp => q _ _ (new_tup hp (r1.append r2))⟩))
      · rw [← r1.len, ← r2.len, sizeLine_eq]; exact hc
      · have e3 : xs = [] := List.length_eq_zero_iff.mp (by rw [r1.len, z]; rfl)
        subst e3
        refine q _ _ (.here ?_)
        rw [List.nil_append, ← e2]
        exact Rv.d rb
      · have e3 : ys = [] := List.length_eq_zero_iff.mp (by rw [r2.len, z]; rfl)
        subst e3
        refine q _ _ (.here ?_)
        rw [List.append_nil, ← e1]
        exact Rv.d ra
    · cases e
  · rename_i xs ys
    split at e
    · rename_i hc
      cases e
      obtain ⟨a, vs, e1, s1, r1⟩ := Rv.l ra
      obtain ⟨b, ws, e2, s2, r2⟩ := Rv.l rb
      exact .inl (.inr ⟨a, b, vs, ws, e1, e2, s1, s2, by rw [← r1.len, ← r2.len, sizeLine_eq]; exact hc, fun p hp => q _ _ (new_lst hp (r1.append r2))⟩)
    · cases e
  · split at e
    · rename_i k n hk
      subst hk
      cases e
      have r1 := Rv.d ra
      have r2 := Rv.d rb
      simp only [Rp] at r1 r2
      obtain ⟨z, ez, rfl⟩ := r1
      obtain ⟨y, ey, rfl⟩ := r2
      have e0 := hs.e0 z ez
      subst e0
      refine .inr ⟨_, _, rfl, rfl, ?_, q _ _ (.here ?_)⟩
      · have := hs.len y (List.mem_of_getElem? ey)
        have z0 : ("" : Str).length = 0 := rfl
        rw [z0, sizeLine_eq]
        omega
      · rw [nil_cat]
        simp only [Rp]
        exact ⟨y, ey, rfl⟩
    · cases e
  · cases e
theorem op_subO : OpR X (binaryOp .Sub) (rN Z subO) := by
  refine opImp op_sub fun x y H Q ⟨F, a, b, o, ra, rb, e, q⟩ => ?_
  unfold subO at e
  split at e
  · cases e
    exact ⟨_, _, Rp.inv_int (Rv.d ra), Rp.inv_int (Rv.d rb), q _ _ (new_int _)⟩
  · cases e
theorem sml_of {i : Int} (h : sml i = true) : -(2 ^ 64) < i ∧ i < 2 ^ 64 := by
  unfold sml at h
  simp only [Bool.and_eq_true, decide_eq_true_eq] at h
  exact h
theorem op_mulO (hK : X.K = Z.K) : OpR X (binaryOp .Mult) (rN Z mulO) := by
  refine opImp ((op_mul.or op_repT).or op_rep) fun x y H Q ⟨F, a, b, o, ra, rb, e, q⟩ => ?_
  unfold mulO at e
  split at e
  · split at e
    · rename_i hc
      cases e
      refine .inl (.inl ⟨_, _, Rp.inv_int (Rv.d ra), Rp.inv_int (Rv.d rb), ?_, q _ _ (new_int _)⟩)
      rw [Bool.or_eq_true] at hc
      exact hc.elim (fun z => .inl (sml_of z)) fun z => .inr (sml_of z)
    · cases e
  · split at e
    · rename_i hc
      cases e
      obtain ⟨a, vs, e1, s1, r1⟩ := Rp.inv_tup (Rv.d ra)
      obtain ⟨h1, h2, h3, h4⟩ := hc
      refine .inl (.inr ⟨a, _, vs, e1, Rp.inv_int (Rv.d rb), by rw [hK]; exact s1, fun z => ?_, h3, h4, by rw [← r1.len]; exact h2, fun p hp => q _ _ (new_tup hp (r1.rep _))⟩)
      have h5 := r1.len
      rw [z, List.length_nil] at h5
      omega
    · cases e
  · split at e
    · rename_i hc
      cases e
      obtain ⟨a, vs, e1, s1, r1⟩ := Rv.l ra
      exact .inr ⟨a, _, vs, e1, Rp.inv_int (Rv.d rb), s1, hc.1, hc.2.1, by rw [← r1.len, sizeLine_eq]; exact hc.2.2, fun p hp => q _ _ (new_lst hp (r1.rep _))⟩
    · cases e
  · cases e
theorem op_fdivO : OpR X (binaryOp .FloorDiv) (rN Z fdivO) := by
  refine opImp op_fdiv fun x y H Q ⟨F, a, b, o, ra, rb, e, q⟩ => ?_
  unfold fdivO at e
  split at e
  · split at e
    · rename_i hc
      cases e
      exact ⟨_, _, Rp.inv_int (Rv.d ra), Rp.inv_int (Rv.d rb), hc, q _ _ (new_int _)⟩
    · cases e
  · cases e
theorem op_modO : OpR X (binaryOp .Mod) (rN Z modO) := by
  refine opImp op_mod fun x y H Q ⟨F, a, b, o, ra, rb, e, q⟩ => ?_
  unfold modO at e
  split at e
  · split at e
    · rename_i hc
      cases e
      exact ⟨_, _, Rp.inv_int (Rv.d ra), Rp.inv_int (Rv.d rb), hc, q _ _ (new_int _)⟩
    · cases e
  · cases e
def bopOf : Bop → Operator
  | .add => .Add | .sub => .Sub | .mul => .Mult | .fdiv => .FloorDiv | .mod => .Mod
theorem op_bin (hK : X.K = Z.K) (hs : StOk Z) (op : Bop) : OpR X (binaryOp (bopOf op)) (rN Z (bin op)) := by
  cases op with
  | add => exact op_addO hK hs
  | sub => exact op_subO
  | mul => exact op_mulO hK
  | fdiv => exact op_fdivO
  | mod => exact op_modO
/-! ### comparisons -/
theorem look_dp {F : Fz} {H : Hp} {o : O} {v : V} {x : D} (r : Rv Z F H o v) (e : look o = some x) : ∃ (G : Fz), Rp Z G H x v := by
  cases o with
  | d y =>
    cases e
    exact ⟨F, Rv.d r⟩
  | L xs =>
    cases e
    obtain ⟨a, vs, rfl, h1, h2⟩ := Rv.l r
    refine ⟨frz F a, ?_⟩
    simp only [Rp]
    exact ⟨a, vs, rfl, .inl ⟨.inr rfl, .inl h1⟩, h2.up .frz⟩
  | M t kvs => cases e
  | F f => cases e
  | bor i => cases e
theorem same_ok {x y : D} {b : Bool} (h : same x y = some b) : lim x limit = true ∧ lim y limit = true ∧ b = eqb x y := by
  unfold same at h
  split at h
  · rename_i hc
    rw [Bool.and_eq_true] at hc
    cases h
    exact ⟨hc.1, hc.2, rfl⟩
  · cases h
theorem op_eqO (hK : X.K = Z.K) (hs : StOk Z) (hu : X.A.units + 64 < cLine) : OpR X (compareOp .Eq) (rNb Z eqO) := by
  refine opImp (op_eqD hu) fun x y H Q ⟨F, a, b, o, ra, rb, e, q⟩ => ?_
  unfold eqO at e
  cases ea : look a with
  | none => rw [ea] at e; cases e
  | some d =>
    cases eb : look b with
    | none => rw [ea, eb] at e; cases e
    | some d' =>
      rw [ea, eb] at e
      obtain ⟨G1, r1⟩ := look_dp ra ea
      obtain ⟨G2, r2⟩ := look_dp rb eb
      obtain ⟨h1, h2, rfl⟩ := same_ok e
      refine ⟨toPy Z d, toPy Z d', ?_, ?_, shaped_of hs r1 h1, shaped_of hs r2 h2, ?_⟩
      · rw [hK]; exact r1.dp
      · rw [hK]; exact r2.dp
      · rw [eqv_eqb hs r1 r2]; exact q
theorem op_neO (hK : X.K = Z.K) (hs : StOk Z) (hu : X.A.units + 64 < cLine) : OpR X (compareOp .NotEq) (rNb Z fun a b => (eqO a b).map (!·)) := by
  refine opImp (op_neD hu) fun x y H Q ⟨F, a, b, o, ra, rb, e, q⟩ => ?_
  have e : (eqO a b).map (!·) = some o := e
  unfold eqO at e
  cases ea : look a with
  | none => rw [ea] at e; cases e
  | some d =>
    cases eb : look b with
    | none => rw [ea, eb] at e; cases e
    | some d' =>
      rw [ea, eb] at e
      obtain ⟨k, ek, rfl⟩ := Option.map_eq_some_iff.mp e
      obtain ⟨G1, r1⟩ := look_dp ra ea
      obtain ⟨G2, r2⟩ := look_dp rb eb
      obtain ⟨h1, h2, rfl⟩ := same_ok ek
      refine ⟨toPy Z d, toPy Z d', ?_, ?_, shaped_of hs r1 h1, shaped_of hs r2 h2, ?_⟩
      · rw [hK]; exact r1.dp
      · rw [hK]; exact r2.dp
      · rw [eqv_eqb hs r1 r2]; exact q
theorem lexI_eq : ∀ xs ys : List Int, lexI xs ys = HT.lexLt xs ys
  | [], [] => rfl
  | [], _ :: _ => rfl
  | _ :: _, [] => rfl
  | x :: xs, y :: ys => by
    simp only [lexI, HT.lexLt]
    rw [lexI_eq xs ys]
theorem ints_of {F : Fz} {H : Hp} : ∀ {xs : List D} {ns : List Int} {vs : List V}, intsOf xs = some ns → Rps Z F H xs vs → vs = ns.map V.int ∧ xs = ns.map D.int
  | [], ns, vs, e, r => by
    simp only [intsOf, Option.some.injEq] at e
    subst e
    rw [r.inv0]
    exact ⟨rfl, rfl⟩
  | x :: xs, ns, vs, e, r => by
    cases x with
    | int i =>
      simp only [intsOf] at e
      obtain ⟨ms, e1, rfl⟩ := Option.map_eq_some_iff.mp e
      obtain ⟨v, r', rfl, h1, h2⟩ := r.inv
      obtain ⟨e2, e3⟩ := ints_of e1 h2
      rw [e2, e3, Rp.inv_int h1]
      exact ⟨rfl, rfl⟩
    | _ => simp only [intsOf] at e; cases e
theorem op_ltO (hK : X.K = Z.K) (hu : X.A.units < cLine) : OpR X (compareOp .Lt) (rNb Z ltO) := by
  refine opImp (op_lt.or (op_ltT hu)) fun x y H Q ⟨F, a, b, o, ra, rb, e, q⟩ => ?_
  unfold ltO at e
  split at e
  · cases e
    exact .inl ⟨_, _, Rp.inv_int (Rv.d ra), Rp.inv_int (Rv.d rb), q⟩
  · rename_i xs ys
    cases e1 : intsOf xs with
    | none => rw [e1] at e; cases e
    | some ns =>
      cases e2 : intsOf ys with
      | none => rw [e1, e2] at e; cases e
      | some ms =>
        rw [e1, e2] at e
        cases e
        obtain ⟨a, vs, rfl, s1, r1⟩ := Rp.inv_tup (Rv.d ra)
        obtain ⟨b, ws, rfl, s2, r2⟩ := Rp.inv_tup (Rv.d rb)
        obtain ⟨rfl, _⟩ := ints_of e1 r1
        obtain ⟨rfl, _⟩ := ints_of e2 r2
        refine .inr ⟨a, b, ns, ms, rfl, rfl, by rw [hK]; exact s1, by rw [hK]; exact s2, ?_⟩
        rw [← lexI_eq]
        exact q
  · cases e
theorem op_leO : OpR X (compareOp .LtE) (rNb Z leO) := by
  refine opImp op_le fun x y H Q ⟨F, a, b, o, ra, rb, e, q⟩ => ?_
  unfold leO at e
  split at e
  · cases e
    exact ⟨_, _, Rp.inv_int (Rv.d ra), Rp.inv_int (Rv.d rb), q⟩
  · cases e
theorem op_gtO : OpR X (compareOp .Gt) (rNb Z gtO) := by
  refine opImp op_gt fun x y H Q ⟨F, a, b, o, ra, rb, e, q⟩ => ?_
  unfold gtO at e
  split at e
  · cases e
    exact ⟨_, _, Rp.inv_int (Rv.d ra), Rp.inv_int (Rv.d rb), q⟩
  · cases e
theorem op_geO : OpR X (compareOp .GtE) (rNb Z geO) := by
  refine opImp op_ge fun x y H Q ⟨F, a, b, o, ra, rb, e, q⟩ => ?_
  unfold geO at e
  split at e
  · cases e
    exact ⟨_, _, Rp.inv_int (Rv.d ra), Rp.inv_int (Rv.d rb), q⟩
  · cases e
theorem isNon_ok {F : Fz} {H : Hp} {x : D} {v : V} (h : Rp Z F H x v) : decide (v = V.non) = isNon x := by
  cases x with
  | non => rw [Rp.inv_non h]; rfl
  | bl b => rw [Rp.inv_bl h]; rfl
  | int i => rw [Rp.inv_int h]; rfl
  | str n =>
    simp only [Rp] at h
    obtain ⟨x, _, rfl⟩ := h
    rfl
  | tup xs =>
    obtain ⟨a, vs, rfl, _⟩ := Rp.inv_tup h
    rfl
  | lst xs =>
    obtain ⟨a, vs, rfl, _⟩ := Rp.inv_lst h
    rfl
/-- is of a bool: told by the value -/
theorem isBl_ok {F : Fz} {H : Hp} {x : D} {v : V} {u : Value} {c : Bool} (h : Rp Z F H x v) (r : RelV v u) : plainIs u (.bool c) = true ∧ (u == Value.bool c) = isBl c x := by
  cases x with
  | non =>
    rw [Rp.inv_non h] at r
    cases (show u = Value.none from r)
    exact ⟨rfl, rfl⟩
  | bl b =>
    rw [Rp.inv_bl h] at r
    cases (show u = Value.bool b from r)
    exact ⟨rfl, by cases b <;> cases c <;> rfl⟩
  | int i =>
    rw [Rp.inv_int h] at r
    obtain ⟨t, rfl⟩ := r
    exact ⟨rfl, rfl⟩
  | str n =>
    simp only [Rp] at h
    obtain ⟨x, _, rfl⟩ := h
    obtain ⟨t, rfl⟩ := r
    exact ⟨rfl, rfl⟩
  | tup xs =>
    obtain ⟨a, vs, rfl, _⟩ := Rp.inv_tup h
    cases (show u = Value.ref a from r)
    exact ⟨rfl, rfl⟩
  | lst xs =>
    obtain ⟨a, vs, rfl, _⟩ := Rp.inv_lst h
    cases (show u = Value.ref a from r)
    exact ⟨rfl, rfl⟩
theorem op_isB : OpR X (compareOp .Is) (fun x y H Q => ∃ (F : Fz) (d : D) (c : Bool), Rp Z F H d x ∧ y = .bl c ∧ Q (.bl (isBl c d)) H) := by
  intro pins s σ H x y v u Q I rx ry ⟨F, d, c, r, ey, q⟩
  subst ey
  cases (show u = Value.bool c from ry)
  obtain ⟨h1, h2⟩ := isBl_ok (c := c) r rx
  exact wpAny_is_plain h1 ⟨.bl (isBl c d), H, I, by rw [h2]; rfl, q⟩
theorem op_isnotB : OpR X (compareOp .IsNot) (fun x y H Q => ∃ (F : Fz) (d : D) (c : Bool), Rp Z F H d x ∧ y = .bl c ∧ Q (.bl (!isBl c d)) H) := by
  intro pins s σ H x y v u Q I rx ry ⟨F, d, c, r, ey, q⟩
  subst ey
  cases (show u = Value.bool c from ry)
  obtain ⟨h1, h2⟩ := isBl_ok (c := c) r rx
  exact wpAny_isNot_plain h1 ⟨.bl (!isBl c d), H, I, by rw [h2]; rfl, q⟩
theorem op_isO : OpR X (compareOp .Is) (rNb Z isO) := by
  refine opImp (op_isN.or (op_isB (Z := Z))) fun x y H Q ⟨F, a, b, o, ra, rb, e, q⟩ => ?_
  unfold isO at e
  split at e
  · obtain ⟨d, ed, rfl⟩ := Option.map_eq_some_iff.mp e
    obtain ⟨G, rd⟩ := look_dp ra ed
    refine .inl ⟨Rp.inv_non (Rv.d rb), ?_⟩
    rw [isNon_ok rd]
    exact q
  · obtain ⟨d, ed, rfl⟩ := Option.map_eq_some_iff.mp e
    obtain ⟨G, rd⟩ := look_dp ra ed
    exact .inr ⟨G, d, _, rd, Rp.inv_bl (Rv.d rb), q⟩
  · cases e
theorem op_isnotO : OpR X (compareOp .IsNot) (rNb Z fun a b => (isO a b).map (!·)) := by
  refine opImp (op_notN.or (op_isnotB (Z := Z))) fun x y H Q ⟨F, a, b, o, ra, rb, e, q⟩ => ?_
  obtain ⟨k, ek, rfl⟩ := Option.map_eq_some_iff.mp (show (isO a b).map (!·) = some o from e)
  unfold isO at ek
  split at ek
  · obtain ⟨d, ed, rfl⟩ := Option.map_eq_some_iff.mp ek
    obtain ⟨G, rd⟩ := look_dp ra ed
    refine .inl ⟨Rp.inv_non (Rv.d rb), ?_⟩
    rw [isNon_ok rd]
    exact q
  · obtain ⟨d, ed, rfl⟩ := Option.map_eq_some_iff.mp ek
    obtain ⟨G, rd⟩ := look_dp ra ed
    exact .inr ⟨G, d, _, rd, Rp.inv_bl (Rv.d rb), q⟩
  · cases ek
end
end Ev
/-! Ev4: in, truth, subscripts, slices, built-ins by values. -/
namespace Ev
open PySem PySem.Spec PyProof.Rows L2
section
variable {X : Cx} {Z : Wo} {F : Fz} {H : Hp}
/-- the items, where they stand -/
theorem items_sq {o : O} {v : V} {xs : List D} (r : Rv Z F H o v) (e : items o = some xs) : ∃ a vs, v = .ref a ∧ (SqL Z.K H a vs ∨ SqT Z.K H a vs) ∧ Rps Z F H xs vs := by
  unfold items at e
  split at e
  · cases e
    obtain ⟨a, vs, rfl, s, h⟩ := Rp.inv_tup (Rv.d r)
    exact ⟨a, vs, rfl, .inr s, h⟩
  · cases e
    obtain ⟨a, vs, rfl, s, h⟩ := Rp.inv_lst (Rv.d r)
    exact ⟨a, vs, rfl, .inl s.sq, h⟩
  · cases e
    obtain ⟨a, vs, rfl, s, h⟩ := Rv.l r
    exact ⟨a, vs, rfl, .inl (SqL.of s), h⟩
  · cases e
theorem any_eq (hs : StOk Z) {x : D} {v : V} (hx : Rp Z F H x v) : ∀ {ys : List D} {ws : List V} {G : Fz} {L : Hp}, Rps Z G L ys ws → ((toPys Z ys).any fun z => PyData.eqv z (toPy Z x)) = ys.any fun y => eqb y x
  | [], _, _, _, _ => by simp only [toPys, List.any_nil]
  | y :: ys, _, _, _, h => by
    obtain ⟨_, _, _, h1, h2⟩ := h.inv
    simp only [toPys, List.any_cons]
    rw [any_eq hs hx h2, eqv_eqb hs h1 hx]
theorem op_inSeq (hK : X.K = Z.K) (hs : StOk Z) (hu : X.A.units + 65 < cLine) : OpR X (compareOp .In) (rNb Z inSeq) := by
  intro pins s σ H x y v u Q I rx ry ⟨F, a, b, o, ra, rb, e, q⟩
  unfold inSeq at e
  cases ea : look a with
  | none => rw [ea] at e; cases e
  | some d =>
    cases eb : items b with
    | none => rw [ea, eb] at e; cases e
    | some ys =>
      rw [ea, eb] at e
      simp only [among] at e
      split at e
      · rename_i hl
        cases e
        obtain ⟨G, rd⟩ := look_dp ra ea
        obtain ⟨as, r1⟩ := Dp.reads I (toPy Z d) x v (by rw [hK]; exact rd.dp) rx
        have sd := shaped_of hs rd hl
        unfold items at eb
        split at eb
        · cases eb
          have rt := Rv.d rb
          obtain ⟨_, _, _, _, rs'⟩ := Rp.inv_tup rt
          obtain ⟨bs, r2⟩ := Dp.reads I _ y u (by rw [hK]; exact rt.dp) ry
          simp only [toPy] at r2
          refine SeqAt.in_tuple_reads r2 r1 (lays_of hs rs') (lay_of hs rd) (room_in_shaped sd hu) ⟨.bl _, H, I, rfl, ?_⟩
          rw [any_eq hs rd rs']
          exact q
        · cases eb
          have rt := Rv.d rb
          obtain ⟨_, _, _, _, rs'⟩ := Rp.inv_lst rt
          obtain ⟨bs, r2⟩ := Dp.reads I _ y u (by rw [hK]; exact rt.dp) ry
          simp only [toPy] at r2
          refine SeqAt.in_list_reads r2 r1 (lays_of hs rs') (lay_of hs rd) (room_in_shaped sd hu) ⟨.bl _, H, I, rfl, ?_⟩
          rw [any_eq hs rd rs']
          exact q
        · cases eb
          obtain ⟨G', rt⟩ := look_dp rb rfl
          obtain ⟨_, _, _, _, rs'⟩ := Rp.inv_lst rt
          obtain ⟨bs, r2⟩ := Dp.reads I _ y u (by rw [hK]; exact rt.dp) ry
          simp only [toPy] at r2
          refine SeqAt.in_list_reads r2 r1 (lays_of hs rs') (lay_of hs rd) (room_in_shaped sd hu) ⟨.bl _, H, I, rfl, ?_⟩
          rw [any_eq hs rd rs']
          exact q
        · cases eb
      · cases e
theorem op_notinSeq (hK : X.K = Z.K) (hs : StOk Z) (hu : X.A.units + 65 < cLine) : OpR X (compareOp .NotIn) (rNb Z fun a b => (inSeq a b).map (!·)) := by
  intro pins s σ H x y v u Q I rx ry ⟨F, a, b, o, ra, rb, e, q⟩
  obtain ⟨k, e', rfl⟩ := Option.map_eq_some_iff.mp (show (inSeq a b).map (!·) = some o from e)
  clear e
  have e := e'
  clear e'
  unfold inSeq at e
  cases ea : look a with
  | none => rw [ea] at e; cases e
  | some d =>
    cases eb : items b with
    | none => rw [ea, eb] at e; cases e
    | some ys =>
      rw [ea, eb] at e
      simp only [among] at e
      split at e
      · rename_i hl
        cases e
        obtain ⟨G, rd⟩ := look_dp ra ea
        obtain ⟨as, r1⟩ := Dp.reads I (toPy Z d) x v (by rw [hK]; exact rd.dp) rx
        have sd := shaped_of hs rd hl
        unfold items at eb
        split at eb
        · cases eb
          have rt := Rv.d rb
          obtain ⟨_, _, _, _, rs'⟩ := Rp.inv_tup rt
          obtain ⟨bs, r2⟩ := Dp.reads I _ y u (by rw [hK]; exact rt.dp) ry
          simp only [toPy] at r2
          refine SeqAt.notIn_tuple_reads r2 r1 (lays_of hs rs') (lay_of hs rd) (room_in_shaped sd hu) ⟨.bl _, H, I, rfl, ?_⟩
          rw [any_eq hs rd rs']
          exact q
        · cases eb
          have rt := Rv.d rb
          obtain ⟨_, _, _, _, rs'⟩ := Rp.inv_lst rt
          obtain ⟨bs, r2⟩ := Dp.reads I _ y u (by rw [hK]; exact rt.dp) ry
          simp only [toPy] at r2
          refine SeqAt.notIn_list_reads r2 r1 (lays_of hs rs') (lay_of hs rd) (room_in_shaped sd hu) ⟨.bl _, H, I, rfl, ?_⟩
          rw [any_eq hs rd rs']
          exact q
        · cases eb
          obtain ⟨G', rt⟩ := look_dp rb rfl
          obtain ⟨_, _, _, _, rs'⟩ := Rp.inv_lst rt
          obtain ⟨bs, r2⟩ := Dp.reads I _ y u (by rw [hK]; exact rt.dp) ry
          simp only [toPy] at r2
          refine SeqAt.notIn_list_reads r2 r1 (lays_of hs rs') (lay_of hs rd) (room_in_shaped sd hu) ⟨.bl _, H, I, rfl, ?_⟩
          rw [any_eq hs rd rs']
          exact q
        · cases eb
      · cases e
/-! ### truth -/
theorem tru_O {o : O} {v : V} {b : Bool} (r : Rv Z F H o v) (e : truth o = some b) : TruV Z.K v H b := by
  have emp : ∀ {xs : List D} {vs : List V}, Rps Z F H xs vs → (!xs.isEmpty) = !vs.isEmpty := fun {xs vs} h => by
    cases xs with
    | nil => rw [h.inv0]; rfl
    | cons x xs =>
      obtain ⟨w, r, rfl, _⟩ := h.inv
      rfl
  unfold truth at e
  split at e
  · cases e
    rw [Rp.inv_non (Rv.d r)]
    exact rfl
  · cases e
    rw [Rp.inv_bl (Rv.d r)]
    exact rfl
  · cases e
    rw [Rp.inv_int (Rv.d r)]
    exact rfl
  · cases e
    obtain ⟨a, vs, rfl, s, h⟩ := Rp.inv_tup (Rv.d r)
    exact .inr (.inl ⟨vs, s, emp h⟩)
  · cases e
    obtain ⟨a, vs, rfl, s, h⟩ := Rp.inv_lst (Rv.d r)
    exact .inl ⟨vs, s.sq, emp h⟩
  · cases e
    obtain ⟨a, vs, rfl, s, h⟩ := Rv.l r
    exact .inl ⟨vs, SqL.of s, emp h⟩
  · cases e
/-! ### subscripts -/
theorem place_eq (n : Nat) (i : Int) : place n i = ixN n i := by
  unfold place ixN
  split
  · rfl
  · split
    · rw [Int.add_comm]
    · rfl
theorem at_ok {xs : List D} {vs : List V} {i : Int} {x : D} (r : Rps Z F H xs vs) (e : at_ xs i = some x) : ∃ v, atI vs i = some v ∧ Rp Z F H x v := by
  unfold at_ at e
  rw [place_eq] at e
  unfold atI
  rw [← r.len]
  cases h : ixN xs.length i with
  | none => rw [h] at e; cases e
  | some j =>
    rw [h] at e
    obtain ⟨v, e1, r1⟩ := r.get (show xs[j]? = some x from e)
    exact ⟨v, e1, r1⟩
def rIxO (Z : Wo) (g : O → O → Option D) : R2 := fun x y H Q => ∃ F a b d, Rv Z F H a x ∧ Rv Z F H b y ∧ g a b = some d ∧ ∀ v, Rp Z F H d v → Q v H
theorem ixImp {r r' : R2} (h : IxR X r) (i : ∀ x y H Q, r' x y H Q → r x y H Q) : IxR X r' :=
  fun a b pins s σ H x y v u Q I rx ry q hs => h a b pins s σ H x y v u Q I rx ry (i x y H Q q) hs
theorem ix_seqO (hK : X.K = Z.K) : IxR X (rIxO Z ixSeq) := by
  refine ixImp (ix_list.or ix_tup) fun x y H Q ⟨F, a, b, d, ra, rb, e, q⟩ => ?_
  unfold ixSeq at e
  split at e
  · rename_i xs i ei
    obtain ⟨p, vs, rfl, s, r⟩ := items_sq ra ei
    obtain ⟨v, e1, r1⟩ := at_ok r e
    rcases s with s | s
    · exact .inl ⟨p, vs, _, v, rfl, Rp.inv_int (Rv.d rb), by rw [hK]; exact s, e1, q v r1⟩
    · exact .inr ⟨p, vs, _, v, rfl, Rp.inv_int (Rv.d rb), by rw [hK]; exact s, e1, q v r1⟩
  · cases e
/-! ### slices -/
theorem cut_ok {xs : List D} {vs : List V} (lo hi : Option Int) (r : Rps Z F H xs vs) : Rps Z F H (cut xs lo hi) (cutV vs lo hi) := by
  have e : ∀ n d o, sIx n d o = HT.sIx n d o := fun n d o => by cases o <;> rfl
  unfold cut cutV
  rw [e, e, ← r.len]
  exact (r.drop _).take _
theorem slImp {r r' : V → Option Int → Option Int → Hp → VK → Prop} (h : SlR X r) (i : ∀ x lo hi H Q, r' x lo hi H Q → r x lo hi H Q) : SlR X r' :=
  fun pins s σ H x v vl vu lo hi sl Q I rx hs pl pu q => h pins s σ H x v vl vu lo hi sl Q I rx hs pl pu (i x lo hi H Q q)
def rSlO (Z : Wo) : V → Option Int → Option Int → Hp → VK → Prop := fun x lo hi H Q => ∃ F a o, Rv Z F H a x ∧ slice a lo hi = some o ∧ ∀ v H', NewO Z F H o v H' → Q v H'
theorem sl_O (hK : X.K = Z.K) : SlR X (rSlO Z) := by
  refine slImp (sl_tupA.or sl_list) fun x lo hi H Q ⟨F, a, o, ra, e, q⟩ => ?_
  unfold slice at e
  split at e
  · rename_i xs
    cases e
    obtain ⟨p, vs, rfl, s, r⟩ := Rp.inv_tup (Rv.d ra)
    have rc := cut_ok lo hi r
    refine .inl ⟨p, vs, rfl, by rw [hK]; exact s, fun hw => q _ _ (.here ?_), fun _ a ha => q _ _ (new_tup ha rc)⟩
    have ec : cutV vs lo hi = vs := by
      unfold cutV
      rw [hw.1, hw.2, List.drop_zero, Nat.sub_zero, List.take_length]
    rw [ec] at rc
    simp only [Rp]
    exact ⟨p, vs, rfl, s, rc⟩
  · rename_i nt
    obtain ⟨xs, ei, rfl⟩ := Option.map_eq_some_iff.mp e
    have hL : ∃ p vs, x = .ref p ∧ SqL Z.K H p vs ∧ Rps Z F H xs vs := by
      unfold items at ei
      split at ei
      · exact absurd rfl (nt _)
      · cases ei
        obtain ⟨a, vs, rfl, s, h⟩ := Rp.inv_lst (Rv.d ra)
        exact ⟨a, vs, rfl, s.sq, h⟩
      · cases ei
        obtain ⟨a, vs, rfl, s, h⟩ := Rv.l ra
        exact ⟨a, vs, rfl, SqL.of s, h⟩
      · cases ei
    obtain ⟨p, vs, rfl, s, r⟩ := hL
    exact .inr ⟨p, vs, rfl, by rw [hK]; exact s, fun a ha => q _ _ (new_lst ha (cut_ok lo hi r))⟩
/-! ### built-ins -/
def RvL (Z : Wo) (F : Fz) (H : Hp) : List O → List V → Prop
  | [], vs => vs = []
  | o :: os, vs => ∃ v r, vs = v :: r ∧ Rv Z F H o v ∧ RvL Z F H os r
def rC (Z : Wo) (g : List O → Option O) : List V → Hp → VK → Prop := fun vs H Q => ∃ F os o, RvL Z F H os vs ∧ g os = some o ∧ ∀ v H', NewO Z F H o v H' → Q v H'
theorem callImp {f : Value} {r r' : List V → Hp → VK → Prop} (h : CallR X f r) (i : ∀ vs H Q, r' vs H Q → r vs H Q) : CallR X f r' :=
  fun pins s σ H xs us Q I rs q => h pins s σ H xs us Q I rs (i xs H Q q)
theorem RvL.one {o : O} {vs : List V} (h : RvL Z F H [o] vs) : ∃ v, vs = [v] ∧ Rv Z F H o v := by
  obtain ⟨v, r, rfl, h1, h2⟩ := h
  have e : r = [] := h2
  rw [e]
  exact ⟨v, rfl, h1⟩
theorem RvL.two {o p : O} {vs : List V} (h : RvL Z F H [o, p] vs) : ∃ v w, vs = [v, w] ∧ Rv Z F H o v ∧ Rv Z F H p w := by
  obtain ⟨v, r, rfl, h1, h2⟩ := h
  obtain ⟨w, rfl, h3⟩ := RvL.one h2
  exact ⟨v, w, rfl, h1, h3⟩
theorem cr_len (hK : X.K = Z.K) : CallR X (.builtin "len") (rC Z lenF) := by
  refine callImp call_len_seq fun vs H Q ⟨F, os, o, r, e, q⟩ => ?_
  unfold lenF seqF at e
  split at e
  · obtain ⟨xs, ei, e2⟩ := Option.bind_eq_some_iff.mp e
    cases e2
    obtain ⟨v, rfl, rv⟩ := r.one
    obtain ⟨p, vs, rfl, s, h⟩ := items_sq rv ei
    refine ⟨p, vs, rfl, by rw [hK]; exact s, ?_⟩
    rw [← h.len]
    exact q _ _ (new_int _)
  · cases e
theorem cr_abs : CallR X (.builtin "abs") (rC Z absF) := by
  refine callImp call_abs fun vs H Q ⟨F, os, o, r, e, q⟩ => ?_
  unfold absF at e
  split at e
  · cases e
    obtain ⟨v, rfl, rv⟩ := r.one
    rw [Rp.inv_int (Rv.d rv)]
    exact ⟨_, rfl, q _ _ (new_int _)⟩
  · cases e
theorem cr_int : CallR X (.type "int") (rC Z intF) := by
  refine callImp call_int1 fun vs H Q ⟨F, os, o, r, e, q⟩ => ?_
  unfold intF at e
  split at e
  · cases e
    obtain ⟨v, rfl, rv⟩ := r.one
    rw [Rp.inv_int (Rv.d rv)]
    exact .inl ⟨_, rfl, q _ _ (new_int _)⟩
  · cases e
    obtain ⟨v, rfl, rv⟩ := r.one
    rw [Rp.inv_bl (Rv.d rv)]
    exact .inr ⟨_, rfl, q _ _ (new_int _)⟩
  · cases e
theorem cr_tuple (hK : X.K = Z.K) : CallR X (.type "tuple") (rC Z tupleF) := by
  refine callImp call_tuple_of fun vs H Q ⟨F, os, o, r, e, q⟩ => ?_
  unfold tupleF seqF at e
  split at e
  · obtain ⟨xs, ei, e2⟩ := Option.bind_eq_some_iff.mp e
    cases e2
    obtain ⟨v, rfl, rv⟩ := r.one
    obtain ⟨p, vs, rfl, s, h⟩ := items_sq rv ei
    rcases s with s | s
    · exact ⟨p, vs, rfl, .inl ⟨by rw [hK]; exact s, fun l hl => q _ _ (new_tup hl h)⟩⟩
    · refine ⟨p, vs, rfl, .inr ⟨by rw [hK]; exact s, q _ _ (.here ?_)⟩⟩
      simp only [Rp]
      exact ⟨p, vs, rfl, s, h⟩
  · cases e
theorem cr_list (hK : X.K = Z.K) : CallR X (.type "list") (rC Z listF) := by
  refine callImp call_list_of fun vs H Q ⟨F, os, o, r, e, q⟩ => ?_
  unfold listF seqF at e
  split at e
  · obtain ⟨xs, ei, e2⟩ := Option.bind_eq_some_iff.mp e
    cases e2
    obtain ⟨v, rfl, rv⟩ := r.one
    obtain ⟨p, vs, rfl, s, h⟩ := items_sq rv ei
    exact ⟨p, vs, rfl, by rw [hK]; exact s, fun l hl => q _ _ (new_lst hl h)⟩
  · cases e
theorem itemsL_sq {o : O} {v : V} {xs : List D} (r : Rv Z F H o v) (e : itemsL o = some xs) : ∃ a vs, v = .ref a ∧ SqL Z.K H a vs ∧ Rps Z F H xs vs := by
  unfold itemsL at e
  split at e
  · cases e
    obtain ⟨a, vs, rfl, s, h⟩ := Rp.inv_lst (Rv.d r)
    exact ⟨a, vs, rfl, s.sq, h⟩
  · cases e
    obtain ⟨a, vs, rfl, s, h⟩ := Rv.l r
    exact ⟨a, vs, rfl, SqL.of s, h⟩
  · cases e
theorem intsF_ok {f : List Int → Option O} {os : List O} {vs : List V} {o : O} (r : RvL Z F H os vs) (e : intsF f os = some o) : ∃ a ns, vs = [V.ref a] ∧ SqL Z.K H a (ns.map V.int) ∧ f ns = some o := by
  unfold intsF at e
  split at e
  · obtain ⟨xs, ei, e2⟩ := Option.bind_eq_some_iff.mp e
    obtain ⟨ns, en, e3⟩ := Option.bind_eq_some_iff.mp e2
    obtain ⟨v, rfl, rv⟩ := r.one
    obtain ⟨p, vs, rfl, s, h⟩ := itemsL_sq rv ei
    obtain ⟨rfl, _⟩ := ints_of en h
    exact ⟨p, ns, rfl, s, e3⟩
  · cases e
theorem cr_sumO (hK : X.K = Z.K) (hc : X.calm = true) : CallR X (.builtin "sum") (rC Z sumF) := by
  refine callImp (cr_sum hc) fun vs H Q ⟨F, os, o, r, e, q⟩ => ?_
  obtain ⟨a, ns, rfl, s, e⟩ := intsF_ok r e
  cases e
  exact ⟨a, ns, rfl, by rw [hK]; exact s, q _ _ (new_int _)⟩
theorem maxL_mem : ∀ (m : Int) (r : List Int), maxL m r ∈ m :: r
  | m, [] => by simp only [maxL]; exact List.mem_cons_self
  | m, x :: r => by
    simp only [maxL]
    have h := maxL_mem (if x > m then x else m) r
    rcases List.mem_cons.mp h with h | h
    · rw [h]
      split
      · exact List.mem_cons_of_mem _ List.mem_cons_self
      · exact List.mem_cons_self
    · exact List.mem_cons_of_mem _ (List.mem_cons_of_mem _ h)
theorem maxL_ge : ∀ (m : Int) (r : List Int), ∀ y ∈ m :: r, y ≤ maxL m r
  | m, [], y, h => by
    simp only [maxL]
    rcases List.mem_cons.mp h with h | h
    · omega
    · cases h
  | m, x :: r, y, h => by
    simp only [maxL]
    have ih := maxL_ge (if x > m then x else m) r
    have h0 := ih _ List.mem_cons_self
    rcases List.mem_cons.mp h with h | h
    · subst h
      split at h0 <;> split <;> omega
    · rcases List.mem_cons.mp h with h | h
      · subst h
        split at h0 <;> split <;> omega
      · exact ih y (List.mem_cons_of_mem _ h)
theorem minL_mem : ∀ (m : Int) (r : List Int), minL m r ∈ m :: r
  | m, [] => by simp only [minL]; exact List.mem_cons_self
  | m, x :: r => by
    simp only [minL]
    have h := minL_mem (if x < m then x else m) r
    rcases List.mem_cons.mp h with h | h
    · rw [h]
      split
      · exact List.mem_cons_of_mem _ List.mem_cons_self
      · exact List.mem_cons_self
    · exact List.mem_cons_of_mem _ (List.mem_cons_of_mem _ h)
theorem minL_le : ∀ (m : Int) (r : List Int), ∀ y ∈ m :: r, minL m r ≤ y
  | m, [], y, h => by
    simp only [minL]
    rcases List.mem_cons.mp h with h | h
    · omega
    · cases h
  | m, x :: r, y, h => by
    simp only [minL]
    have ih := minL_le (if x < m then x else m) r
    have h0 := ih _ List.mem_cons_self
    rcases List.mem_cons.mp h with h | h
    · subst h
      split at h0 <;> split <;> omega
    · rcases List.mem_cons.mp h with h | h
      · subst h
        split at h0 <;> split <;> omega
      · exact ih y (List.mem_cons_of_mem _ h)
theorem cr_maxO (hK : X.K = Z.K) (hc : X.calm = true) : CallR X (.builtin "max") (rC Z (bestF maxL)) := by
  refine callImp (cr_max hc) fun vs H Q ⟨F, os, o, r, e, q⟩ => ?_
  obtain ⟨a, ns, rfl, s, e⟩ := intsF_ok r e
  cases ns with
  | nil => cases e
  | cons m r =>
    cases e
    refine ⟨a, _, rfl, by rw [hK]; exact s, by simp, fun z h1 h2 => ?_⟩
    have e : z = maxL m r := Int.le_antisymm (maxL_ge m r z h1) (h2 _ (maxL_mem m r))
    rw [e]
    exact q _ _ (new_int _)
theorem cr_minO (hK : X.K = Z.K) (hc : X.calm = true) : CallR X (.builtin "min") (rC Z (bestF minL)) := by
  refine callImp (cr_min hc) fun vs H Q ⟨F, os, o, r, e, q⟩ => ?_
  obtain ⟨a, ns, rfl, s, e⟩ := intsF_ok r e
  cases ns with
  | nil => cases e
  | cons m r =>
    cases e
    refine ⟨a, _, rfl, by rw [hK]; exact s, by simp, fun z h1 h2 => ?_⟩
    have e : z = minL m r := Int.le_antisymm (h2 _ (minL_mem m r)) (minL_le m r z h1)
    rw [e]
    exact q _ _ (new_int _)
theorem cr_max2 (hc : X.calm = true) : CallR X (.builtin "max") (rC Z max2F) := by
  refine callImp (call_max2 hc) fun vs H Q ⟨F, os, o, r, e, q⟩ => ?_
  unfold max2F at e
  split at e
  · cases e
    obtain ⟨v, w, rfl, rv, rw'⟩ := r.two
    rw [Rp.inv_int (Rv.d rv), Rp.inv_int (Rv.d rw')]
    exact ⟨_, _, rfl, q _ _ (new_int _)⟩
  · cases e
theorem cr_min2 (hc : X.calm = true) : CallR X (.builtin "min") (rC Z min2F) := by
  refine callImp (call_min2 hc) fun vs H Q ⟨F, os, o, r, e, q⟩ => ?_
  unfold min2F at e
  split at e
  · cases e
    obtain ⟨v, w, rfl, rv, rw'⟩ := r.two
    rw [Rp.inv_int (Rv.d rv), Rp.inv_int (Rv.d rw')]
    exact ⟨_, _, rfl, q _ _ (new_int _)⟩
  · cases e
theorem bols_of : ∀ {xs : List D} {bs : List Bool} {vs : List V}, bolsOf xs = some bs → Rps Z F H xs vs → vs = bs.map V.bl
  | [], bs, vs, e, r => by
    simp only [bolsOf, Option.some.injEq] at e
    subst e
    rw [r.inv0]
    rfl
  | x :: xs, bs, vs, e, r => by
    cases x with
    | bl i =>
      simp only [bolsOf] at e
      obtain ⟨ms, e1, rfl⟩ := Option.map_eq_some_iff.mp e
      obtain ⟨v, r', rfl, h1, h2⟩ := r.inv
      rw [bols_of e1 h2, Rp.inv_bl h1]
      rfl
    | _ => simp only [bolsOf] at e; cases e
theorem bolsF_ok {f : List Bool → Bool} {os : List O} {vs : List V} {o : O} (r : RvL Z F H os vs) (e : bolsF f os = some o) : ∃ a bs, vs = [V.ref a] ∧ SqL Z.K H a (bs.map V.bl) ∧ o = .d (.bl (f bs)) := by
  unfold bolsF at e
  split at e
  · obtain ⟨xs, ei, e2⟩ := Option.bind_eq_some_iff.mp e
    obtain ⟨bs, en, rfl⟩ := Option.map_eq_some_iff.mp e2
    obtain ⟨v, rfl, rv⟩ := r.one
    obtain ⟨p, vs, rfl, s, h⟩ := itemsL_sq rv ei
    rw [bols_of en h] at s
    exact ⟨p, bs, rfl, s, rfl⟩
  · cases e
theorem cr_allO (hK : X.K = Z.K) (hc : X.calm = true) : CallR X (.builtin "all") (rC Z (bolsF fun bs => bs.all id)) := by
  refine callImp (cr_all hc) fun vs H Q ⟨F, os, o, r, e, q⟩ => ?_
  obtain ⟨a, bs, rfl, s, rfl⟩ := bolsF_ok r e
  exact ⟨a, bs, rfl, by rw [hK]; exact s, q _ _ (new_bl _)⟩
theorem cr_anyO (hK : X.K = Z.K) (hc : X.calm = true) : CallR X (.builtin "any") (rC Z (bolsF fun bs => bs.any id)) := by
  refine callImp (cr_any hc) fun vs H Q ⟨F, os, o, r, e, q⟩ => ?_
  obtain ⟨a, bs, rfl, s, rfl⟩ := bolsF_ok r e
  exact ⟨a, bs, rfl, by rw [hK]; exact s, q _ _ (new_bl _)⟩
/-! ### sorted, of ints -/
theorem insI_perm (x : Int) : ∀ l : List Int, (insI x l).Perm (x :: l)
  | [] => List.Perm.refl _
  | y :: r => by
    simp only [insI]
    split
    · exact List.Perm.refl _
    · exact (List.Perm.cons y (insI_perm x r)).trans (List.Perm.swap x y r)
theorem sortI_perm : ∀ l : List Int, (sortI l).Perm l
  | [] => List.Perm.refl _
  | x :: r => by
    simp only [sortI]
    exact (insI_perm x _).trans (List.Perm.cons x (sortI_perm r))
theorem insI_sorted (x : Int) : ∀ l : List Int, l.Pairwise (· ≤ ·) → (insI x l).Pairwise (· ≤ ·)
  | [], _ => by simp only [insI]; exact List.pairwise_singleton _ _
  | y :: r, h => by
    simp only [insI]
    obtain ⟨h1, h2⟩ := List.pairwise_cons.mp h
    split
    · refine List.pairwise_cons.mpr ⟨fun z hz => ?_, h⟩
      rcases List.mem_cons.mp hz with e | hz
      · omega
      · have := h1 z hz
        omega
    · refine List.pairwise_cons.mpr ⟨fun z hz => ?_, insI_sorted x r h2⟩
      rcases List.mem_cons.mp ((insI_perm x r).mem_iff.mp hz) with e | hz
      · omega
      · exact h1 z hz
theorem sortI_sorted : ∀ l : List Int, (sortI l).Pairwise (· ≤ ·)
  | [] => List.Pairwise.nil
  | x :: r => by
    simp only [sortI]
    exact insI_sorted x _ (sortI_sorted r)
theorem sorted_one {l m : List Int} (p : l.Perm m) (h1 : l.Pairwise (· ≤ ·)) (h2 : m.Pairwise (· ≤ ·)) : l = m :=
  List.Perm.eq_of_pairwise (fun a b _ _ h3 h4 => Int.le_antisymm h3 h4) h1 h2 p
theorem Rps.ints : ∀ ns : List Int, Rps Z F H (ns.map D.int) (ns.map V.int)
  | [] => .nil
  | n :: ns => .cons (by simp only [Rp]) (Rps.ints ns)
theorem cr_sortO (hK : X.K = Z.K) : CallR X (.builtin "sorted") (rC Z sortF) := by
  refine callImp cr_sortedI fun vs H Q ⟨F, os, o, r, e, q⟩ => ?_
  obtain ⟨a, ns, rfl, s, e⟩ := intsF_ok r e
  cases e
  refine ⟨a, ns, rfl, by rw [hK]; exact s, fun ns' p hp hs hn => ?_⟩
  have e : ns' = sortI ns := sorted_one (hp.trans (sortI_perm ns).symm) hs (sortI_sorted ns)
  rw [e]
  exact q _ _ (new_lst hn (Rps.ints _))
end
end Ev
/-! Ev24: sorted(set(a list of ints)). -/
namespace Ev
open PySem PySem.Spec PyProof.Rows L2
/-- the set just made -/
abbrev set0 (w : World) : Obj := { cls := .type "set", dict := none, data := .set #[] 0 (.fresh 0 0 (!w.params.followText "set-order")) }
section
variable {P : Program} {w : World} {A : Around} {E : Value → Shared → Prop} {s : Shared}
set_option maxHeartbeats 3200000 in
theorem set_of_list {l : Addr} {its : Array Value} (ns : List Int) {Q : Value → Shared → Prop} (hh : A.handled = none) (hl : s.heap.IsList l its) (hit : IntsAre its.toList ns) (hb : ns.length + 1 < scanBound)
    (h : ∀ (h2 : Heap) (tk k : Nat), SetR w h2 s.heap.objs.size (fun j => decide (j ∈ ns)) k → k ≤ ns.length → (∀ b o, s.heap.get? b = some o → h2.get? b = some o) → Q (.ref s.heap.objs.size) { s with heap := h2, toks := tk }) :
    wpAny (model P w) A (PySem.call (.type "set") [.ref l]) Q E s := by
  have sz : its.size = ns.length := by
    rw [← Array.length_toList]
    exact IntsAre.length hit
  obtain ⟨c0, tl0, hm0⟩ := F.called_set.mro
  have made0 := F.called_set.made
  have sub0 := F.called_set.sub
  refine wpAny_call <| codeAny_of_tree ?_
  show wpAny _ _ (callAny (.type "set") ⟨[.ref l], []⟩) _ _ _
  refine wpAny_pure (And.intro (Code.quiet_builtin _ (by decide +kernel)) (codeAny_builtin F.entry_type_call ?_))
  rw [Around.under_plain (weight_type_call_type "set" [Value.ref l] []) (by rfl)]
  have g1 := F.called_set.notType
  have g2 := F.called_set.canCreate
  have g3 := F.typeCall_set_1 (Value.ref l)
  repeat (any_goals first | assumption | wp_step)
  refine codeAny_mono
    (code_set_led1 (.ref l) (E := E) (Q₁ := fun ob t => ob = .ref s.heap.objs.size ∧ t = { s with heap := s.heap.push (set0 w) }) ⟨rfl, rfl⟩)
    fun r t hr => ?_
  cases r with
  | error e => exact hr
  | ok fl =>
    cases fl with
    | ret ob =>
      obtain ⟨rfl, rfl⟩ := hr
      have hS : (s.heap.push (set0 w)).get? s.heap.objs.size = some (set0 w) := Heap.get?_push_size _ rfl
      have hT : Shared.TypeIs { s with heap := s.heap.push (set0 w) } (.ref s.heap.objs.size) "set" := ⟨_, hS, rfl⟩
      have hi1 := F.called_set.init.lookup
      have hi2 := F.called_set.init.bind (Value.ref s.heap.objs.size)
      repeat (any_goals first | assumption | wp_step)
      refine codeAny_mono (codeAny_call_builtin (R := wants (fun r t2 => r = Value.none ∧ ∃ h2 tk k, t2 = { s with heap := h2, toks := tk } ∧ SetR w h2 s.heap.objs.size (fun j => decide (j ∈ ns)) k ∧ k ≤ ns.length ∧ ∀ b o, s.heap.get? b = some o → h2.get? b = some o) E)
        F.called_set.init.plain F.entry_set_init (check_set_init_1 hT ?_)) fun r2 t2 hr2 => ?_
      · obtain ⟨⟨oc, od, oda, osl⟩, hol, hcl, nl, hdl⟩ := hl
        dsimp only at hcl hdl
        subst hcl hdl
        have hol1 : (s.heap.push (set0 w)).get? l = some { cls := .type "list", dict := od, data := .seq its nl, slots := osl } := Heap.get?_push_of_some _ hol
        have u1 := F.sub_list_set
        have u2 := F.sub_list_frozenset
        have u3 : (Value.type "list" == Value.type "dict") = false := by decide
        have hl1 : (s.heap.push (set0 w)).IsList l its := ⟨_, hol1, rfl, nl, rfl⟩
        unfold Builtin.«set.__init__» noKeywords Builtin.Frozenset.updateFrom
        generalize hPI : pyIter = PI
        wp_walk
        subst hPI
        refine wpAny_pyIter_list hl1 ?_
        refine wpAny_bind (wpAny_runValue ?_)
        have lS : l < s.heap.objs.size := Heap.lt_size hol
        have hA3 : A.in1.in1.in1.handled = none := by simp [hh]
        have zI : (s.heap.push (set0 w)).objs.size = s.heap.objs.size + 1 := Heap.size_push ..
        have lI : l ≠ (s.heap.push (set0 w)).objs.size := by
          rw [zI]
          exact Nat.ne_of_lt (Nat.lt_succ_of_lt lS)
        have sF : s.heap.objs.size ∉ [(s.heap.push (set0 w)).objs.size, l] := by
          rw [zI]
          simp only [List.mem_cons, List.not_mem_nil, or_false, not_or]
          exact And.intro (Nat.ne_of_lt (Nat.lt_succ_self _)) (Nat.ne_of_gt lS)
        have val : ∀ (i : Nat) (v : Value), its[i]? = some v → ∃ k t, ns[i]? = some k ∧ v = .int k t := fun i v hv => by
          have il : i < ns.length := by
            rw [← sz]
            exact (Array.getElem?_eq_some_iff.mp hv).1
          obtain ⟨t, e⟩ := PyProof.Rows.IntsAre.int_at hit i v (by rw [Array.getElem?_toList, hv])
          refine ⟨ns[i], t, List.getElem?_eq_getElem il, e.trans ?_⟩
          rw [List.getD_eq_getElem?_getD, List.getElem?_eq_getElem il] <;> rfl
        refine set_update_ints ((Walks.list hA3 _ l lI its).toS) s.heap.objs.size sF ns sz hb val (its.size - 0) 0 _ (by omega) (Nat.zero_le _) ⟨⟨_, Heap.get?_push_size _ rfl, rfl, rfl⟩, hl1.push _⟩ ⟨0, Nat.le_refl 0, setR_new_at (Heap.get?_push_of_some _ hS)⟩ fun t3 k hm hk hR => ?_
        obtain ⟨h3, g4, d3, tk3, os3⟩ := t3
        have e1 : g4 = s.gens := hm.gens
        have e2 : d3 = s.drawn := hm.drawn
        have e3 : os3 = s.os := hm.os
        subst e1 e2 e3
        show wpAny _ _ _ _ _ _
        refine wpAny_pure ?_
        show wpAny _ _ (ret .none) _ _ _
        rw [sz] at hk
        refine wpAny_pure ⟨rfl, h3, tk3, k, rfl, hR, hk, fun b o e => ?_⟩
        have b0 := Heap.lt_size e
        refine hm.heap b o ?_ (Heap.get?_push_of_some _ (Heap.get?_push_of_some _ e))
        simp only [List.mem_cons, List.not_mem_nil, or_false, not_or]
        exact ⟨Nat.ne_of_lt b0, by rw [zI]; exact Nat.ne_of_lt (Nat.lt_succ_of_lt b0)⟩
      · cases r2 with
        | error e => exact hr2
        | ok fl2 =>
          cases fl2 with
          | ret r =>
            obtain ⟨rfl, h2, tk, k, rfl, q1, q2, q3⟩ := hr2
            repeat (any_goals first | assumption | wp_step)
            exact h _ _ _ q1 q2 q3
          | _ => exact hr2.elim
    | _ => exact hr.elim
end
end Ev
/-! Ev25: sorted(set(a list of ints)), the rule. -/
namespace Ev
open PySem PySem.Spec PyProof.Rows L2
section
theorem insS_mem {x k : Int} : ∀ {l : List Int}, k ∈ insS x l ↔ k = x ∨ k ∈ l
  | [] => by simp [insS]
  | y :: r => by
    simp only [insS]
    split
    · simp only [List.mem_cons]
    · split
      · rename_i e
        subst e
        simp only [List.mem_cons]
        exact ⟨fun z => .inr z, fun z => z.elim (fun e => .inl e) id⟩
      · simp only [List.mem_cons, insS_mem (l := r)]
        exact ⟨fun z => z.elim (fun e => .inr (.inl e)) fun z => z.elim .inl fun z => .inr (.inr z), fun z => z.elim (fun e => .inr (.inl e)) fun z => z.elim .inl fun z => .inr (.inr z)⟩
theorem insS_up {x : Int} : ∀ {l : List Int}, l.Pairwise (· < ·) → (insS x l).Pairwise (· < ·)
  | [], _ => by simp only [insS]; exact List.pairwise_singleton _ _
  | y :: r, h => by
    obtain ⟨h1, h2⟩ := List.pairwise_cons.mp h
    simp only [insS]
    split
    · refine List.pairwise_cons.mpr ⟨fun z hz => ?_, h⟩
      rcases List.mem_cons.mp hz with e | hz
      · omega
      · have := h1 z hz
        omega
    · split
      · exact h
      · refine List.pairwise_cons.mpr ⟨fun z hz => ?_, insS_up h2⟩
        rcases insS_mem.mp hz with e | hz
        · omega
        · exact h1 z hz
theorem sortS_mem {k : Int} : ∀ {l : List Int}, k ∈ sortS l ↔ k ∈ l
  | [] => by simp [sortS]
  | x :: r => by simp only [sortS, insS_mem, List.mem_cons, sortS_mem (l := r)]
theorem sortS_up : ∀ {l : List Int}, (sortS l).Pairwise (· < ·)
  | [] => List.Pairwise.nil
  | x :: r => insS_up sortS_up
theorem up_one : ∀ {l m : List Int}, l.Pairwise (· < ·) → m.Pairwise (· < ·) → (∀ k, k ∈ l ↔ k ∈ m) → l = m
  | [], [], _, _, _ => rfl
  | [], y :: m, _, _, h => absurd ((h y).mpr List.mem_cons_self) (by simp)
  | x :: l, [], _, _, h => absurd ((h x).mp List.mem_cons_self) (by simp)
  | x :: l, y :: m, h1, h2, h => by
    obtain ⟨a1, a2⟩ := List.pairwise_cons.mp h1
    obtain ⟨b1, b2⟩ := List.pairwise_cons.mp h2
    have e : x = y := by
      rcases List.mem_cons.mp ((h x).mp List.mem_cons_self) with z | z
      · exact z
      · rcases List.mem_cons.mp ((h y).mpr List.mem_cons_self) with z2 | z2
        · exact z2.symm
        · have := a1 y z2
          have := b1 x z
          omega
    subst e
    rw [up_one a2 b2 fun k => ?_]
    constructor
    · intro hk
      rcases List.mem_cons.mp ((h k).mp (List.mem_cons_of_mem _ hk)) with z | z
      · have := a1 k hk
        omega
      · exact z
    · intro hk
      rcases List.mem_cons.mp ((h k).mpr (List.mem_cons_of_mem _ hk)) with z | z
      · have := b1 k hk
        omega
      · exact z
end
section
variable {X : Cx} {Z : Wo}
def tSortSet (K : PySem.W.Frag) (ta : TE) : TE := fun σ H Q => ta σ H fun x H1 => ∃ (l : Addr) (ns : List Int), x = .ref l ∧ SqL K H1 l (ns.map V.int) ∧ ns.length < 64 ∧ ∀ p, H1 p = none → Q (.ref p) (upd H1 p (.lst ((sortS ns).map V.int)))
theorem pe_sortSet {a : Expr} {ta : TE} {p p2 q pos : Pos} (hc : X.calm = true) (hg : Gl X "sorted") (hm : X.mg "sorted" = none) (hg2 : Gl X "set") (hm2 : X.mg "set" = none) (ha : PE X a ta) (na : starEach [a] X.env = (false, eval a X.env) :: starEach [] X.env) :
    PE X (.Call (.Name "sorted" p) [.Call (.Name "set" p2) [a] [] q] [] pos) (tSortSet X.K ta) := by
  refine ⟨fun pins s σ H Q I h => ?_⟩
  refine Call_ (ld_blt I hg hm (show bootBuiltins "sorted" = some (.builtin "sorted") by decide +kernel) (PyProof.Rows.callWith_builtin1 (PyProof.Rows.args_cons ?_ rfl) rfl rfl))
  refine Call_ (ld_blt I hg2 hm2 PyProof.Rows.boot_set (PyProof.Rows.callWith_type1 (PyProof.Rows.args_cons (thn (ha.run pins s σ H _ I h) fun v s1 ⟨x, H1, I1, r1, q1⟩ => PyProof.Rows.args_nil ?_) na) na rfl))
  obtain ⟨l, ns, rfl, hq, hl, q1⟩ := q1
  cases r1
  obtain ⟨its, r, pl, hz⟩ := I1.list hq
  refine set_of_list ns (I1.ok.hd hc) pl.isList (by simpa using RZ.intsAre_vals r) (by unfold scanBound; omega) fun h2 tk k hR hk kp => PyProof.Rows.args_nil ?_
  have I2 : Inv X pins σ H1 { s1 with heap := h2, toks := tk } := I1.kept kp
  refine sorted_set (s := { s1 with heap := h2, toks := tk }) hR (I2.ok.hd hc) (by omega) fun s3 b out c ms k3 g3 o3 hb hp hi hs hms hln => ?_
  have em : ms = sortS ns := up_one hs sortS_up fun j => by rw [hms j, sortS_mem, decide_eq_true_eq]
  subst em
  have hn : H1 b = none := I2.hok.fresh hb
  have hlen : ((sortS ns).map V.int).length ≤ sizeLine := by rw [List.length_map, hln, sizeLine_eq]; omega
  have J : Inv X pins σ (upd H1 b (.lst ((sortS ns).map V.int))) { ({ s1 with heap := h2, toks := tk } : Shared) with heap := s3.heap, gens := s3.gens, drawn := s3.drawn, toks := s3.toks } :=
    I2.call (ch := []) (Un.laid k3 hb hn) (I2.hok.laid k3 hb ⟨hlen, out.toList, c, vals_of_ints hi, hp⟩) (by rw [g3]; exact I2.bare) (fun _ z => nomatch z)
  have e : s3 = { ({ s1 with heap := h2, toks := tk } : Shared) with heap := s3.heap, gens := s3.gens, drawn := s3.drawn, toks := s3.toks } := by
    cases s3
    cases s1
    cases o3
    rfl
  rw [e]
  exact ⟨.ref b, _, J, rfl, q1 b hn⟩
end
end Ev
/-! Ev5: which text an expression is (the look), the context, small rules. -/
namespace Ev
open PySem PySem.Spec PyProof.Rows L2
/-! ### the look -/
/-- names of the law: its defs, its constants, its texts, its errors -/
structure Nm where
  fns : List Str
  cons : List Str
  txt : List Str
  exs : List Str
  ars : List Nat
  told : Option Str
deriving Inhabited
/-- where one stands: the slots' names, the scope -/
structure Cs where
  N : List Str
  sc : Scope
  lam : Bool
/-- the k-th name -/
def nth (l : List Str) (k : Nat) (x : Str) : Bool := match l[k]? with
  | some y => decide (y = x)
  | none => false
theorem nth_of {l : List Str} {k : Nat} {x : Str} (h : nth l k x = true) : l[k]? = some x := by
  unfold nth at h
  cases e : l[k]? with
  | none => rw [e] at h; cases h
  | some y =>
    rw [e] at h
    rw [of_decide_eq_true h]
def visB (c : Cs) (x : Str) : Bool := match c.sc.names.lookup x with
  | some .local => true
  | some .cell => true
  | some .free => true
  | _ => false
def locB (c : Cs) (x : Str) : Bool := match c.sc.names.lookup x with
  | some .local => true
  | some .cell => true
  | _ => false
def glB (c : Cs) (x : Str) : Bool := match c.sc.names.lookup x with
  | some .globalImplicit => true
  | _ => false
def odd (x : Str) : Bool := (x == ("__debug__" : Str)) || (x == ("__classdict__" : Str)) || (x == ("__name__" : Str))
/-- a name of the def's in slot i; a stored one; a global one -/
def varB (c : Cs) (i : Nat) (x : Str) : Bool := nth c.N i x && (visB c x && !odd x)
def stoB (c : Cs) (i : Nat) (x : Str) : Bool := nth c.N i x && (locB c x && !odd x)
def isStar : Expr → Bool
  | .Starred _ _ => true
  | _ => false
def isSlice : Expr → Bool
  | .Slice _ _ _ _ => true
  | _ => false
/-- it is asked for its truth as a value -/
def plainT : Expr → Bool
  | .UnaryOp .Not _ _ => false
  | .BoolOp _ _ _ => false
  | .IfExp _ _ _ _ => false
  | .Compare _ _ _ _ => false
  | _ => true
def copOf : Cop → CmpOp
  | .eq => .Eq | .ne => .NotEq | .lt => .Lt | .le => .LtE | .gt => .Gt | .ge => .GtE | .isin => .In | .notin => .NotIn | .is_ => .Is | .isnot => .IsNot
def bltS : Blt → Str
  | .len => "len" | .abs => "abs" | .int => "int" | .tuple => "tuple" | .list => "list" | .sum => "sum" | .max => "max" | .min => "min" | .max2 => "max" | .min2 => "min" | .min3 => "min"
  | .all => "all" | .any => "any" | .sorted => "sorted" | .sortedSet => "set" | .dict => "dict"
def tyS : Ty → Str
  | .int => "int" | .bool => "bool" | .str => "str" | .tuple => "tuple" | .list => "list"
def isIte : E → Bool
  | .ite _ _ _ => true
  | _ => false
/-! ### the context -/
structure Gw where
  Z : Wo
  P : Program
  w : World
  mg : Str → Option Value
  base : Heap
  T : Top
  C : Calls
  nm : Nm
  ar : Nat → Nat
/-- what a def of level k promises -/
def spF (Y : Gw) (k f : Nat) : Sp := fun vs H Q E => ∃ (F : Fz) (args : Ev), vs.length = Y.ar f ∧ args.length = vs.length ∧ (∀ i : Nat, args[i]? ≠ some none) ∧ (∀ (j : Nat) (w : W), args[j]? = some (some w) → isOwn w = true → isP w = true) ∧ Sta Y.Z F H (vs.map some) args ∧
  PostG Y.Z E (relE Y.Z) (vs.map some) F H args (Y.C k f args) Q
/-- the built-ins that are used -/
def bltN : List Str := ["len", "abs", "int", "tuple", "list", "sum", "max", "min", "all", "any", "sorted", "set", "dict", "isinstance", "bool", "str", "range", "enumerate", "zip"]
structure Gok (Y : Gw) : Prop where
  st : StOk Y.Z
  sts : Y.Z.ST = Y.nm.txt
  blt : ∀ x ∈ bltN, Y.mg x = none
  con : ∀ (k : Nat) (x : Str), Y.nm.cons[k]? = some x → ∃ (d : D) (v : V) (u : Value), Y.T.con[k]? = some d ∧ Y.mg x = some u ∧ RelV v u ∧ ∀ F H, Rp Y.Z F H d v
structure Fok (Y : Gw) (n : Nat) : Prop where
  fn : ∀ (f : Nat) (x : Str), Y.nm.fns[f]? = some x → ∃ (a : Addr) (fd : FuncData) (ps : List Str), Y.mg x = some (.ref a) ∧ PySem.W.keepIn Y.Z.K (.ref a) = true ∧ L2.Binds Y.Z.K fd ps [] ∧
    ∀ k, k ≤ n → FnOk Y.P Y.w Y.Z.K Y.mg Y.base (L2.CX Y.P Y.w) k a fd ps (spF Y k f)
structure Good (Y : Gw) (n : Nat) (c : Cs) (E : XK) (X : Cx) : Prop where
  prog : X.prog = Y.P
  w : X.w = Y.w
  K : X.K = Y.Z.K
  mg : X.mg = Y.mg
  base : X.base = Y.base
  N : X.N = c.N
  nd : c.N.Nodup
  vis : ∀ x, visB c x = true → Vis X.env.scope x
  loc : ∀ x, locB c x = true → Loc X.env.scope x ∧ (X.fn x = true ∨ X.env.scope.names.lookup x = some .local)
  gl : ∀ x, glB c x = true → Gl X x
  calm : X.calm = true
  room : Room n X.A
  pass : Passes (L2.CX X.prog X.w) X E
section
variable {Y : Gw} {n : Nat} {c : Cs} {E : XK} {X : Cx}
theorem odd_no {x : Str} (h : odd x = false) : (x == ("__debug__" : Str)) = false ∧ (x == ("__classdict__" : Str)) = false ∧ x ≠ "__name__" := by
  unfold odd at h
  simp only [Bool.or_eq_false_iff] at h
  exact ⟨h.1.1, h.1.2, fun e => by simp [e] at h⟩
theorem Good.hu (g : Good Y n c E X) : X.A.units + 65 < cLine := by
  have := g.room.un
  omega
/-! ### small rules -/
theorem peImp {e : Expr} {t t' : TE} (h : PE X e t) (i : ∀ σ H Q, t' σ H Q → t σ H Q) : PE X e t' := ⟨fun pins s σ H Q I q => h.run pins s σ H Q I (i σ H Q q)⟩
theorem ptImp {e : Expr} {t t' : TT} (h : PT X e t) (i : ∀ σ H Q, t' σ H Q → t σ H Q) : PT X e t' := ⟨fun pins s σ H Q I q => h.run pins s σ H Q I (i σ H Q q)⟩
theorem paImp {es : List Expr} {t t' : TA} (h : PA X es t) (i : ∀ σ H Q, t' σ H Q → t σ H Q) : PA X es t' := ⟨fun pos pins s σ H Q I q => h.run pos pins s σ H Q I (i σ H Q q)⟩
theorem star_cons {e : Expr} {es : List Expr} {env : Env} (h : isStar e = false) : starEach (e :: es) env = (false, eval e env) :: starEach es env := by
  cases e <;> first | rfl | (cases h)
theorem plain_ix {e : Expr} (h : isSlice e = false) : PlainIx e := by
  intro o i
  cases e <;> first | rfl | (cases h)
theorem plain_true {e : Expr} {env : Env} (h : plainT e = true) : ∀ whole, isTrue e env whole = (do let v ← whole; standAt e.pos; holding [v] (truthy v)) := by
  intro whole
  cases e with
  | UnaryOp op x p => cases op <;> first | rfl | (cases h)
  | BoolOp _ _ _ => cases h
  | IfExp _ _ _ _ => cases h
  | Compare _ _ _ _ => cases h
  | _ => rfl
theorem star_none {es : List Expr} {env : Env} {pos : Pos} (h : es.all (fun e => !isStar e) = true) : (backTo pos (starEach es env)).any (·.1) = false := by
  induction es with
  | nil => rfl
  | cons e es ih =>
    simp only [List.all_cons, Bool.and_eq_true, Bool.not_eq_true'] at h
    rw [star_cons h.1]
    show (false || (backTo pos (starEach es env)).any (·.1)) = false
    rw [ih (by simpa using h.2)] <;> rfl
variable {σ : L2.St} {H : Hp} {α β γ δ : Type}
/-- one part, two parts -/
theorem one {Z : Wo} {rel : Rel γ δ} {f : Ev → R O} {k : O → Ev → R γ} {Q : δ → Hp → Prop} {Q2 : VK} (h : LG Z E rel (fun ρ => (f ρ).bind k) σ H Q)
    (i : ∀ a ρ1 x F1 H1 F0 H0 ρ0, Path Z σ F0 H0 ρ0 σ F1 H1 ρ1 → Out Z F1 H1 σ ρ1 a x → Frs H0 a x → PostG Z E rel σ F0 H0 ρ0 (k a ρ1) Q → Q2 x H1) : LE Z E f σ H Q2 := by
  obtain ⟨F0, H0, ρ0, F, ρ, p, post⟩ := h
  exact run p post fun a ρ1 x F1 H1 p1 p0 r q => i a ρ1 x F1 H1 F0 H0 ρ0 p0 r.1 (r.2.back p) q
theorem two {Z : Wo} {rel : Rel γ δ} {f : Ev → R O} {g : Ev → R O} {k : O → O → Ev → R γ} {Q : δ → Hp → Prop} {Q2 : V → V → Hp → Prop} (h : LG Z E rel (fun ρ => (f ρ).bind fun a ρ1 => (g ρ1).bind (k a)) σ H Q)
    (i : ∀ a b ρ2 x y F2 H2 F0 H0 ρ0, Path Z σ F0 H0 ρ0 σ F2 H2 ρ2 → Out Z F2 H2 σ ρ2 a x → Out Z F2 H2 σ ρ2 b y → PostG Z E rel σ F0 H0 ρ0 (k a b ρ2) Q → Q2 x y H2) :
    LE Z E f σ H fun x H1 => LE Z E g σ H1 fun y H2 => Q2 x y H2 := by
  refine one h fun a ρ1 x F1 H1 F0 H0 ρ0 p o fr post => ?_
  exact run p post fun b ρ2 y F2 H2 p12 p02 r q => i a b ρ2 x y F2 H2 F0 H0 ρ0 p02 (o.step p.st p12 fun _ _ z => z) r.1 q
/-- a value that is there -/
theorem here_d {Z : Wo} {F0 F1 : Fz} {H0 H1 : Hp} {ρ0 ρ1 : Ev} {x : D} {v : V} {Q : VK} (p : Path Z σ F0 H0 ρ0 σ F1 H1 ρ1) (post : PostG Z E (relE Z) σ F0 H0 ρ0 (.ok (.d x) ρ1) Q) (r : Rp Z F1 H1 x v) : Q v H1 :=
  fin_new p post (.here r)
theorem snd_const {Z : Wo} {e : Expr} {d : D} {v : V} (h : PE X e (tC v)) (r : ∀ F H, Rp Z F H d v) : PE X e (LE Z E fun ρ => .ok (.d d) ρ) :=
  peImp h fun σ H Q ⟨F0, H0, ρ0, F, ρ, p, post⟩ => here_d p post (r F H)
theorem snd_var {Z : Wo} {e : Expr} {i : Nat} (h : PE X e (tVar i)) : PE X e (LE Z E (varS i)) := by
  refine peImp h fun σ H Q ⟨F0, H0, ρ0, F, ρ, p, post⟩ => ?_
  unfold varS at post
  split at post
  · rename_i x ex
    obtain ⟨v, e1, r⟩ := p.st.rep i _ ex
    exact ⟨v, e1, here_d p post r⟩
  · exact post.elim
  · rename_i w nx ex
    obtain ⟨v, e1, r⟩ := p.st.rep i _ ex
    exact ⟨v, e1, post v F H p ⟨e1, fun z => by cases z⟩⟩
  · exact post.elim
theorem snd_bin {Z : Wo} {a b : Expr} {op : Operator} {h : O → O → Option O} {f g : Ev → R O} {pos : Pos} (ha : PE X a (LE Z E f)) (hb : PE X b (LE Z E g)) (ho : OpR X (binaryOp op) (rN Z h)) :
    PE X (.BinOp a op b pos) (LE Z E fun ρ => (f ρ).bind fun x ρ1 => (g ρ1).bind fun y ρ2 => oko (h (rs ρ2 x) (rs ρ2 y)) ρ2) := by
  refine peImp (pe_op ho ha hb) fun σ H Q q => two q fun a b ρ2 x y F2 H2 F0 H0 ρ0 p oa ob post => ?_
  unfold oko at post
  cases e : h (rs ρ2 a) (rs ρ2 b) with
  | none => rw [e] at post; exact post.elim
  | some o =>
    rw [e] at post
    exact ⟨F2, _, _, o, oa.rv p.st, ob.rv p.st, e, fun v H' nw => fin_new p post nw⟩
theorem snd_cmp {Z : Wo} {a b : Expr} {op : CmpOp} {h : O → O → Option Bool} {f g : Ev → R O} {pos : Pos} (ha : PE X a (LE Z E f)) (hb : PE X b (LE Z E g)) (ho : OpR X (compareOp op) (rNb Z h)) (hm : behindInMarks op b = false) :
    PE X (.Compare a [op] [b] pos) (LE Z E fun ρ => (f ρ).bind fun x ρ1 => (g ρ1).bind fun y ρ2 => okb (h (rs ρ2 x) (rs ρ2 y)) ρ2) := by
  refine peImp (pe_cmpR ho ha hb hm) fun σ H Q q => two q fun a b ρ2 x y F2 H2 F0 H0 ρ0 p oa ob post => ?_
  unfold okb at post
  cases e : h (rs ρ2 a) (rs ρ2 b) with
  | none => rw [e] at post; exact post.elim
  | some o =>
    rw [e] at post
    exact ⟨F2, _, _, o, oa.rv p.st, ob.rv p.st, e, fin_new p post (new_bl o)⟩
/-- a test's end -/
theorem fin_t {Z : Wo} {F0 F1 : Fz} {H0 H1 : Hp} {ρ0 ρ1 : Ev} {b : Bool} {Q : Bool → Hp → Prop} (p : Path Z σ F0 H0 ρ0 σ F1 H1 ρ1) (post : PostG Z E relT σ F0 H0 ρ0 (.ok b ρ1) Q) : Q b H1 := post b F1 H1 p rfl
theorem asT_bl {b : Bool} {ρ : Ev} : asT (.ok (.d (.bl b)) ρ) = .ok b ρ := rfl
theorem bind_assoc {r : R α} {f : α → Ev → R β} {g : β → Ev → R γ} : (r.bind f).bind g = r.bind fun a ρ => (f a ρ).bind g := by cases r <;> rfl
theorem asT_bind {r : R α} {f : α → Ev → R O} : asT (r.bind f) = r.bind fun a ρ => asT (f a ρ) := bind_assoc
theorem snd_cmpT {Z : Wo} {a b : Expr} {op : CmpOp} {h : O → O → Option Bool} {f g : Ev → R O} {pos : Pos} (ha : PE X a (LE Z E f)) (hb : PE X b (LE Z E g)) (ho : OpR X (compareOp op) (rNb Z h)) (hm : behindInMarks op b = false) :
    PT X (.Compare a [op] [b] pos) (LT Z E fun ρ => asT ((f ρ).bind fun x ρ1 => (g ρ1).bind fun y ρ2 => okb (h (rs ρ2 x) (rs ρ2 y)) ρ2)) := by
  refine ptImp (pt_cmpR ho ha hb hm) fun σ H Q q => ?_
  simp only [asT_bind] at q
  refine two q fun a b ρ2 x y F2 H2 F0 H0 ρ0 p oa ob post => ?_
  unfold okb at post
  cases e : h (rs ρ2 a) (rs ρ2 b) with
  | none => rw [e] at post; exact post.elim
  | some o =>
    rw [e] at post
    exact ⟨F2, _, _, o, oa.rv p.st, ob.rv p.st, e, o, rfl, fin_t p post⟩
/-- an expression whose truth is asked -/
theorem snd_truth {Z : Wo} {e : Expr} {f : Ev → R O} (hK : X.K = Z.K) (h : PE X e (LE Z E f)) (hp : plainT e = true) : PT X e (LT Z E fun ρ => asT (f ρ)) := by
  refine ptImp (pt_truth h (plain_true hp)) fun σ H Q q => one q fun a ρ1 x F1 H1 F0 H0 ρ0 p o fr post => ?_
  cases e : truth (rs ρ1 a) with
  | none => rw [e] at post; exact post.elim
  | some b =>
    rw [e] at post
    exact ⟨b, by rw [hK]; exact tru_O (o.rv p.st) e, fin_t p post⟩
theorem snd_not {Z : Wo} {a : Expr} {f : Ev → R O} {pos : Pos} (h : PT X a (LT Z E fun ρ => asT (f ρ))) : PT X (.UnaryOp .Not a pos) (LT Z E fun ρ => asT ((asT (f ρ)).bind fun b ρ1 => .ok (.d (.bl (!b))) ρ1)) := by
  refine ptImp (pt_not h) fun σ H Q ⟨F0, H0, ρ0, F, ρ, p, post⟩ => ?_
  simp only [asT_bind, asT_bl] at post
  exact run p post fun b ρ1 b' F1 H1 _ p1 r q => by
    obtain rfl : b' = b := r
    exact fin_t p1 q
/-- not, as a value -/
theorem snd_notV {Z : Wo} {a : Expr} {pos : Pos} {f : Ev → R O} (hK : X.K = Z.K) (h : PE X a (LE Z E f)) : PE X (.UnaryOp .Not a pos) (LE Z E fun ρ => (asT (f ρ)).bind fun b ρ1 => .ok (.d (.bl (!b))) ρ1) := by
  refine peImp (pe_notT h) fun σ H Q q => ?_
  unfold asT at q
  simp only [bind_assoc] at q
  refine one q fun a ρ1 x F1 H1 F0 H0 ρ0 p o fr post => ?_
  cases e : truth (rs ρ1 a) with
  | none => rw [e] at post; exact post.elim
  | some b =>
    rw [e] at post
    exact ⟨b, by rw [hK]; exact tru_O (o.rv p.st) e, fin_new p post (new_bl _)⟩
end
end Ev
/-! Ev6: rules for expressions: and, or, chains, displays, subscripts, slices, calls of built-ins, methods. -/
namespace Ev
open PySem PySem.Spec PyProof.Rows L2
section
variable {n : Nat} {E : XK} {X : Cx} {Z : Wo} {σ : L2.St} {H : Hp} {α β γ δ : Type}
/-! ### and, or -/
theorem snd_ao1 {op : PySem.BoolOp} {a : Expr} {pos : Pos} {f : Ev → R O} (h : PE X a (LE Z E f)) : PE X (.BoolOp op [a] pos) (LE Z E f) := pe_one h
theorem onB_ok {stop : Bool} {r : R O} {f : Ev → R O} : onB stop r f = r.bind fun o ρ1 => match o with
    | .d (.bl b) => if b = stop then .ok (.d (.bl b)) ρ1 else f ρ1
    | _ => .stuck := rfl
theorem snd_and {a b : Expr} {rest : List Expr} {pos : Pos} {f g : Ev → R O} (ha : PE X a (LE Z E f)) (hb : PE X (.BoolOp .And (b :: rest) pos) (LE Z E g)) :
    PE X (.BoolOp .And (a :: b :: rest) pos) (LE Z E fun ρ => onB false (f ρ) g) := by
  refine peImp (pe_and ha hb) fun σ H Q q => one q fun o ρ1 x F1 H1 F0 H0 ρ0 p oa fr post => ?_
  split at post
  · rename_i b
    refine ⟨b, Rp.inv_bl oa.dp, ?_⟩
    cases b with
    | true => exact ⟨F0, H0, ρ0, F1, ρ1, p, post⟩
    | false => exact fin_new p post (new_bl _)
  · exact post.elim
theorem snd_or {a b : Expr} {rest : List Expr} {pos : Pos} {f g : Ev → R O} (ha : PE X a (LE Z E f)) (hb : PE X (.BoolOp .Or (b :: rest) pos) (LE Z E g)) :
    PE X (.BoolOp .Or (a :: b :: rest) pos) (LE Z E fun ρ => onB true (f ρ) g) := by
  refine peImp (pe_or ha hb) fun σ H Q q => one q fun o ρ1 x F1 H1 F0 H0 ρ0 p oa fr post => ?_
  split at post
  · rename_i b
    refine ⟨b, Rp.inv_bl oa.dp, ?_⟩
    cases b with
    | false => exact ⟨F0, H0, ρ0, F1, ρ1, p, post⟩
    | true => exact fin_new p post (new_bl _)
  · exact post.elim
theorem asT_onB {stop : Bool} {r : R O} {g : Ev → R O} {Q : Bool → Hp → Prop} {F0 : Fz} {H0 : Hp} {ρ0 : Ev} (post : PostG Z E relT σ F0 H0 ρ0 (asT (onB stop r g)) Q) :
    PostG Z E relT σ F0 H0 ρ0 ((asT r).bind fun b ρ1 => if b = stop then .ok b ρ1 else asT (g ρ1)) Q := by
  unfold onB at post
  cases r with
  | ok o ρ1 =>
    simp only [R.bind_ok] at post ⊢
    split at post
    · rename_i b
      rw [asT_bl]
      by_cases e : b = stop
      · rw [if_pos e] at post
        simp only [R.bind_ok]
        rw [if_pos e]
        exact post
      · rw [if_neg e] at post
        simp only [R.bind_ok]
        rw [if_neg e]
        exact post
    · exact post.elim
  | exc c ρ1 => exact post
  | stuck => exact post.elim
theorem snd_andT {a b : Expr} {rest : List Expr} {pos : Pos} {f g : Ev → R O} (ha : PT X a (LT Z E fun ρ => asT (f ρ))) (hb : PW X (.BoolOp .And (b :: rest) pos) (LT Z E fun ρ => asT (g ρ))) :
    PW X (.BoolOp .And (a :: b :: rest) pos) (LT Z E fun ρ => asT (onB false (f ρ) g)) := by
  refine ⟨fun wh pins s σ H Q I q => (pw_and ha hb).run wh pins s σ H Q I ?_⟩
  obtain ⟨F0, H0, ρ0, F, ρ, p, post⟩ := q
  refine run p (asT_onB post) fun c ρ1 c' F1 H1 _ p1 r post => ?_
  obtain rfl : c' = c := r
  cases c' with
  | true =>
    rw [if_pos rfl]
    exact ⟨F0, H0, ρ0, F1, ρ1, p1, post⟩
  | false => exact fin_t p1 post
theorem snd_orT {a b : Expr} {rest : List Expr} {pos : Pos} {f g : Ev → R O} (ha : PT X a (LT Z E fun ρ => asT (f ρ))) (hb : PW X (.BoolOp .Or (b :: rest) pos) (LT Z E fun ρ => asT (g ρ))) :
    PW X (.BoolOp .Or (a :: b :: rest) pos) (LT Z E fun ρ => asT (onB true (f ρ) g)) := by
  refine ⟨fun wh pins s σ H Q I q => (pw_or ha hb).run wh pins s σ H Q I ?_⟩
  obtain ⟨F0, H0, ρ0, F, ρ, p, post⟩ := q
  refine run p (asT_onB post) fun c ρ1 c' F1 H1 _ p1 r post => ?_
  obtain rfl : c' = c := r
  cases c' with
  | false =>
    rw [if_neg Bool.false_ne_true]
    exact ⟨F0, H0, ρ0, F1, ρ1, p1, post⟩
  | true => exact fin_t p1 post
/-! ### chains -/
abbrev chainR (h h' : O → O → Option Bool) (f g k : Ev → R O) (ρ : Ev) : R O := (f ρ).bind fun x ρ1 => (g ρ1).bind fun y ρ2 => R.opt (h (rs ρ2 x) (rs ρ2 y)) fun c =>
  if c = true then (k ρ2).bind fun z ρ3 => okb (h' (rs ρ3 y) (rs ρ3 z)) ρ3 else .ok (.d (.bl false)) ρ2
theorem snd_chain {a b c : Expr} {op op' : CmpOp} {h h' : O → O → Option Bool} {f g k : Ev → R O} {pos : Pos} (ho : OpR X (compareOp op) (rNb Z h)) (ho' : OpR X (compareOp op') (rNb Z h')) (ha : PE X a (LE Z E f)) (hb : PE X b (LE Z E g)) (hc : PE X c (LE Z E k))
    (hm : behindInMarks op b = false) (hm' : behindInMarks op' c = false) :
    PE X (.Compare a [op, op'] [b, c] pos) (LE Z E (chainR h h' f g k)) := by
  refine peImp (pe_chain ho ho' ha hb hc (by exact hm')) fun σ H Q q => two q fun a b ρ2 x y F2 H2 F0 H0 ρ0 p oa ob post => ?_
  cases e : h (rs ρ2 a) (rs ρ2 b) with
  | none => rw [e] at post; exact post.elim
  | some o =>
    rw [e] at post
    refine ⟨F2, _, _, o, oa.rv p.st, ob.rv p.st, e, o, rfl, ?_⟩
    cases o with
    | true =>
      rw [if_pos rfl]
      refine run p post fun z ρ3 w F3 H3 p23 p03 r post => ?_
      unfold okb at post
      cases e : h' (rs ρ3 b) (rs ρ3 z) with
      | none => rw [e] at post; exact post.elim
      | some o =>
        rw [e] at post
        exact ⟨F3, _, _, o, (ob.step p.st p23 fun _ _ z => z).rv p03.st, r.1.rv p03.st, e, fin_new p03 post (new_bl o)⟩
    | false => exact iteF (fin_new p post (new_bl false))
theorem snd_chainT {a b c : Expr} {op op' : CmpOp} {h h' : O → O → Option Bool} {f g k : Ev → R O} {pos : Pos} (ho : OpR X (compareOp op) (rNb Z h)) (ho' : OpR X (compareOp op') (rNb Z h')) (ha : PE X a (LE Z E f)) (hb : PE X b (LE Z E g)) (hc : PE X c (LE Z E k))
    (hm : behindInMarks op b = false) (hm' : behindInMarks op' c = false) :
    PT X (.Compare a [op, op'] [b, c] pos) (LT Z E fun ρ => asT (chainR h h' f g k ρ)) := by
  refine ptImp (pt_chain ho ho' ha hb hc (by exact hm')) fun σ H Q q => ?_
  unfold chainR at q
  simp only [asT_bind] at q
  refine two q fun a b ρ2 x y F2 H2 F0 H0 ρ0 p oa ob post => ?_
  cases e : h (rs ρ2 a) (rs ρ2 b) with
  | none => rw [e] at post; exact post.elim
  | some o =>
    rw [e] at post
    refine ⟨F2, _, _, o, oa.rv p.st, ob.rv p.st, e, o, rfl, ?_⟩
    cases o with
    | true =>
      rw [if_pos rfl]
      simp only [R.opt_some, if_pos, asT_bind] at post
      refine run p post fun z ρ3 w F3 H3 p23 p03 r post => ?_
      unfold okb at post
      cases e : h' (rs ρ3 b) (rs ρ3 z) with
      | none => rw [e] at post; exact post.elim
      | some o =>
        rw [e] at post
        exact ⟨F3, _, _, o, (ob.step p.st p23 fun _ _ z => z).rv p03.st, r.1.rv p03.st, e, o, rfl, fin_t p03 post⟩
    | false => exact iteF ⟨false, rfl, fin_t p post⟩
/-! ### a if t else b -/
theorem snd_ite {c a b : Expr} {pos : Pos} {fc fa fb : Ev → R O} (hc : PT X c (LT Z E fun ρ => asT (fc ρ))) (ha : PE X a (LE Z E fa)) (hb : PE X b (LE Z E fb)) : PE X (.IfExp c a b pos) (LE Z E fun ρ => ifB (asT (fc ρ)) fa fb) := by
  refine peImp (pe_ifExp hc ha hb) fun σ H Q ⟨F0, H0, ρ0, F, ρ, p, post⟩ => ?_
  refine run p post fun k ρ1 k' F1 H1 _ p1 r post => ?_
  obtain rfl : k' = k := r
  cases k' with
  | true =>
    rw [if_pos rfl]
    exact ⟨F0, H0, ρ0, F1, ρ1, p1, post⟩
  | false =>
    rw [if_neg Bool.false_ne_true]
    exact ⟨F0, H0, ρ0, F1, ρ1, p1, post⟩
/-! ### lists of expressions -/
theorem snd_nil : PA X [] (LA Z E fun ρ => .ok [] ρ) := paImp pa_nil fun σ H Q ⟨F0, H0, ρ0, F, ρ, p, post⟩ => post [] F H p rfl
theorem snd_cons {e : Expr} {es : List Expr} {f : Ev → R O} {g : Ev → R (List O)} (h : PE X e (LE Z E f)) (t : PA X es (LA Z E g)) (hs : isStar e = false) :
    PA X (e :: es) (LA Z E fun ρ => (f ρ).bind fun o ρ1 => (g ρ1).bind fun os ρ2 => .ok (o :: os) ρ2) := by
  refine paImp (pa_cons h t (star_cons hs)) fun σ H Q ⟨F0, H0, ρ0, F, ρ, p, post⟩ => ?_
  refine run p post fun o ρ1 v F1 H1 p1 p01 r post => ?_
  refine run p01 post fun os ρ2 vs F2 H2 p12 p02 r2 post => ?_
  have o2 : Out Z F2 H2 σ ρ2 o v := r.1.step p01.st p12 fun _ _ z => z
  exact post (v :: vs) F2 H2 p02 ⟨v, vs, rfl, o2, r.2.back p, fun n a ea => Apart.of_new (new_there r.1 n ea) r2, OutL.back p01 r2⟩
theorem OutL.rvl {F : Fz} {ρ : Ev} {H0 : Hp} (s : Sta Z F H σ ρ) : ∀ {os : List O} {vs : List V}, OutL Z H0 F H σ ρ os vs → RvL Z F H (os.map (rs ρ)) vs
  | [], _, h => h
  | o :: os, _, h => by
    obtain ⟨v, r, rfl, h1, _, _, t⟩ := h
    exact ⟨v, r, rfl, h1.rv s, OutL.rvl s t⟩
/-- all parts -/
theorem many {rel : Rel γ δ} {f : Ev → R (List O)} {k : List O → Ev → R γ} {Q : δ → Hp → Prop} {Q2 : List V → Hp → Prop} (h : LG Z E rel (fun ρ => (f ρ).bind k) σ H Q)
    (i : ∀ os ρ1 vs F1 H1 F0 H0 ρ0, Path Z σ F0 H0 ρ0 σ F1 H1 ρ1 → OutL Z H0 F1 H1 σ ρ1 os vs → PostG Z E rel σ F0 H0 ρ0 (k os ρ1) Q → Q2 vs H1) : LA Z E f σ H Q2 := by
  obtain ⟨F0, H0, ρ0, F, ρ, p, post⟩ := h
  exact run p post fun os ρ1 vs F1 H1 p1 p0 r q => i os ρ1 vs F1 H1 F0 H0 ρ0 p0 (OutL.back p r) q
theorem keeps_len : ∀ {os : List O} {ρ ρ2 : Ev} {xs : List D}, keeps ρ os = some (xs, ρ2) → xs.length = os.length
  | [], ρ, ρ2, xs, h => by
    simp only [keeps, Option.some.injEq, Prod.mk.injEq] at h
    rw [← h.1]; rfl
  | o :: os, ρ, ρ2, xs, h => by
    simp only [keeps] at h
    split at h
    · cases h
    · split at h
      · cases h
      · rename_i e
        simp only [Option.some.injEq, Prod.mk.injEq] at h
        rw [← h.1, List.length_cons, List.length_cons, keeps_len e]
theorem snd_tup {es : List Expr} {f : Ev → R (List O)} {k : Nat} {pos : Pos} (h : PA X es (LA Z E f)) (hl : ∀ ρ os ρ1, f ρ = .ok os ρ1 → os.length ≤ 1000) :
    PE X (.Tuple es k pos) (LE Z E fun ρ => (f ρ).bind fun os ρ1 => R.opt (keeps ρ1 os) fun p => .ok (.d (.tup p.1)) p.2) := by
  refine peImp (pe_tup h) fun σ H Q ⟨F0, H0, ρ0, F, ρ, p, post⟩ => ?_
  refine runE p post fun os ρ1 vs F1 H1 ef p1 p01 r post => ?_
  have hz := hl ρ os ρ1 ef
  have hlen := OutL.len r
  cases ek : keeps ρ1 os with
  | none => rw [ek] at post; exact post.elim
  | some q =>
    obtain ⟨xs, ρ2⟩ := q
    rw [ek] at post
    obtain ⟨F2, p2, rp, _⟩ := keeps_ok p01 (OutL.back p r) ek
    exact ⟨by rw [← hlen, sizeLine_eq]; omega, fun a ha => fin_new p2 post (new_tup ha rp)⟩
theorem snd_lst {es : List Expr} {f : Ev → R (List O)} {pos : Pos} (h : PA X es (LA Z E f)) (hl : ∀ ρ os ρ1, f ρ = .ok os ρ1 → os.length ≤ 1000) :
    PE X (.List es pos) (LE Z E fun ρ => (f ρ).bind fun os ρ1 => R.opt (keeps ρ1 os) fun p => .ok (.L p.1) p.2) := by
  refine peImp (pe_lst h) fun σ H Q ⟨F0, H0, ρ0, F, ρ, p, post⟩ => ?_
  refine runE p post fun os ρ1 vs F1 H1 ef p1 p01 r post => ?_
  have hz := hl ρ os ρ1 ef
  have hlen := OutL.len r
  cases ek : keeps ρ1 os with
  | none => rw [ek] at post; exact post.elim
  | some q =>
    obtain ⟨xs, ρ2⟩ := q
    rw [ek] at post
    obtain ⟨F2, p2, rp, _⟩ := keeps_ok p01 (OutL.back p r) ek
    exact ⟨by rw [← hlen, sizeLine_eq]; omega, fun a ha => fin_new p2 post (new_lst ha rp)⟩
theorem evL_len {T : Top} {C : Calls} : ∀ {es : List Ev.E} {n : Nat} {ρ ρ1 : Ev} {os : List O}, evL T C es n ρ = .ok os ρ1 → os.length = es.length
  | [], n, ρ, ρ1, os, h => by
    simp only [evL, R.ok.injEq] at h
    rw [← h.1]; rfl
  | e :: es, n, ρ, ρ1, os, h => by
    simp only [evL] at h
    cases h1 : evE T C e n ρ with
    | ok o ρ2 =>
      rw [h1] at h
      simp only [R.bind_ok] at h
      cases h2 : evL T C es n ρ2 with
      | ok os' ρ3 =>
        rw [h2] at h
        simp only [R.bind_ok, R.ok.injEq] at h
        rw [← h.1, List.length_cons, List.length_cons, evL_len h2]
      | exc c ρ3 => rw [h2] at h; cases h
      | stuck => rw [h2] at h; cases h
    | exc c ρ2 => rw [h1] at h; cases h
    | stuck => rw [h1] at h; cases h
/-! ### subscripts, slices -/
theorem snd_ix {a b : Expr} {h : O → O → Option D} {f g : Ev → R O} {pos : Pos} (ha : PE X a (LE Z E f)) (hb : PE X b (LE Z E g)) (ho : IxR X (rIxO Z h)) (hs : isSlice b = false) :
    PE X (.Subscript a b pos) (LE Z E fun ρ => (f ρ).bind fun x ρ1 => (g ρ1).bind fun y ρ2 => okd (h (rs ρ2 x) (rs ρ2 y)) ρ2) := by
  refine peImp (pe_ix ho ha hb (plain_ix hs)) fun σ H Q q => two q fun a b ρ2 x y F2 H2 F0 H0 ρ0 p oa ob post => ?_
  unfold okd at post
  cases e : h (rs ρ2 a) (rs ρ2 b) with
  | none => rw [e] at post; exact post.elim
  | some o =>
    rw [e] at post
    exact ⟨F2, _, _, o, oa.rv p.st, ob.rv p.st, e, fun v r => here_d p post r⟩
def relI : Rel (Option Int) (Option Int) := fun _ _ _ _ _ a b => b = a
/-- a slice's bound -/
theorem snd_some {e : Expr} {f : Ev → R O} (h : PE X e (LE Z E f)) : PO X (some e) (fun σ H Q => LG Z E relI (fun ρ => asI (f ρ)) σ H Q) := by
  refine ⟨fun pins s σ H Q I q => (po_some h).run pins s σ H Q I ?_⟩
  refine one q fun a ρ1 x F1 H1 F0 H0 ρ0 p o fr post => ?_
  unfold optInt at post
  split at post
  · exact ⟨_, Rp.inv_int o.dp, post _ F1 H1 p rfl⟩
  · exact post.elim
theorem snd_absent : PO X none (fun σ H Q => LG Z E relI (fun ρ => .ok none ρ) σ H Q) :=
  ⟨fun pins s σ H Q I ⟨F0, H0, ρ0, F, ρ, p, post⟩ => po_none.run pins s σ H Q I (post none F H p rfl)⟩
theorem snd_slice {a : Expr} {lo hi : Option Expr} {f : Ev → R O} {fl fh : Ev → R (Option Int)} {p2 pos : Pos} (hK : X.K = Z.K) (ha : PE X a (LE Z E f)) (hl : PO X lo (fun σ H Q => LG Z E relI fl σ H Q)) (hh : PO X hi (fun σ H Q => LG Z E relI fh σ H Q)) :
    PE X (.Subscript a (.Slice lo hi none p2) pos) (LE Z E fun ρ => (f ρ).bind fun x ρ1 => (fl ρ1).bind fun l ρ2 => (fh ρ2).bind fun h ρ3 => oko (slice (rs ρ3 x) l h) ρ3) := by
  refine peImp (pe_slice (sl_O hK) ha hl hh) fun σ H Q q => one q fun a ρ1 x F1 H1 F0 H0 ρ0 p o fr post => ?_
  refine run p post fun l ρ2 l' F2 H2 p12 p02 r post => ?_
  obtain rfl : l' = l := r
  refine run p02 post fun h ρ3 h' F3 H3 p23 p03 r post => ?_
  obtain rfl : h' = h := r
  have o3 := (o.step p.st p12 fun _ _ z => z).step p02.st p23 fun _ _ z => z
  unfold oko at post
  cases e : slice (rs ρ3 a) l' h' with
  | none => rw [e] at post; exact post.elim
  | some o =>
    rw [e] at post
    exact ⟨F3, _, o, o3.rv p03.st, e, fun v H' nw => fin_new p03 post nw⟩
/-! ### built-ins -/
theorem snd_blt {x : Str} {id : String} {h : List O → Option O} {e : Expr} {es : List Expr} {f : Ev → R (List O)} {p pos : Pos} (hc : CallR X (.builtin id) (rC Z h)) (hg : Gl X x) (hm : X.mg x = none) (hv : bootBuiltins x = some (.builtin id)) (hn : x ≠ "__name__") (hd : (x == ("__debug__" : Str)) = false)
    (ha : PA X (e :: es) (LA Z E f)) (hs : (e :: es).all (fun e => !isStar e) = true) : PE X (.Call (.Name x p) (e :: es) [] pos) (LE Z E fun ρ => (f ρ).bind fun os ρ1 => oko (h (os.map (rs ρ1))) ρ1) := by
  have h1 : isStar e = false ∧ es.all (fun e => !isStar e) = true := by
    simpa only [List.all_cons, Bool.and_eq_true, Bool.not_eq_true'] using hs
  refine peImp (pe_callB hc hg hm hv ha hn hd (star_cons h1.1) (star_none h1.2)) fun σ H Q q => many q fun os ρ1 vs F1 H1 F0 H0 ρ0 p o post => ?_
  unfold oko at post
  cases e : h (os.map (rs ρ1)) with
  | none => rw [e] at post; exact post.elim
  | some z =>
    rw [e] at post
    exact ⟨F1, _, z, OutL.rvl p.st o, e, fun v H' nw => fin_new p post nw⟩
theorem snd_bty {x : Str} {T : String} {h : List O → Option O} {e : Expr} {es : List Expr} {f : Ev → R (List O)} {p pos : Pos} (hc : CallR X (.type T) (rC Z h)) (hg : Gl X x) (hm : X.mg x = none) (hv : bootBuiltins x = some (.type T)) (hn : x ≠ "__name__") (hd : (x == ("__debug__" : Str)) = false)
    (ha : PA X (e :: es) (LA Z E f)) (hs : (e :: es).all (fun e => !isStar e) = true) : PE X (.Call (.Name x p) (e :: es) [] pos) (LE Z E fun ρ => (f ρ).bind fun os ρ1 => oko (h (os.map (rs ρ1))) ρ1) := by
  have h1 : isStar e = false ∧ es.all (fun e => !isStar e) = true := by
    simpa only [List.all_cons, Bool.and_eq_true, Bool.not_eq_true'] using hs
  refine peImp (pe_callTy hc hg hm hv ha hn hd (star_cons h1.1) (star_none h1.2)) fun σ H Q q => many q fun os ρ1 vs F1 H1 F0 H0 ρ0 p o post => ?_
  unfold oko at post
  cases e : h (os.map (rs ρ1)) with
  | none => rw [e] at post; exact post.elim
  | some z =>
    rw [e] at post
    exact ⟨F1, _, z, OutL.rvl p.st o, e, fun v H' nw => fin_new p post nw⟩
/-! ### isinstance -/
def tyN : Ty → String
  | .int => "int" | .bool => "bool" | .str => "str" | .tuple => "tuple" | .list => "list"
theorem sqT_ty {a : Addr} {vs : List V} (h : SqT Z.K H a vs) : TyX Z.K H (.ref a) (.type "tuple") := by
  rcases h with (h | ⟨o, h⟩) | ⟨o, _, _, h, c, _⟩
  · exact .base (.tup h)
  · exact .fTuple h
  · exact .kTuple h c
theorem sqL_ty {a : Addr} {vs : List V} (h : SqL Z.K H a vs) : TyX Z.K H (.ref a) (.type "list") := by
  rcases h with (h | ⟨o, h⟩) | ⟨o, _, _, h, c, _⟩
  · exact .base (.lst h)
  · exact .base (.frz h)
  · exact .kList h c
/-- the type's name, and whether it is one of t -/
theorem isTy_ok {K : PySem.W.Frag} (hK : K = Z.K) {F : Fz} {o : O} {v : V} {t : Ty} {b : Bool} (r : Rv Z F H o v) (e : isTy t o = some b) : ∃ T : String, TyX K H v (.type T) ∧ PySem.W.kitOne K (.type T) (.type (tyN t)) = some b := by
  subst hK
  have kit : ∀ (T : String) (b : Bool), kitB T (tyN t) = some b → PySem.W.kitOne Z.K (.type T) (.type (tyN t)) = some b := fun T b h => kit_ty h
  unfold isTy at e
  split at e
  · rename_i x
    cases x with
    | non =>
      rw [Rp.inv_non r.d]
      refine ⟨_, .base .non, kit _ _ ?_⟩
      cases e
      cases t <;> (dsimp only; decide +kernel)
    | bl y =>
      rw [Rp.inv_bl r.d]
      refine ⟨_, .base (.bl y), kit _ _ ?_⟩
      cases e
      cases t <;> (dsimp only; decide +kernel)
    | int i =>
      rw [Rp.inv_int r.d]
      refine ⟨_, .base (.int i), kit _ _ ?_⟩
      cases e
      cases t <;> (dsimp only; decide +kernel)
    | str k =>
      have r' := r.d
      simp only [Rp] at r'
      obtain ⟨x, _, rfl⟩ := r'
      refine ⟨_, .base (.str x), kit _ _ ?_⟩
      cases e
      cases t <;> (dsimp only; decide +kernel)
    | tup xs =>
      obtain ⟨a, vs, rfl, s, _⟩ := Rp.inv_tup r.d
      refine ⟨_, sqT_ty s, kit _ _ ?_⟩
      cases e
      cases t <;> (dsimp only; decide +kernel)
    | lst xs =>
      obtain ⟨a, vs, rfl, s, _⟩ := Rp.inv_lst r.d
      refine ⟨_, sqL_ty s.sq, kit _ _ ?_⟩
      cases e
      cases t <;> (dsimp only; decide +kernel)
  · cases e
    obtain ⟨a, vs, rfl, s, _⟩ := r.l
    refine ⟨_, sqL_ty (SqL.of s), kit _ _ ?_⟩
    cases t <;> (first | decide +kernel | (dsimp only; decide +kernel))
  · cases e
theorem snd_isi {a : Expr} {f : Ev → R O} {x y : Str} {t : Ty} {p p' pos : Pos} (hK : X.K = Z.K) (ha : PE X a (LE Z E f)) (hg : Gl X x) (hm : X.mg x = none) (hv : bootBuiltins x = some (.builtin "isinstance")) (hn : x ≠ "__name__") (hd : (x == ("__debug__" : Str)) = false)
    (hg' : Gl X y) (hm' : X.mg y = none) (hv' : bootBuiltins y = some (.type (tyN t))) (hn' : y ≠ "__name__") (hd' : (y == ("__debug__" : Str)) = false) (hs : isStar a = false) :
    PE X (.Call (.Name x p) [a, .Name y p'] [] pos) (LE Z E fun ρ => (f ρ).bind fun o ρ1 => okb (isTy t (rs ρ1 o)) ρ1) := by
  have hb : PE X (.Name y p') (tC (.ty (tyN t))) := pe_bltn hg' hm' hv' rfl hn' hd'
  refine peImp (pe_callB call_isi hg hm hv (pa_cons ha (pa_cons hb pa_nil) (star_cons hs)) hn hd (star_cons hs) (by rfl)) fun σ H Q q => one q fun o ρ1 v F1 H1 F0 H0 ρ0 p r fr post => ?_
  unfold okb at post
  cases e : isTy t (rs ρ1 o) with
  | none => rw [e] at post; exact post.elim
  | some b =>
    rw [e] at post
    obtain ⟨T, h1, h2⟩ := isTy_ok hK (r.rv p.st) e
    exact ⟨v, .ty (tyN t), _, _, b, rfl, .ty _, h1, by rw [hK]; exact h2, fin_new p post (new_bl b)⟩
/-! ### methods of a slot's list -/
theorem Sta.ownL {F : Fz} {ρ : Ev} (s : Sta Z F H σ ρ) {i : Nat} {q : Bool} {xs : List D} (e : ρ[i]? = some (some (.L q xs))) : ∃ a vs, σ[i]? = some (some (V.ref a)) ∧ H a = some (.lst vs) ∧ Rps Z F H xs vs := by
  obtain ⟨v, e1, a, vs, rfl, h1, h2, _⟩ := s.rep i _ e
  exact ⟨a, vs, e1, h1, h2⟩
/-- a slot's own list is written -/
theorem set_own {σ0 : L2.St} {F0 F : Fz} {H0 : Hp} {ρ0 ρ : Ev} {i : Nat} {q : Bool} {xs ys : List D} {a : Addr} {ws : List V} (p : Path Z σ0 F0 H0 ρ0 σ F H ρ) (e : ρ[i]? = some (some (.L q xs))) (e2 : σ[i]? = some (some (V.ref a))) (r : Rps Z F H ys ws) :
    Path Z σ0 F0 H0 ρ0 σ F (upd H a (.lst ws)) (ρ.set i (some (.L q ys))) ∧ Rps Z F (upd H a (.lst ws)) ys ws ∧ Up F H F (upd H a (.lst ws)) := by
  have ow : Own σ ρ a := own_of e rfl e2
  obtain ⟨b, vs, e3, h1, h2⟩ := p.st.ownL e
  rw [e2] at e3
  cases (Option.some.inj (Option.some.inj e3))
  have nF := (p.st.kind ow).2
  have u : Up F H F (upd H a (.lst ws)) := ⟨fun c vs q => by
      rw [upd_ne (ne_of q h1 (by intro z; cases z))]; exact q, fun c o w q => by
      rw [upd_ne (ne_of q h1 (by intro z; cases z))]; exact q, fun _ f => f, fun c vs f q => by
      rw [upd_ne (fun z => nF (by rw [← z]; exact f))]; exact q⟩
  have own' : ∀ b, Own σ (ρ.set i (some (.L q ys))) b → Own σ ρ b := fun b ⟨j, w, ej, ho, es⟩ => by
    rcases getset ej with ⟨rfl, z, _⟩ | ⟨hn, z⟩
    · rw [e2] at es
      cases (Option.some.inj (Option.some.inj es))
      exact ow
    · exact own_of z ho es
  have sp : Stp Z (Own σ ρ) F H F (upd H a (.lst ws)) := ⟨fun b o eb n _ => by
      rw [upd_ne (fun z => n (by rw [z]; exact ow))]; exact eb, fun b n => by
      by_cases z : b = a
      · rw [z, upd_same]; exact id
      · rw [upd_ne z]; exact n, fun _ f => f, fun _ f => .inl f⟩
  refine ⟨p.trans ⟨⟨by rw [List.length_set]; exact p.st.len, fun j w ej => ?_, fun j k wj wk b ej ek hj hk sj sk => ?_, ?_, fun b f => sp.there b (p.st.ft b f)⟩, sp, fun b z => .inl (own' b z), fun j w h pw => ?_⟩, r.up u, u⟩
  · rcases getset ej with ⟨rfl, z, _⟩ | ⟨hn, z⟩
    · cases z
      exact ⟨_, e2, a, ws, rfl, upd_same, r.up u, nF⟩
    · obtain ⟨v, e6, r6⟩ := p.st.rep j w z
      refine ⟨v, e6, r6.up u fun b eb ho => ⟨fun o q => ?_, fun f => ?_⟩⟩
      · subst eb
        rw [upd_ne (fun z2 => hn (p.st.inj _ _ _ _ _ z e ho rfl (by rw [← z2]; exact e6) e2))]
        exact q
      · subst eb
        exact (p.st.kind (own_of z ho e6)).2 f
  · have k1 : ∃ wj', ρ[j]? = some (some wj') ∧ isOwn wj' = true := by
      rcases getset ej with ⟨rfl, z, _⟩ | ⟨_, z⟩
      · exact ⟨_, e, rfl⟩
      · exact ⟨_, z, hj⟩
    have k2 : ∃ wk', ρ[k]? = some (some wk') ∧ isOwn wk' = true := by
      rcases getset ek with ⟨rfl, z, _⟩ | ⟨_, z⟩
      · exact ⟨_, e, rfl⟩
      · exact ⟨_, z, hk⟩
    obtain ⟨_, z1, o1⟩ := k1
    obtain ⟨_, z2, o2⟩ := k2
    exact p.st.inj _ _ _ _ _ z1 z2 o1 o2 sj sk
  · intro t ht
    obtain ⟨ps, h1', h2', h3'⟩ := p.st.tabs t ht
    refine ⟨ps, ?_, h2', fun pos cv hc => ?_⟩
    · rw [upd_ne (ne_of h1' h1 (by intro z; cases z))]; exact h1'
    · obtain ⟨c, ec, hcc⟩ := h3' pos cv hc
      refine ⟨c, ec, ?_⟩
      rw [upd_ne (ne_of hcc h1 (by unfold LamX.CodeO; intro z; cases z))]
      exact hcc
  · rcases getset h with ⟨rfl, z, _⟩ | ⟨_, z⟩
    · cases z
      exact ⟨⟨_, e, pw⟩, rfl⟩
    · exact ⟨⟨_, z, pw⟩, rfl⟩
theorem Rps.dropLast {F : Fz} {xs : List D} {vs : List V} (h : Rps Z F H xs vs) : Rps Z F H xs.dropLast vs.dropLast := by
  rw [List.dropLast_eq_take, List.dropLast_eq_take, ← h.len]
  exact h.take _
theorem snd_app {a : Expr} {i : Nat} {x : Str} {f : Ev → R O} {apos cpos p : Pos} (hK : X.K = Z.K) (hv : PE X (.Name x p) (tVar i)) (ha : PE X a (LE Z E f)) (hs : isStar a = false) (hl : (apos.endLine == cpos.line) = true) :
    PE X (.Call (.Attribute (.Name x p) "append" apos) [a] [] cpos) (LE Z E fun ρ => if isL ρ i = true then (f ρ).bind fun x ρ1 => R.opt (keep ρ1 x) fun p => appS i p.1 p.2 else .stuck) := by
  refine peImp (pe_bm PySem.F.plainAttrs_list PySem.F.slot_list_append PySem.F.type_list_append mt_append hv (pa_cons ha pa_nil (star_cons hs)) (by rfl) (by rw [star_cons hs] <;> rfl) hl (star_cons hs) (by rfl)) fun σ H Q ⟨F0, H0, ρ0, F, ρ, p, post⟩ => ?_
  by_cases hi : isL ρ i = true
  · simp only [if_pos hi] at post
    have hq : ∃ q xs, ρ[i]? = some (some (.L q xs)) := by
      unfold isL at hi
      split at hi
      · rename_i q xs e
        exact ⟨q, xs, e⟩
      · cases hi
    obtain ⟨q0, xs0, e0⟩ := hq
    obtain ⟨a0, vs0, es0, eh0, _⟩ := p.st.ownL e0
    refine ⟨.ref a0, es0, .inl ⟨rfl, vs0, by rw [hK]; exact SqL.of eh0⟩, ?_⟩
    refine run p post fun o ρ1 v F1 H1 p1 p01 r post => ?_
    cases ek : keep ρ1 o with
    | none => rw [ek] at post; exact post.elim
    | some z =>
      obtain ⟨y, ρ2⟩ := z
      rw [ek] at post
      obtain ⟨F2, p2, ry, _⟩ := keep_ok p01 r.1 (r.2.back p) ek
      simp only [R.opt_some, appS] at post
      split at post
      · rename_i q xs e2
        obtain ⟨a, vs, es, eh, rx⟩ := p2.st.ownL e2
        rw [es0] at es
        cases (Option.some.inj (Option.some.inj es))
        split at post
        · rename_i hlt
          obtain ⟨p3, _, _⟩ := set_own p2 e2 es0 (rx.append (.cons ry .nil))
          exact ⟨a0, vs, v, rfl, rfl, eh, by rw [← rx.len, sizeLine_eq]; exact hlt, here_d p3 post (by simp only [Rp])⟩
        · exact post.elim
      · exact post.elim
  · simp only [if_neg hi] at post
    exact post.elim
theorem snd_pop {i : Nat} {x : Str} {apos cpos p : Pos} (hK : X.K = Z.K) (hv : PE X (.Name x p) (tVar i)) (hl : (apos.endLine == cpos.line) = true) :
    PE X (.Call (.Attribute (.Name x p) "pop" apos) [] [] cpos) (LE Z E (popS i)) := by
  refine peImp (pe_bm0 PySem.F.plainAttrs_list PySem.F.slot_list_pop PySem.F.type_list_pop mt_pop hv (by rfl) hl) fun σ H Q ⟨F0, H0, ρ0, F, ρ, p, post⟩ => ?_
  unfold popS at post
  split at post
  · rename_i q xs e
    obtain ⟨a, vs, es, eh, rx⟩ := p.st.ownL e
    cases el : xs[xs.length - 1]? with
    | none => rw [el] at post; exact post.elim
    | some d =>
      rw [el] at post
      obtain ⟨v, ev, rv⟩ := rx.get el
      obtain ⟨p3, _, u⟩ := set_own p e es rx.dropLast
      exact ⟨.ref a, es, .inl ⟨rfl, vs, by rw [hK]; exact SqL.of eh⟩, a, vs, v, rfl, rfl, eh, by rw [← rx.len]; exact ev, here_d p3 post (rv.up u)⟩
  · exact post.elim
end
end Ev
/-! Ev7: calls of the law's own defs. -/
namespace Ev
open PySem PySem.Spec PyProof.Rows L2
section
variable {n : Nat} {E : XK} {X : Cx} {Z : Wo} {σ : L2.St} {F : Fz} {H H0 : Hp} {ρ : Ev} {α β γ δ : Type}
theorem mem_walked : ∀ {os : List O} {j s : Nat}, os[j]? = some (.bor s) → s ∈ walked os
  | [], j, s, h => by simp at h
  | o :: os, 0, s, h => by
    have e : o = .bor s := by simpa using h
    rw [e]
    exact List.mem_cons_self
  | o :: os, j + 1, s, h => by
    have ih := mem_walked (os := os) (j := j) (s := s) (by simpa using h)
    cases o with
    | bor i => exact List.mem_cons_of_mem _ ih
    | _ => exact ih
theorem of_walked : ∀ {os : List O} {s : Nat}, s ∈ walked os → ∃ j : Nat, os[j]? = some (.bor s)
  | [], s, h => by cases h
  | o :: os, s, h => by
    cases o with
    | bor i =>
      rcases List.mem_cons.mp h with e | h
      · exact ⟨0, by rw [e]; rfl⟩
      · obtain ⟨j, e⟩ := of_walked h
        exact ⟨j + 1, by simpa using e⟩
    | d x =>
      obtain ⟨j, e⟩ := of_walked (os := os) h
      exact ⟨j + 1, by simpa using e⟩
    | L x =>
      obtain ⟨j, e⟩ := of_walked (os := os) h
      exact ⟨j + 1, by simpa using e⟩
    | M t x =>
      obtain ⟨j, e⟩ := of_walked (os := os) h
      exact ⟨j + 1, by simpa using e⟩
    | F f =>
      obtain ⟨j, e⟩ := of_walked (os := os) h
      exact ⟨j + 1, by simpa using e⟩
theorem once_tail {o : O} {os : List O} (h : onceEach (walked (o :: os)) = true) : onceEach (walked os) = true := by
  cases o with
  | bor i =>
    simp only [walked, onceEach, Bool.and_eq_true] at h
    exact h.2
  | _ => exact h
theorem once_head {i : Nat} {os : List O} (h : onceEach (walked (.bor i :: os)) = true) : i ∉ walked os := by
  simp only [walked, onceEach, Bool.and_eq_true, Bool.not_eq_true'] at h
  intro z
  have h1 := h.1
  rw [List.contains_eq_mem] at h1
  simp [z] at h1
/-- what a call's argument is -/
def handW (ρ : Ev) (o : O) : Option W := match o with
  | .d x => some (W.d x)
  | .L xs => some (W.L true xs)
  | .M t kvs => some (W.M true t kvs)
  | .F _ => none
  | .bor i => match ρ[i]? with
    | some (some (.L _ xs)) => some (W.L true xs)
    | some (some (.M _ t kvs)) => some (W.M true t kvs)
    | _ => none
theorem handW_isP {o : O} {w : W} (h : handW ρ o = some w) (ow : isOwn w = true) : isP w = true := by
  unfold handW at h
  split at h
  · cases h; cases ow
  · cases h; rfl
  · cases h; rfl
  · cases h
  · split at h
    · cases h; rfl
    · cases h; rfl
    · cases h
theorem handL_cons {o : O} {os : List O} {args : Ev} (h : handL ρ (o :: os) = some args) : ∃ w r, args = some w :: r ∧ handW ρ o = some w ∧ handL ρ os = some r := by
  simp only [handL] at h
  obtain ⟨w, e1, h⟩ := Option.bind_eq_some_iff.mp h
  obtain ⟨r, e2, e3⟩ := Option.map_eq_some_iff.mp h
  refine ⟨w, r, e3.symm, ?_, e2⟩
  unfold handW
  cases o <;> exact e1
theorem handL_len : ∀ {os : List O} {args : Ev}, handL ρ os = some args → args.length = os.length
  | [], args, h => by
    simp only [handL, Option.some.injEq] at h
    rw [← h]; rfl
  | o :: os, args, h => by
    obtain ⟨w, r, rfl, _, h2⟩ := handL_cons h
    rw [List.length_cons, List.length_cons, handL_len h2]
theorem handL_some : ∀ {os : List O} {args : Ev}, handL ρ os = some args → ∀ i : Nat, args[i]? ≠ some none
  | [], args, h, i => by
    simp only [handL, Option.some.injEq] at h
    rw [← h]; simp
  | o :: os, args, h, i => by
    obtain ⟨w, r, rfl, _, h2⟩ := handL_cons h
    cases i with
    | zero => simp
    | succ i => simpa using handL_some h2 i
theorem handL_get : ∀ {os : List O} {args : Ev} {j : Nat} {w : W}, handL ρ os = some args → args[j]? = some (some w) → ∃ o, os[j]? = some o ∧ handW ρ o = some w
  | [], args, j, w, h, e => by
    simp only [handL, Option.some.injEq] at h
    rw [← h] at e
    simp at e
  | o :: os, args, j, w, h, e => by
    obtain ⟨w', r, rfl, h1, h2⟩ := handL_cons h
    cases j with
    | zero =>
      have e2 : w' = w := by simpa using e
      exact ⟨o, rfl, by rw [h1, e2]⟩
    | succ j =>
      obtain ⟨o', e3, h3⟩ := handL_get (j := j) (w := w) h2 (by simpa using e)
      exact ⟨o', by simpa using e3, h3⟩
theorem OutL.get : ∀ {os : List O} {vs : List V} {j : Nat} {o : O}, OutL Z H0 F H σ ρ os vs → os[j]? = some o → ∃ v, vs[j]? = some v ∧ Out Z F H σ ρ o v ∧ Frs H0 o v
  | [], vs, j, o, h, e => by simp at e
  | p :: os, vs, j, o, h, e => by
    obtain ⟨v, r, rfl, h1, h2, _, t⟩ := h
    cases j with
    | zero =>
      have e2 : p = o := by simpa using e
      subst e2
      exact ⟨v, rfl, h1, h2⟩
    | succ j =>
      obtain ⟨w, e3, h3⟩ := OutL.get (j := j) (o := o) t (by simpa using e)
      exact ⟨w, by simpa using e3, h3⟩
theorem Apart.get {a : Addr} : ∀ {os : List O} {vs : List V} {j : Nat} {o : O}, Apart a os vs → os[j]? = some o → isNew o = true → vs[j]? ≠ some (.ref a)
  | [], vs, j, o, h, e, _ => by simp at e
  | p :: os, [], j, o, h, e, _ => by simp
  | p :: os, v :: vs, j, o, h, e, n => by
    cases j with
    | zero =>
      have e2 : p = o := by simpa using e
      subst e2
      intro z
      have z2 : v = .ref a := by simpa using z
      exact h.1 n z2
    | succ j =>
      have := Apart.get (j := j) (o := o) h.2 (by simpa using e) n
      simpa using this
/-- two new ones are not the same -/
theorem OutL.apart : ∀ {os : List O} {vs : List V} {i j : Nat} {o p : O} {a : Addr}, OutL Z H0 F H σ ρ os vs → os[i]? = some o → os[j]? = some p → isNew o = true → isNew p = true → vs[i]? = some (V.ref a) → vs[j]? = some (V.ref a) → i = j
  | [], vs, i, j, o, p, a, h, e1, _, _, _, _, _ => by simp at e1
  | q :: os, vs, i, j, o, p, a, h, e1, e2, n1, n2, v1, v2 => by
    obtain ⟨v, r, rfl, h1, h2, ap, t⟩ := h
    cases i with
    | zero =>
      cases j with
      | zero => rfl
      | succ j =>
        have e3 : q = o := by simpa using e1
        have e4 : v = .ref a := by simpa using v1
        subst e3
        exact absurd (by simpa using v2) ((ap n1 a e4).get (j := j) (o := p) (by simpa using e2) n2)
    | succ i =>
      cases j with
      | zero =>
        have e3 : q = p := by simpa using e2
        have e4 : v = .ref a := by simpa using v2
        subst e3
        exact absurd (by simpa using v1) ((ap n2 a e4).get (j := i) (o := o) (by simpa using e1) n1)
      | succ j =>
        have := OutL.apart (i := i) (j := j) (o := o) (p := p) (a := a) t (by simpa using e1) (by simpa using e2) n1 n2 (by simpa using v1) (by simpa using v2)
        omega
theorem once_ix : ∀ {os : List O} {i j s : Nat}, onceEach (walked os) = true → os[i]? = some (.bor s) → os[j]? = some (.bor s) → i = j
  | [], i, j, s, _, e, _ => by simp at e
  | o :: os, i, j, s, h, e1, e2 => by
    cases i with
    | zero =>
      cases j with
      | zero => rfl
      | succ j =>
        have e3 : o = .bor s := by simpa using e1
        subst e3
        exact absurd (mem_walked (j := j) (by simpa using e2)) (once_head h)
    | succ i =>
      cases j with
      | zero =>
        have e3 : o = .bor s := by simpa using e2
        subst e3
        exact absurd (mem_walked (j := i) (by simpa using e1)) (once_head h)
      | succ j =>
        have := once_ix (once_tail h) (i := i) (j := j) (s := s) (by simpa using e1) (by simpa using e2)
        omega
theorem map_get {vs : List V} {i : Nat} {x : Option V} (h : (vs.map some)[i]? = some x) : ∃ v, vs[i]? = some v ∧ x = some v := by
  rw [List.getElem?_map] at h
  cases e : vs[i]? with
  | none => rw [e] at h; cases h
  | some v =>
    rw [e] at h
    exact ⟨v, rfl, (Option.some.inj h).symm⟩
theorem map_of {vs : List V} {i : Nat} {v : V} (h : vs[i]? = some v) : (vs.map some)[i]? = some (some v) := by rw [List.getElem?_map, h]; rfl
/-- what a handed thing is -/
theorem hand_own {o : O} {w : W} {v : V} {a : Addr} (h : Out Z F H σ ρ o v) (e : handW ρ o = some w) (ow : isOwn w = true) (ev : v = .ref a) :
    (isNew o = true ∧ ¬ Own σ ρ a) ∨ (∃ s, o = .bor s ∧ σ[s]? = some (some (V.ref a)) ∧ Own σ ρ a) := by
  subst ev
  cases o with
  | d x =>
    simp only [handW, Option.some.injEq] at e
    subst e
    cases ow
  | L xs => exact .inl ⟨rfl, Out.newNotOwn h rfl⟩
  | M t kvs => exact .inl ⟨rfl, Out.newNotOwn h rfl⟩
  | F f => simp only [handW] at e; cases e
  | bor s =>
    refine .inr ⟨s, rfl, h, ?_⟩
    simp only [handW] at e
    split at e
    · rename_i q xs e2
      exact own_of e2 rfl h
    · rename_i q t xs e2
      exact own_of e2 rfl h
    · cases e
theorem hand_rep {o : O} {w : W} {v : V} (s : Sta Z F H σ ρ) (h : Out Z F H σ ρ o v) (e : handW ρ o = some w) : RpW Z F H w v := by
  cases o with
  | d x =>
    simp only [handW, Option.some.injEq] at e
    subst e
    exact h
  | L xs =>
    simp only [handW, Option.some.injEq] at e
    subst e
    obtain ⟨a, vs, rfl, h1, h2, h3, _⟩ := h
    exact ⟨a, vs, rfl, h1, h2, h3⟩
  | M t kvs =>
    simp only [handW, Option.some.injEq] at e
    subst e
    obtain ⟨a, rfl, h1, h3, _⟩ := h
    exact ⟨a, rfl, h1, h3⟩
  | F f => simp only [handW] at e; cases e
  | bor i =>
    have hs : σ[i]? = some (some v) := h
    simp only [handW] at e
    split at e
    · rename_i q xs e2
      cases e
      obtain ⟨v', e3, r⟩ := s.rep i _ e2
      rw [hs] at e3
      have e4 := Option.some.inj (Option.some.inj e3)
      subst e4
      exact r
    · rename_i q t xs e2
      cases e
      obtain ⟨v', e3, r⟩ := s.rep i _ e2
      rw [hs] at e3
      have e4 := Option.some.inj (Option.some.inj e3)
      subst e4
      exact r
    · cases e
theorem hand_ok {os : List O} {vs : List V} {args : Ev} (s : Sta Z F H σ ρ) (h : OutL Z H0 F H σ ρ os vs) (o : onceEach (walked os) = true) (e : handL ρ os = some args) :
    Sta Z F H (vs.map some) args ∧ (∀ a, Own (vs.map some) args a → (NoO (H0 a) ∧ ¬ Own σ ρ a) ∨ Own σ ρ a) := by
  have len := handL_len e
  have len2 := OutL.len h
  have key : ∀ (i : Nat) (w : W), args[i]? = some (some w) → ∃ p v, os[i]? = some p ∧ handW ρ p = some w ∧ vs[i]? = some v ∧ Out Z F H σ ρ p v ∧ Frs H0 p v := fun i w ei => by
    obtain ⟨p, e1, e2⟩ := handL_get e ei
    obtain ⟨v, e3, e4, e5⟩ := OutL.get h e1
    exact ⟨p, v, e1, e2, e3, e4, e5⟩
  refine ⟨⟨by rw [List.length_map, len, len2], fun i w ei => ?_, fun i j wi wj a ei ej hi hj si sj => ?_, s.tabs, s.ft⟩, fun a ⟨i, w, ei, hi, si⟩ => ?_⟩
  · obtain ⟨p, v, e1, e2, e3, e4, _⟩ := key i w ei
    exact ⟨v, map_of e3, hand_rep s e4 e2⟩
  · obtain ⟨p, v, e1, e2, e3, e4, _⟩ := key i wi ei
    obtain ⟨p', v', e1', e2', e3', e4', _⟩ := key j wj ej
    obtain ⟨u, eu, z⟩ := map_get si
    obtain ⟨u', eu', z'⟩ := map_get sj
    cases z
    cases z'
    rw [e3] at eu
    rw [e3'] at eu'
    cases eu
    cases eu'
    rcases hand_own e4 e2 hi rfl with ⟨n1, o1⟩ | ⟨t, rfl, q1, o1⟩
    · rcases hand_own e4' e2' hj rfl with ⟨n2, o2⟩ | ⟨t', rfl, q2, o2⟩
      · exact OutL.apart h e1 e1' n1 n2 e3 e3'
      · exact absurd o2 o1
    · rcases hand_own e4' e2' hj rfl with ⟨n2, o2⟩ | ⟨t', rfl, q2, o2⟩
      · exact absurd o1 o2
      · have : t = t' := by
          obtain ⟨x, wx, a1, a2, a3⟩ := o1
          have hw : ∀ t, (∃ w, handW ρ (.bor t) = some w ∧ isOwn w = true) → ∃ w', ρ[t]? = some (some w') ∧ isOwn w' = true := fun t ⟨w, hw, how⟩ => by
            simp only [handW] at hw
            split at hw
            · rename_i e; exact ⟨_, e, rfl⟩
            · rename_i e; exact ⟨_, e, rfl⟩
            · cases hw
          obtain ⟨w1, b1, c1⟩ := hw t ⟨_, e2, hi⟩
          obtain ⟨w2, b2, c2⟩ := hw t' ⟨_, e2', hj⟩
          exact s.inj _ _ _ _ _ b1 b2 c1 c2 q1 q2
        subst this
        exact once_ix o e1 e1'
  · obtain ⟨p, v, e1, e2, e3, e4, e5⟩ := key i w ei
    obtain ⟨u, eu, z⟩ := map_get si
    cases z
    rw [e3] at eu
    cases eu
    rcases hand_own e4 e2 hi rfl with ⟨n1, o1⟩ | ⟨t, rfl, q1, o1⟩
    · exact .inl ⟨e5 n1 a rfl, o1⟩
    · exact .inr o1
/-- the slots behind the call -/
theorem handB_ok : ∀ {os : List O} {r ρ ρ2 : Ev}, handB ρ os r = some ρ2 → onceEach (walked os) = true → ρ2.length = ρ.length ∧ (∀ s : Nat, s ∉ walked os → ρ2[s]? = ρ[s]?) ∧
    ∀ (j s : Nat), os[j]? = some (O.bor s) → (∃ p xs0 xs, ρ[s]? = some (some (W.L p xs0)) ∧ r[j]? = some (some (W.L true xs)) ∧ ρ2[s]? = some (some (W.L p xs))) ∨
      (∃ p t k0 k, ρ[s]? = some (some (W.M p t k0)) ∧ r[j]? = some (some (W.M true t k)) ∧ ρ2[s]? = some (some (W.M p t k)))
  | [], r, ρ, ρ2, h, _ => by
    simp only [handB, Option.some.injEq] at h
    subst h
    exact ⟨rfl, fun _ _ => rfl, fun j s e => by simp at e⟩
  | o :: os, r, ρ, ρ2, h, on => by
    have tl := once_tail on
    cases o with
    | bor i =>
      cases r with
      | nil => simp only [handB] at h; cases h
      | cons a r =>
        have nh := once_head on
        simp only [handB] at h
        have fin : ∀ w : Option W, ρ[i]? ≠ none → handB (ρ.set i w) os r = some ρ2 → ρ2.length = ρ.length ∧ (∀ s : Nat, s ∉ i :: walked os → ρ2[s]? = ρ[s]?) ∧ ρ2[i]? = some w ∧
            ∀ (j s : Nat), os[j]? = some (O.bor s) → (∃ p xs0 xs, ρ[s]? = some (some (W.L p xs0)) ∧ r[j]? = some (some (W.L true xs)) ∧ ρ2[s]? = some (some (W.L p xs))) ∨
              (∃ p t k0 k, ρ[s]? = some (some (W.M p t k0)) ∧ r[j]? = some (some (W.M true t k)) ∧ ρ2[s]? = some (some (W.M p t k))) := fun w hi hb => by
          obtain ⟨h1, h2, h3⟩ := handB_ok hb tl
          have hlt : i < ρ.length := by
            cases q : ρ[i]? with
            | none => exact absurd q hi
            | some x => exact (List.getElem?_eq_some_iff.mp q).1
          refine ⟨by rw [h1, List.length_set], fun s hs => ?_, ?_, fun j s e => ?_⟩
          · simp only [List.mem_cons, not_or] at hs
            rw [h2 s hs.2, List.getElem?_set_ne (Ne.symm hs.1)]
          · rw [h2 i nh, List.getElem?_set_self hlt]
          · have hne : s ≠ i := fun z => nh (by rw [← z]; exact mem_walked e)
            have := h3 j s e
            rw [List.getElem?_set_ne (Ne.symm hne)] at this
            exact this
        split at h
        · rename_i p xs0 xs e1
          obtain ⟨h1, h2, h3, h4⟩ := fin _ (by rw [e1]; simp) h
          refine ⟨h1, h2, fun j s e => ?_⟩
          cases j with
          | zero =>
            have e2 : i = s := by
              have : O.bor i = .bor s := by simpa using e
              injection this
            subst e2
            exact .inl ⟨p, xs0, xs, e1, by simp, h3⟩
          | succ j => simpa using h4 j s (by simpa using e)
        · rename_i p t k0 t' k e1
          split at h
          · rename_i ht
            have ht : t = t' := by simpa using ht
            subst ht
            obtain ⟨h1, h2, h3, h4⟩ := fin _ (by rw [e1]; simp) h
            refine ⟨h1, h2, fun j s e => ?_⟩
            cases j with
            | zero =>
              have e2 : i = s := by
                have : O.bor i = .bor s := by simpa using e
                injection this
              subst e2
              exact .inr ⟨p, t, k0, k, e1, by simp, h3⟩
            | succ j => simpa using h4 j s (by simpa using e)
          · cases h
        · cases h
    | d x =>
      cases r with
      | nil => simp only [handB] at h; cases h
      | cons a r =>
        simp only [handB] at h
        obtain ⟨h1, h2, h3⟩ := handB_ok h tl
        refine ⟨h1, h2, fun j s e => ?_⟩
        cases j with
        | zero => simp at e
        | succ j => simpa using h3 j s (by simpa using e)
    | L x =>
      cases r with
      | nil => simp only [handB] at h; cases h
      | cons a r =>
        simp only [handB] at h
        obtain ⟨h1, h2, h3⟩ := handB_ok h tl
        refine ⟨h1, h2, fun j s e => ?_⟩
        cases j with
        | zero => simp at e
        | succ j => simpa using h3 j s (by simpa using e)
    | M t x =>
      cases r with
      | nil => simp only [handB] at h; cases h
      | cons a r =>
        simp only [handB] at h
        obtain ⟨h1, h2, h3⟩ := handB_ok h tl
        refine ⟨h1, h2, fun j s e => ?_⟩
        cases j with
        | zero => simp at e
        | succ j => simpa using h3 j s (by simpa using e)
    | F f =>
      cases r with
      | nil => simp only [handB] at h; cases h
      | cons a r =>
        simp only [handB] at h
        obtain ⟨h1, h2, h3⟩ := handB_ok h tl
        refine ⟨h1, h2, fun j s e => ?_⟩
        cases j with
        | zero => simp at e
        | succ j => simpa using h3 j s (by simpa using e)
/-- behind a call: the caller's state -/
theorem back_ok {σ0 : L2.St} {F0 F' : Fz} {H' : Hp} {ρ0 ρ2 r args : Ev} {os : List O} {vs : List V} (p : Path Z σ0 F0 H0 ρ0 σ F H ρ) (h : OutL Z H0 F H σ ρ os vs) (o : onceEach (walked os) = true) (e : handL ρ os = some args)
    (q : Path Z (vs.map some) F H args (vs.map some) F' H' r) (e2 : handB ρ os r = some ρ2) : Path Z σ0 F0 H0 ρ0 σ F' H' ρ2 ∧ ∀ b, Own σ ρ2 b → Own σ ρ b := by
  obtain ⟨sA, oA⟩ := hand_ok p.st h o e
  obtain ⟨b1, b2, b3⟩ := handB_ok e2 o
  have u : Up F H F' H' := sA.up q.sp
  have own' : ∀ b, Own σ ρ2 b → Own σ ρ b := fun b ⟨i, w, ei, hi, si⟩ => by
    by_cases hw : i ∈ walked os
    · obtain ⟨j, ej⟩ := of_walked hw
      rcases b3 j i ej with ⟨p, xs0, xs, c1, _, _⟩ | ⟨p, t, k0, k, c1, _, _⟩
      · exact own_of c1 rfl si
      · exact own_of c1 rfl si
    · rw [b2 i hw] at ei
      exact own_of ei hi si
  refine ⟨⟨⟨by rw [b1]; exact p.st.len, fun i w ei => ?_, fun i j wi wj a ei ej hi hj si sj => ?_, q.st.tabs, q.st.ft⟩, p.sp.trans q.sp fun x ox => ?_, fun b ob => p.sub b (own' b ob), p.pp.trans fun i w ei pw => ?_⟩, own'⟩
  · by_cases hw : i ∈ walked os
    · obtain ⟨j, ej⟩ := of_walked hw
      obtain ⟨v, ev, ov, _⟩ := OutL.get h ej
      have sv : σ[i]? = some (some v) := ov
      rcases b3 j i ej with ⟨p, xs0, xs, c1, c2, c3⟩ | ⟨p, t, k0, k, c1, c2, c3⟩
      · rw [c3] at ei
        cases ei
        obtain ⟨v', ev', rv⟩ := q.st.rep j _ c2
        obtain ⟨v2, ev2, z⟩ := map_get ev'
        cases z
        rw [ev] at ev2
        cases ev2
        exact ⟨v, sv, rv⟩
      · rw [c3] at ei
        cases ei
        obtain ⟨v', ev', rv⟩ := q.st.rep j _ c2
        obtain ⟨v2, ev2, z⟩ := map_get ev'
        cases z
        rw [ev] at ev2
        cases ev2
        exact ⟨v, sv, rv⟩
    · rw [b2 i hw] at ei
      obtain ⟨v, sv, rv⟩ := p.st.rep i w ei
      refine ⟨v, sv, rv.up u fun a ea ho => ?_⟩
      subst ea
      have ow : Own σ ρ a := own_of ei ho sv
      have nA : ¬ Own (vs.map some) args a := fun z => by
        rcases oA a z with ⟨_, z⟩ | _
        · exact z ow
        · obtain ⟨j, w', aj, hj, sj⟩ := z
          obtain ⟨o', f1, f2⟩ := handL_get e aj
          obtain ⟨v', g1, g2, _⟩ := OutL.get h f1
          obtain ⟨v2, k1, k2⟩ := map_get sj
          cases k2
          rw [g1] at k1
          cases k1
          rcases hand_own g2 f2 hj rfl with ⟨_, n⟩ | ⟨s, rfl, m1, _⟩
          · exact n ow
          · have hs : ∃ w', ρ[s]? = some (some w') ∧ isOwn w' = true := by
              simp only [handW] at f2
              split at f2
              · rename_i e; exact ⟨_, e, rfl⟩
              · rename_i e; exact ⟨_, e, rfl⟩
              · cases f2
            obtain ⟨w3, m2, m3⟩ := hs
            have : i = s := p.st.inj _ _ _ _ _ ei m2 ho m3 sv m1
            subst this
            exact hw (mem_walked f1)
      have hk := p.st.kind ow
      refine ⟨fun o eo => q.sp.keep a o eo nA fun ps z => ?_, fun z => ?_⟩
      · subst z
        rcases hk.1 with ⟨_, y⟩ | ⟨_, y⟩ | ⟨_, y⟩ <;> · rw [eo] at y; cases y
      · rcases q.sp.fout a z with y | y | y
        · exact hk.2 y
        · rcases hk.1 with ⟨_, x⟩ | ⟨_, x⟩ | ⟨_, x⟩ <;> · rw [x] at y; cases y
        · exact nA y
  · have k : ∀ (i : Nat) (w : W), ρ2[i]? = some (some w) → isOwn w = true → ∃ w', ρ[i]? = some (some w') ∧ isOwn w' = true := fun i w ei hi => by
      by_cases hw : i ∈ walked os
      · obtain ⟨j, ej⟩ := of_walked hw
        rcases b3 j i ej with ⟨p, xs0, xs, c1, _, _⟩ | ⟨p, t, k0, k, c1, _, _⟩
        · exact ⟨_, c1, rfl⟩
        · exact ⟨_, c1, rfl⟩
      · rw [b2 i hw] at ei
        exact ⟨_, ei, hi⟩
    obtain ⟨_, z1, o1⟩ := k i wi ei hi
    obtain ⟨_, z2, o2⟩ := k j wj ej hj
    exact p.st.inj _ _ _ _ _ z1 z2 o1 o2 si sj
  · rcases oA x ox with ⟨z, _⟩ | z
    · exact .inr z
    · exact p.sub x z
  · by_cases hw : i ∈ walked os
    · obtain ⟨j, ej⟩ := of_walked hw
      rcases b3 j i ej with ⟨p, xs0, xs, c1, c2, c3⟩ | ⟨p, t, k0, k, c1, c2, c3⟩
      · rw [c3] at ei
        cases ei
        exact ⟨⟨_, c1, pw⟩, rfl⟩
      · rw [c3] at ei
        cases ei
        exact ⟨⟨_, c1, pw⟩, rfl⟩
    · rw [b2 i hw] at ei
      exact ⟨⟨_, ei, pw⟩, rfl⟩
end
section
variable {n : Nat} {E : XK} {X : Cx} {Y : Gw} {σ : L2.St} {H : Hp}
/-- what the call wants of its def -/
theorem call_sp {f : Nat} {F F0 : Fz} {H0 : Hp} {ρ0 ρ : Ev} {os : List O} {vs : List V} {Q : VK} (p : Path Y.Z σ F0 H0 ρ0 σ F H ρ) (h : OutL Y.Z H0 F H σ ρ os vs) (har : vs.length = Y.ar f)
    (post : PostG Y.Z E (relE Y.Z) σ F0 H0 ρ0 (callF Y.C n f os ρ) Q) : spF Y n f vs H Q E := by
  unfold callF at post
  split at post
  · rename_i o
    cases e : handL ρ os with
    | none => rw [e] at post; exact post.elim
    | some args =>
      rw [e] at post
      simp only [R.opt_some] at post
      obtain ⟨sA, oA⟩ := hand_ok p.st h o e
      refine ⟨F, args, har, by rw [handL_len e, OutL.len h], handL_some e, fun j w ej ow => by
        obtain ⟨o', _, e2⟩ := handL_get e ej
        exact handW_isP e2 ow, sA, ?_⟩
      cases ec : Y.C n f args with
      | stuck => rw [ec] at post; exact post.elim
      | ok z r =>
        rw [ec] at post
        simp only at post
        split at post
        · exact post.elim
        · rename_i nb
          cases e2 : handB ρ os r with
          | none => rw [e2] at post; exact post.elim
          | some ρ2 =>
            rw [e2] at post
            intro v F' H' q rel
            obtain ⟨p2, own'⟩ := back_ok p h o e q e2
            refine post v F' H' p2 ⟨?_, rel.2.back p⟩
            have ot := rel.1
            have fr := rel.2
            cases z with
            | d x => exact ot
            | F f => exact ot
            | L xs =>
              obtain ⟨a, ws, rfl, h1, h2, h3, _⟩ := ot
              refine ⟨a, ws, rfl, h1, h2, h3, fun z => ?_⟩
              have e0 := fr rfl a rfl
              rcases (p.st.kind (own' a z)).1 with ⟨_, y⟩ | ⟨_, y⟩ | ⟨_, y⟩ <;> · rw [y] at e0; exact e0.elim
            | M t kvs =>
              obtain ⟨a, rfl, h1, h3, _⟩ := ot
              refine ⟨a, rfl, h1, h3, fun z => ?_⟩
              have e0 := fr rfl a rfl
              rcases (p.st.kind (own' a z)).1 with ⟨_, y⟩ | ⟨_, y⟩ | ⟨_, y⟩ <;> · rw [y] at e0; exact e0.elim
            | bor i => exact absurd rfl nb
      | exc c r =>
        rw [ec] at post
        simp only at post
        cases e2 : handB ρ os r with
        | none => rw [e2] at post; exact post.elim
        | some ρ2 =>
          rw [e2] at post
          intro F' H' q
          obtain ⟨p2, _⟩ := back_ok p h o e q e2
          exact post F' H' p2
  · exact post.elim
/-- f(..) -/
theorem snd_call {c : Cs} {f : Nat} {x : Str} {e : Expr} {es : List Expr} {g : Ev → R (List O)} {p pos : Pos} (G : Good Y n c E X) (K : Fok Y n) (hf : Y.nm.fns[f]? = some x) (hg : Gl X x) (hd : (x == ("__debug__" : Str)) = false)
    (ha : PA X (e :: es) (LA Y.Z E g)) (hs : (e :: es).all (fun e => !isStar e) = true) (har : ∀ ρ os ρ1, g ρ = .ok os ρ1 → os.length = Y.ar f) : PE X (.Call (.Name x p) (e :: es) [] pos) (LE Y.Z E fun ρ => (g ρ).bind fun os ρ1 => callF Y.C n f os ρ1) := by
  obtain ⟨a, fd, ps, hm, hk, hb, FO⟩ := K.fn f x hf
  have FO := FO n (Nat.le_refl _)
  rw [← G.prog, ← G.w, ← G.K, ← G.mg, ← G.base] at FO
  rw [← G.mg] at hm
  rw [← G.K] at hk hb
  have red : ∀ σ H Q, LE Y.Z E (fun ρ => (g ρ).bind fun os ρ1 => callF Y.C n f os ρ1) σ H Q → LA Y.Z E g σ H fun vs H1 => spF Y n f (vs ++ []) H1 Q E := fun σ H Q ⟨F0, H0, ρ0, F, ρ, p, post⟩ => by
    refine runE p post fun os ρ1 vs F1 H1 eg p1 p01 r post => ?_
    rw [List.append_nil]
    exact call_sp p01 (OutL.back p r) (by rw [← OutL.len r]; exact har ρ os ρ1 eg) post
  have h1 : isStar e = false ∧ es.all (fun e => !isStar e) = true := by
    simpa only [List.all_cons, Bool.and_eq_true, Bool.not_eq_true'] using hs
  exact peImp (pe_call FO G.room hg hm hk hb .nil G.pass ha hd (star_cons h1.1) (star_none h1.2)) fun σ H Q q => red σ H Q q
end
end Ev
/-! Ev80: enumerate of a tuple. -/
namespace PySem
set_option maxHeartbeats 1000000 in
theorem ev_meets_enumerate {v : Value} {o : Obj} {H : Heap → Prop} (B : Begins v o H) :
    Meets (Builtin.«enumerate.__new__» ⟨[.type "enumerate", v], []⟩) (fun _ R s => H s.heap ∧
      R (.ok (.ret (.ref (s.heap.push o).objs.size))) { s with heap := (s.heap.push o).push { cls := .type "enumerate", data := .fields #[.none, .bool false, .ref s.heap.objs.size, rawInt 0, .none, .none] } }) :=
  .of_wp fun prog w A R s h => by
    obtain ⟨hp, g, d, tk, os⟩ := s; obtain ⟨h1, h⟩ := h
    have hsub := sub_enumerate
    have q1 : ∀ {A' : Around} {E : Value → Shared → Prop} {Q : Value → Shared → Prop}, Q (.ref hp.objs.size) ⟨hp.push o, g, d, tk, os⟩ → wpAny (model prog w) A' (pyIter v) Q E ⟨hp, g, d, tk, os⟩ :=
      fun q => B.iter prog w _ _ ⟨hp, g, d, tk, os⟩ _ h1 q
    wp_walk using q1
    refine wpAny_stack_any fun st => wpAny_pure ?_
    split
    · rename_i c _ _ _ _ _
      cases (c == Value.type "enumerate")
      · wp_walk using q1
        exact ⟨_, rfl, h⟩
      · wp_walk using q1
        exact ⟨_, rfl, h⟩
    · wp_walk using q1
      exact ⟨_, rfl, h⟩
theorem ev_call_enumerate {prog : Program} {w : World} {A : Around} {E : Value → Shared → Prop} {s : Shared} {v : Value} {o : Obj} {H : Heap → Prop} {Q : Value → Shared → Prop} (B : Begins v o H) (h1 : H s.heap)
    (h : ∀ h', IsEnum h' (s.heap.objs.size + 1) s.heap.objs.size 0 .none → h'.get? s.heap.objs.size = some o → h'.objs.size = s.heap.objs.size + 2 →
      (∀ b o, s.heap.get? b = some o → h'.get? b = some o) → Q (.ref (s.heap.objs.size + 1)) { s with heap := h' }) :
    wpAny (model prog w) A (call (.type "enumerate") [v]) Q E s := by
  refine callType_new F.called_enumerate (by decide) (F.typeCall_enumerate_1 _) (F.newCall_enumerate_1 _) (fun obj => F.args_object_init_2 obj _) F.entry_enumerate_new
    (ev_meets_enumerate B) ⟨h1, ?_⟩
  have hz : (s.heap.push o).objs.size = s.heap.objs.size + 1 := Heap.size_push ..
  show _ ∧ _
  rw [hz]
  have he : IsEnum ((s.heap.push o).push { cls := .type "enumerate", data := .fields #[.none, .bool false, .ref s.heap.objs.size, rawInt 0, .none, .none] }) (s.heap.objs.size + 1) s.heap.objs.size 0 .none := by
    have := Heap.get?_push_size (s.heap.push o) (o := { cls := .type "enumerate", data := .fields #[.none, .bool false, .ref s.heap.objs.size, rawInt 0, .none, .none] }) rfl
    rw [hz] at this; exact this
  refine ⟨⟨_, he, rfl⟩, h _ he (Heap.get?_push_of_some _ (Heap.get?_push_size _ B.free)) (by rw [Heap.size_push, hz]) fun b o x => Heap.get?_push_of_some _ (Heap.get?_push_of_some _ x)⟩
end PySem
namespace Ev
open PySem PySem.Spec PyProof.Rows L2
/-- the tuple at a as it stands at each turn, each item in a new pair -/
def IteT (K : PySem.W.Frag) (a : Addr) : It :=
  ⟨fun i H => ∃ (xs : List V) (x : V), SqT K H a xs ∧ xs[i]? = some x, fun i H v H' => ∃ T x, v = .ref T ∧ H T = none ∧ H' = upd H T (.tup [.int (i : Nat), x]) ∧ ∀ xs, SqT K H a xs → xs[i]? = some x, fun i H => ∃ xs : List V, SqT K H a xs ∧ xs.length ≤ i⟩
theorem turn_enumT {P : Program} {w : World} {K : PySem.W.Frag} {elts : List Expr} {kk : Nat} {tpos : Pos} (a e it : Addr) :
    Turn P w K (.Tuple elts kk tpos) (IteT K a) [e, it] e (fun i h => (∃ old, IsEnum h e it ((i : Nat) : Int) old) ∧ h.IsTupleIter it a i ∧ e ≠ it ∧ a ≠ it ∧ a ≠ e) where
  mem := by simp
  obj := fun i h st b hb => by
    obtain ⟨⟨old, he⟩, ⟨o, ho, hc, hd⟩, _⟩ := st
    have e' : b = e ∨ b = it := by simpa using hb
    rcases e' with z | z
    · rw [z]; exact ⟨_, he, fun v q => nomatch q⟩
    · rw [z]; exact ⟨o, ho, fun v q => by rw [hd] at q; cases q⟩
  keep := fun i h h' st k => let ⟨⟨old, he⟩, hi, hne⟩ := st; ⟨⟨old, k e (by simp) _ he⟩, hi.at fun o q => k it (by simp) o q, hne⟩
  item := by
    intro X hP hw hK hc i pins s σ H E I hf st hg
    subst hP hw hK
    obtain ⟨⟨old, he⟩, hit, hne, hai, hae⟩ := st
    obtain ⟨xs, x, hq, hx⟩ := hg
    obtain ⟨its, rv, p, hz⟩ := I.tuple hq
    obtain ⟨u, hu, ru⟩ := rv.get hx
    have hel : e < s.heap.objs.size := Heap.lt_size he
    have hil : it < s.heap.objs.size := by obtain ⟨_, q, _⟩ := hit; exact Heap.lt_size q
    have hlt : i < its.toArray.size := by
      have : i < its.length := (List.getElem?_eq_some_iff.mp hu).1
      simpa using this
    refine wpAny_pyNext_enum_itemD (Draws.tuple (A := X.A.in1) (show X.A.in1.handled = none from I.ok.hd hc) it a hai its.toArray) he ⟨hit, show s.heap.IsTuple a its.toArray from p⟩ hlt hne (by
      intro z
      rcases List.mem_cons.mp z with z | z
      · exact hne z
      · exact hae (List.mem_singleton.mp z).symm) fun x1 h' tk hx1 ho hit' hT hsz hk => ?_
    obtain rfl : x1 = u := by
      rw [List.getElem?_toArray, hu] at hx1
      exact (Option.some.inj hx1).symm
    refine ⟨_, rfl, wpAny_letOwnedTupleGo_enum (s := { s with heap := h', toks := tk + 1 }) ho fun h'' he' sb => ?_⟩
    have hT2 : h''.get? s.heap.objs.size = some { cls := .type "tuple", data := .seq #[.int i tk, x1] } := (sb.2 _ (Nat.ne_of_gt hel)).trans hT
    have new : ObjOk X.prog X.w (upd H s.heap.objs.size (.tup [.int (i : Nat), x])) h'' s.heap.objs.size (.tup [.int (i : Nat), x]) :=
      ⟨by show 2 ≤ sizeLine; decide, [.int i tk, x1], .cons ⟨_, rfl⟩ (.cons ru .nil), ⟨_, hT2, rfl, _, rfl⟩⟩
    have I1 : Inv X pins σ (upd H s.heap.objs.size (.tup [.int (i : Nat), x])) { s with heap := h'', toks := tk + 1 } :=
      I.turnedNew (ch := [e, it]) (fun b ob hb q => (sb.2 b (fun z => hb (by simp [z]))).trans (hk b ob (fun z => hb (by simp [z])) (fun z => hb (by simp [z])) q)) hf (Nat.le_refl _) new
    refine ⟨.ref s.heap.objs.size, _, I1, rfl, ⟨_, x, rfl, I.hok.fresh (Nat.le_refl _), rfl, fun ys hy => by rw [I.tuple_inj hy hq]; exact hx⟩, ⟨⟨x1, ?_⟩, hit'.1.at fun o q => (sb.2 it (Ne.symm hne)).trans q, hne, hai, hae⟩, fun b hb => ?_⟩
    · have e1 : ((i + 1 : Nat) : Int) = (i : Int) + 1 := by omega
      rw [e1]; exact he'
    · have hb' : b < s.heap.objs.size := by
        have e' : b = e ∨ b = it := by simpa using hb
        rcases e' with z | z
        · rw [z]; exact hel
        · rw [z]; exact hil
      rw [upd_ne (Nat.ne_of_lt hb')]
      exact (hf b hb).1
  done := by
    intro X hP hw hK hc i pins s σ H E I hf st hg
    subst hP hw hK
    obtain ⟨⟨old, he⟩, hit, hne, hai, hae⟩ := st
    obtain ⟨xs, hq, hx⟩ := hg
    obtain ⟨its, rv, p, hz⟩ := I.tuple hq
    obtain ⟨f0, f1, f2, f3, f4, f5⟩ := hf it (by simp)
    have hl := rv.length
    exact ev_enum_end (I.ok.hd hc) he hit (show s.heap.IsTuple a its.toArray from p) (by simp; omega) fun h' eb => ⟨rfl, I.turned (t' := s.toks) (fun b o hb q => eb b o hb q) f0 f1 f3 f4 f5⟩
  self := fun A i s Q E st h => let ⟨⟨_, he⟩, _⟩ := st; wpAny_pyIter_enum he h
where
  ev_enum_end {prog : Program} {w : World} {A : Around} {E : Value → Shared → Prop} {s : Shared} {e it l : Addr} {i : Nat} {items : Array Value} {old : Value} {Q : Option Value → Shared → Prop} (hh : A.handled = none)
    (he : IsEnum s.heap e it i old) (hit : s.heap.IsTupleIter it l i) (hl : s.heap.IsTuple l items) (hx : items[i]? = none)
    (hQ : ∀ h', Heap.ExtBut it s.heap h' → Q none { s with heap := h' }) : wpAny (model prog w) A (pyNext (.ref e)) Q E s := by
    have hT : s.TypeIs (.ref e) "enumerate" := ⟨_, he, rfl⟩
    unfold pyNext
    refine wpAny_bind (wpAny_attempt (wpAny_callSpecial?_slot (name := Str.ofString "__next__") hT F.slot_enumerate_next
      (wpAny_call_entry F.slot_enumerate_next hT F.entry_enumerate_next ?_ (F.args_enumerate_next_1 _))))
    show wpAny _ _ (field (.ref e) 2 >>= _) _ _ _
    refine wpAny_bind (wpAny_field he rfl (x := .ref it) rfl ?_)
    refine wpAny_bind (wpAny_nextOf_tuple_end hh hit hl hx fun h' x he' hx' => ?_)
    obtain ⟨o, ho, hc⟩ := hx'
    refine wpAny_bind (wpAny_isInstance (T := "StopIteration") (b := true) ⟨o, ho, hc⟩ isSubtype_stop ?_)
    exact wpAny_pure (hQ _ he')
/-- enumerate of a list, of a tuple -/
def iEnumA (K : PySem.W.Frag) (ta : TA) : TI := fun σ H R => ta σ H fun vs H1 => ∃ a xs, vs = [.ref a] ∧ ((SqL K H1 a xs ∧ R (Ite K a) H1) ∨ (SqT K H1 a xs ∧ R (IteT K a) H1))
theorem pi_enumA {X : Cx} {e : Expr} {ta : TA} {p pos tpos : Pos} {elts : List Expr} {kk : Nat} (hg : Gl X "enumerate") (hm : X.mg "enumerate" = none) (ha : PA X [e] ta) (hs : starEach [e] X.env = [(false, eval e X.env)] := by rfl) :
    PI X (.Tuple elts kk tpos) (.Call (.Name "enumerate" p) [e] [] pos) (iEnumA X.K ta) := by
  refine ⟨fun pins s σ H R I h => ?_⟩
  refine Call_ (ld_blt I hg hm boot_enumerate (PyProof.Rows.callWith_type1 (thn (ha.run pos pins s σ H _ I h) fun us s1 ⟨vs, H1, I1, r1, q1⟩ => ?_) hs rfl))
  obtain ⟨a, xs, ex, q1⟩ := q1
  subst ex
  cases r1 with
  | cons r rr =>
    cases rr
    cases r
    have fr2 : ∀ b, b ∈ [s1.heap.objs.size + 1, s1.heap.objs.size] → FpOk X pins H1 b := fun b hb => by
      have e' : b = s1.heap.objs.size + 1 ∨ b = s1.heap.objs.size := by simpa using hb
      have hle : s1.heap.objs.size ≤ b := by
        rcases e' with z | z
        · rw [z]; exact Nat.le_add_right _ _
        · rw [z]; exact Nat.le_refl _
      exact I1.fpOk hle (I1.hok.fresh hle)
    rcases q1 with ⟨hq, q⟩ | ⟨hq, q⟩
    · obtain ⟨its, rv, p', hz⟩ := I1.list hq
      refine call_enumerate_list p'.isList fun h' he hit hsz hk => wpAny_pyIter_enum he ?_
      have I2 : Inv X pins σ H1 { s1 with heap := h' } := I1.kept (t' := s1.toks) hk
      exact ⟨s1.heap.objs.size + 1, [s1.heap.objs.size + 1, s1.heap.objs.size], _, _, H1, rfl, I2, turn_enum a (s1.heap.objs.size + 1) s1.heap.objs.size, ⟨⟨.none, he⟩, hit, Nat.succ_ne_self _⟩, fr2, q⟩
    · obtain ⟨its, rv, p', hz⟩ := I1.tuple hq
      obtain ⟨o1, ho1, _⟩ := id p'
      have hal : a < s1.heap.objs.size := Heap.lt_size ho1
      refine ev_call_enumerate (begins_tuple a its.toArray) (show s1.heap.IsTuple a its.toArray from p') fun h' he hit hsz hk => wpAny_pyIter_enum he ?_
      have I2 : Inv X pins σ H1 { s1 with heap := h' } := I1.kept (t' := s1.toks) hk
      exact ⟨s1.heap.objs.size + 1, [s1.heap.objs.size + 1, s1.heap.objs.size], _, _, H1, rfl, I2, turn_enumT a (s1.heap.objs.size + 1) s1.heap.objs.size, ⟨⟨.none, he⟩, ⟨_, hit, rfl, rfl⟩, Nat.succ_ne_self _, Nat.ne_of_lt hal, Nat.ne_of_lt (Nat.lt_succ_of_lt hal)⟩, fr2, q⟩
end Ev
/-! Ev8: what is walked; targets; slots forgotten. -/
namespace Ev
open PySem PySem.Spec PyProof.Rows L2
mutual
theorem D.beq_eq : ∀ {x y : D}, D.beq x y = true → x = y
  | .non, y, h => by cases y <;> first | rfl | (simp only [D.beq] at h; cases h)
  | .bl a, y, h => by cases y <;> first | (simp only [D.beq, beq_iff_eq] at h; rw [h]) | (simp only [D.beq] at h; cases h)
  | .int a, y, h => by cases y <;> first | (simp only [D.beq, beq_iff_eq] at h; rw [h]) | (simp only [D.beq] at h; cases h)
  | .str a, y, h => by cases y <;> first | (simp only [D.beq, beq_iff_eq] at h; rw [h]) | (simp only [D.beq] at h; cases h)
  | .tup xs, y, h => by
    cases y with
    | tup ys =>
      simp only [D.beq] at h
      rw [D.beqs_eq h]
    | _ => simp only [D.beq] at h; cases h
  | .lst xs, y, h => by
    cases y with
    | lst ys =>
      simp only [D.beq] at h
      rw [D.beqs_eq h]
    | _ => simp only [D.beq] at h; cases h
theorem D.beqs_eq : ∀ {xs ys : List D}, D.beqs xs ys = true → xs = ys
  | [], ys, h => by cases ys <;> first | rfl | (simp only [D.beqs] at h; cases h)
  | x :: xs, ys, h => by
    cases ys with
    | nil => simp only [D.beqs] at h; cases h
    | cons y ys =>
      simp only [D.beqs, Bool.and_eq_true] at h
      rw [D.beq_eq h.1, D.beqs_eq h.2]
end
section
variable {n : Nat} {E : XK} {X : Cx} {Z : Wo} {σ σ' σ1 σ2 : L2.St} {F F' F1 : Fz} {H H' H1 H0 : Hp} {ρ ρ' ρ1 : Ev} {α β γ δ : Type}
theorem stands_get : ∀ {ws : List Nat} {i : Nat}, stands ρ ρ' ws = true → i ∈ ws → ∃ p q xs, ρ[i]? = some (some (W.L p xs)) ∧ ρ'[i]? = some (some (W.L q xs))
  | [], i, _, h => by cases h
  | j :: ws, i, h, m => by
    simp only [stands, Bool.and_eq_true] at h
    rcases List.mem_cons.mp m with e | m
    · subst e
      have h1 := h.1
      split at h1
      · rename_i p xs q ys e1 e2
        exact ⟨p, q, xs, e1, by rw [e2, D.beqs_eq h1]⟩
      · cases h1
    · exact stands_get h.2 m
theorem stands_mem : ∀ {ws vs : List Nat}, stands ρ ρ' ws = true → (∀ i ∈ vs, i ∈ ws) → stands ρ ρ' vs = true
  | ws, [], _, _ => rfl
  | ws, i :: vs, h, m => by
    obtain ⟨p, q, xs, e1, e2⟩ := stands_get h (m i List.mem_cons_self)
    have r : D.beqs xs xs = true := beqs_refl xs
    simp only [stands, e1, e2, r, Bool.true_and]
    exact stands_mem h fun j hj => m j (List.mem_cons_of_mem _ hj)
where
  beq_refl : ∀ x : D, D.beq x x = true
    | .non => rfl
    | .bl _ => by simp [D.beq]
    | .int _ => by simp [D.beq]
    | .str _ => by simp [D.beq]
    | .tup xs => by simp only [D.beq]; exact beqs_refl xs
    | .lst xs => by simp only [D.beq]; exact beqs_refl xs
  beqs_refl : ∀ xs : List D, D.beqs xs xs = true
    | [] => rfl
    | x :: xs => by simp only [D.beqs, beq_refl x, beqs_refl xs, Bool.and_self]
/-! ### what is walked -/
/-- the items, as long as St stands -/
structure Iw (Z : Wo) (J : It) (xs : List D) (St : Fz → Hp → Prop) : Prop where
  go : ∀ (i : Nat) F H, St F H → i < xs.length → J.go i H
  stop : ∀ F H, St F H → J.stop xs.length H
  yld : ∀ (i : Nat) x F H v H', St F H → xs[i]? = some x → J.yld i H v H' → Same H H' ∧ Rp Z F H' x v
/-- later: what data lean on is there, and what was new then -/
structure Later (Z : Wo) (H0 : Hp) (σ : L2.St) (F : Fz) (H : Hp) (ρ : Ev) (σ' : L2.St) (F' : Fz) (H' : Hp) (ρ' : Ev) : Prop where
  st : Sta Z F' H' σ' ρ'
  up : Up F H F' H'
  new : ∀ b o, NoO (H0 b) → H b = some o → ¬ Own σ ρ b → (∀ ps, o ≠ .tbl ps) → H' b = some o
theorem Path.later (s : Sta Z F H σ ρ) (p : Path Z σ F H ρ σ' F' H' ρ') : Later Z H0 σ F H ρ σ' F' H' ρ' := ⟨p.st, s.up p.sp, fun b o _ e n t => p.sp.keep b o e n t⟩
def relJ (Z : Wo) : Rel (List D × List Nat) It := fun σ H0 F H ρ p J => ∃ St, Iw Z J p.1 St ∧
  ∀ σ' F' H' ρ', Later Z H0 σ F H ρ σ' F' H' ρ' → (∀ i ∈ p.2, σ'[i]? = σ[i]?) → stands ρ ρ' p.2 = true → St F' H'
abbrev LI (Z : Wo) (E : XK) (f : Ev → R (List D × List Nat)) : TI := fun σ H R => LG Z E (relJ Z) f σ H R
/-- a walked value stays -/
theorem stays {o : O} {v : V} {xs : List D} (p : Later Z H0 σ F H ρ σ' F' H' ρ') (h : Out Z F H σ ρ o v) (fr : Frs H0 o v) (e : items (rs ρ o) = some xs) (hw : ∀ i ∈ walked [o], σ'[i]? = σ[i]?) (st : stands ρ ρ' (walked [o]) = true) :
    ∃ a vs, v = .ref a ∧ (if isT (rs ρ o) = true then SqT Z.K H' a vs else SqL Z.K H' a vs) ∧ Rps Z F' H' xs vs := by
  have u := p.up
  cases o with
  | d x =>
    have hx : Rp Z F H x v := h
    cases x with
    | tup ys =>
      simp only [rs, items, Option.some.injEq] at e
      subst e
      obtain ⟨a, vs, rfl, q, r⟩ := Rp.inv_tup hx
      exact ⟨a, vs, rfl, by simpa only [rs, isT, if_true] using u.sqT q, r.up u⟩
    | lst ys =>
      simp only [rs, items, Option.some.injEq] at e
      subst e
      obtain ⟨a, vs, rfl, q, r⟩ := Rp.inv_lst hx
      exact ⟨a, vs, rfl, by simpa only [rs, isT, Bool.false_eq_true, if_false] using (u.sl q).sq, r.up u⟩
    | _ => simp [rs, items] at e
  | L ys =>
    simp only [rs, items, Option.some.injEq] at e
    subst e
    obtain ⟨a, vs, rfl, q, r, h3, h4⟩ := h
    exact ⟨a, vs, rfl, by simpa only [rs, isT, Bool.false_eq_true, if_false] using SqL.of (p.new a _ (fr rfl a rfl) q h4 fun _ z => by cases z), r.up u⟩
  | M t kvs => simp [rs, items] at e
  | F f => simp [rs, items] at e
  | bor i =>
    have hs : σ[i]? = some (some v) := h
    obtain ⟨q1, q2, ys, e1, e2⟩ := stands_get st (show i ∈ walked [O.bor i] from List.mem_cons_self)
    have er : rs ρ (.bor i) = .L ys := by simp only [rs, e1]
    rw [er] at e ⊢
    simp only [items, Option.some.injEq] at e
    subst e
    obtain ⟨a, vs, es, eh, r⟩ := p.st.ownL e2
    rw [hw i List.mem_cons_self, hs] at es
    cases (Option.some.inj (Option.some.inj es))
    exact ⟨a, vs, rfl, by simpa only [isT, Bool.false_eq_true, if_false] using SqL.of eh, r⟩
theorem iw_list {a : Addr} {xs : List D} : Iw Z (Itl Z.K a) xs (fun F H => ∃ vs, SqL Z.K H a vs ∧ Rps Z F H xs vs) := by
  refine ⟨fun i F H ⟨vs, q, r⟩ hi => ?_, fun F H ⟨vs, q, r⟩ => ⟨vs, q, by rw [r.len]; exact Nat.le_refl _⟩, fun i x F H v H' ⟨vs, q, r⟩ e y => ?_⟩
  · rw [r.len] at hi
    exact ⟨vs, vs[i], q, by simp [hi]⟩
  · obtain ⟨rfl, y⟩ := y
    obtain ⟨w, ew, rw'⟩ := r.get e
    rw [y vs q] at ew
    cases ew
    exact ⟨.refl _, rw'⟩
theorem iw_tup {a : Addr} {xs : List D} : Iw Z (Itt Z.K a) xs (fun F H => ∃ vs, SqT Z.K H a vs ∧ Rps Z F H xs vs) := by
  refine ⟨fun i F H ⟨vs, q, r⟩ hi => ?_, fun F H ⟨vs, q, r⟩ => ⟨vs, q, by rw [r.len]; exact Nat.le_refl _⟩, fun i x F H v H' ⟨vs, q, r⟩ e y => ?_⟩
  · rw [r.len] at hi
    exact ⟨vs, vs[i], q, by simp [hi]⟩
  · obtain ⟨rfl, y⟩ := y
    obtain ⟨w, ew, rw'⟩ := r.get e
    rw [y vs q] at ew
    cases ew
    exact ⟨.refl _, rw'⟩
theorem iw_range {lo hi : Int} : Iw Z (Itr lo (hi - lo).toNat) (upTo lo hi) (fun _ _ => True) := by
  have hl : (upTo lo hi).length = (hi - lo).toNat := by simp [upTo]
  refine ⟨fun i F H _ h => by rw [hl] at h; exact h, fun F H _ => by rw [hl]; exact Nat.le_refl _, fun i x F H v H' _ e y => ?_⟩
  obtain ⟨rfl, rfl⟩ := y
  have hi' : i < (upTo lo hi).length := (List.getElem?_eq_some_iff.mp e).1
  rw [hl] at hi'
  simp only [upTo, List.getElem?_map, List.getElem?_range hi', Option.map_some, Option.some.injEq] at e
  subst e
  exact ⟨.refl _, by simp only [Rp]⟩
theorem enum_get : ∀ {xs : List D} {k i : Nat} {x : D}, (enumFrom k xs)[i]? = some x → ∃ y, xs[i]? = some y ∧ x = .tup [.int ((k + i : Nat) : Int), y]
  | [], k, i, x, h => by simp [enumFrom] at h
  | y :: r, k, 0, x, h => by
    simp only [enumFrom, List.getElem?_cons_zero, Option.some.injEq] at h
    exact ⟨y, rfl, by rw [← h]; rfl⟩
  | y :: r, k, i + 1, x, h => by
    simp only [enumFrom, List.getElem?_cons_succ] at h
    obtain ⟨z, e1, e2⟩ := enum_get h
    exact ⟨z, by simpa using e1, by rw [e2]; congr 3; congr 1; omega⟩
theorem enum_len : ∀ {xs : List D} {k : Nat}, (enumFrom k xs).length = xs.length
  | [], k => rfl
  | y :: r, k => by simp only [enumFrom, List.length_cons, enum_len]
theorem rp_pair {T : Addr} {x y : D} {v w : V} (hT : H T = none) (hx : Rp Z F H x v) (hy : Rp Z F H y w) : Same H (upd H T (.tup [v, w])) ∧ Rp Z F (upd H T (.tup [v, w])) (.tup [x, y]) (.ref T) := by
  have sm : Same H (upd H T (.tup [v, w])) := fun b o e => by
    rw [upd_ne (fun z => by rw [z, hT] at e; cases e)]; exact e
  refine ⟨sm, ?_⟩
  simp only [Rp]
  exact ⟨T, _, rfl, .inl (.inl upd_same), .cons (hx.up (.of_same sm)) (.cons (hy.up (.of_same sm)) .nil)⟩
theorem iw_enum {a : Addr} {xs : List D} : Iw Z (Ite Z.K a) (enumFrom 0 xs) (fun F H => ∃ vs, SqL Z.K H a vs ∧ Rps Z F H xs vs) := by
  refine ⟨fun i F H ⟨vs, q, r⟩ hi => ?_, fun F H ⟨vs, q, r⟩ => ⟨vs, q, by rw [enum_len, r.len]; exact Nat.le_refl _⟩, fun i x F H v H' ⟨vs, q, r⟩ e y => ?_⟩
  · rw [enum_len, r.len] at hi
    exact ⟨vs, vs[i], q, by simp [hi]⟩
  · obtain ⟨T, w, rfl, hT, rfl, y⟩ := y
    obtain ⟨z, e1, rfl⟩ := enum_get e
    obtain ⟨w', ew, rw'⟩ := r.get e1
    rw [y vs q] at ew
    cases ew
    exact rp_pair hT (by simp only [Rp, Nat.zero_add]) rw'
theorem iw_enumT {a : Addr} {xs : List D} : Iw Z (IteT Z.K a) (enumFrom 0 xs) (fun F H => ∃ vs, SqT Z.K H a vs ∧ Rps Z F H xs vs) := by
  refine ⟨fun i F H ⟨vs, q, r⟩ hi => ?_, fun F H ⟨vs, q, r⟩ => ⟨vs, q, by rw [enum_len, r.len]; exact Nat.le_refl _⟩, fun i x F H v H' ⟨vs, q, r⟩ e y => ?_⟩
  · rw [enum_len, r.len] at hi
    exact ⟨vs, vs[i], q, by simp [hi]⟩
  · obtain ⟨T, w, rfl, hT, rfl, y⟩ := y
    obtain ⟨z, e1, rfl⟩ := enum_get e
    obtain ⟨w', ew, rw'⟩ := r.get e1
    rw [y vs q] at ew
    cases ew
    exact rp_pair hT (by simp only [Rp, Nat.zero_add]) rw'
theorem zip_get {xs ys : List D} {i : Nat} {x : D} (h : ((xs.zip ys).map fun p => D.tup [p.1, p.2])[i]? = some x) : ∃ a b, xs[i]? = some a ∧ ys[i]? = some b ∧ x = .tup [a, b] := by
  rw [List.getElem?_map] at h
  obtain ⟨p, e, rfl⟩ := Option.map_eq_some_iff.mp h
  have e2 := List.getElem?_zip_eq_some.mp e
  exact ⟨p.1, p.2, e2.1, e2.2, rfl⟩
theorem iw_zip {a b : Addr} {xs ys : List D} : Iw Z (Itz Z.K a b) ((xs.zip ys).map fun p => .tup [p.1, p.2]) (fun F H => (∃ vs, SqL Z.K H a vs ∧ Rps Z F H xs vs) ∧ ∃ vs, SqL Z.K H b vs ∧ Rps Z F H ys vs) := by
  refine ⟨fun i F H ⟨⟨vs, q, r⟩, ⟨ws, q2, r2⟩⟩ hi => ?_, fun F H ⟨⟨vs, q, r⟩, ⟨ws, q2, r2⟩⟩ => ⟨vs, ws, q, q2, ?_⟩, fun i x F H v H' ⟨⟨vs, q, r⟩, ⟨ws, q2, r2⟩⟩ e y => ?_⟩
  · rw [List.length_map, List.length_zip, r.len, r2.len] at hi
    exact ⟨vs, ws, vs[i]'(by omega), ws[i]'(by omega), q, q2, by simp, by simp⟩
  · rw [List.length_map, List.length_zip, r.len, r2.len]
    omega
  · obtain ⟨T, w, w2, rfl, hT, rfl, y1, y2⟩ := y
    obtain ⟨a, b, e1, e2, rfl⟩ := zip_get e
    obtain ⟨w', ew, rw1⟩ := r.get e1
    rw [y1 vs q] at ew
    cases ew
    obtain ⟨w', ew, rw2⟩ := r2.get e2
    rw [y2 ws q2] at ew
    cases ew
    exact rp_pair hT rw1 rw2
theorem iw_zipT {a b : Addr} {xs ys : List D} : Iw Z (RZ.ItzT Z.K a b) ((xs.zip ys).map fun p => .tup [p.1, p.2]) (fun F H => (∃ vs, SqT Z.K H a vs ∧ Rps Z F H xs vs) ∧ ∃ vs, SqT Z.K H b vs ∧ Rps Z F H ys vs) := by
  refine ⟨fun i F H ⟨⟨vs, q, r⟩, ⟨ws, q2, r2⟩⟩ hi => ?_, fun F H ⟨⟨vs, q, r⟩, ⟨ws, q2, r2⟩⟩ => ⟨vs, ws, q, q2, ?_⟩, fun i x F H v H' ⟨⟨vs, q, r⟩, ⟨ws, q2, r2⟩⟩ e y => ?_⟩
  · rw [List.length_map, List.length_zip, r.len, r2.len] at hi
    exact ⟨vs, ws, vs[i]'(by omega), ws[i]'(by omega), q, q2, by simp, by simp⟩
  · rw [List.length_map, List.length_zip, r.len, r2.len]
    omega
  · obtain ⟨T, w, w2, rfl, hT, rfl, y1, y2⟩ := y
    obtain ⟨a, b, e1, e2, rfl⟩ := zip_get e
    obtain ⟨w', ew, rw1⟩ := r.get e1
    rw [y1 vs q] at ew
    cases ew
    obtain ⟨w', ew, rw2⟩ := r2.get e2
    rw [y2 ws q2] at ew
    cases ew
    exact rp_pair hT rw1 rw2

/-! ### the sources -/
theorem isT_eq {o : O} (h : isT o = true) : ∃ xs, o = .d (.tup xs) := by
  unfold isT at h
  split at h
  · exact ⟨_, rfl⟩
  · cases h
/-- what an iteration wants of one value -/
theorem snd_seq {tg e : Expr} {f : Ev → R O} (hK : X.K = Z.K) (h : PE X e (LE Z E f)) :
    PI X tg e (LI Z E fun ρ => (f ρ).bind fun o ρ1 => R.opt (walk .seq [rs ρ1 o]) fun xs => .ok (xs, walked [o]) ρ1) := by
  refine ⟨fun pins s σ H R I ⟨F0, H0, ρ0, F, ρ, p, post⟩ => ?_⟩
  by_cases b : ∃ o ρ1, f ρ = .ok o ρ1 ∧ isT (rs ρ1 o) = true
  · obtain ⟨o, ρ1, e1, e2⟩ := b
    refine (pi_tup h).run pins s σ H R I (runE p post fun o' ρ1' v F1 H1 e1' p1 p01 r post => ?_)
    rw [e1] at e1'
    cases e1'
    cases ew : walk .seq [rs ρ1 o] with
    | none => rw [ew] at post; exact post.elim
    | some xs =>
      rw [ew] at post
      have ei : items (rs ρ1 o) = some xs := ew
      have key := fun σ' F' H' ρ' q hw st => stays (σ' := σ') (F' := F') (H' := H') (ρ' := ρ') q r.1 (r.2.back p) ei hw st
      obtain ⟨a, vs, rfl, q1, q2⟩ : ∃ a vs, v = .ref a ∧ SqT Z.K H1 a vs ∧ Rps Z F1 H1 xs vs := by
        obtain ⟨ys, ey⟩ := isT_eq e2
        have rv := r.1.rv p01.st
        rw [ey] at rv ei
        cases ei
        exact Rp.inv_tup rv
      rw [hK]
      refine ⟨a, rfl, ⟨vs, q1⟩, post _ F1 H1 p01 ⟨_, iw_tup, fun σ' F' H' ρ' q hw st => ?_⟩⟩
      obtain ⟨a', vs', e', h1, h2⟩ := key σ' F' H' ρ' q hw st
      cases e'
      rw [if_pos e2] at h1
      exact ⟨vs', h1, h2⟩
  · refine (pi_list h).run pins s σ H R I (runE p post fun o ρ1 v F1 H1 e1 p1 p01 r post => ?_)
    have e2 : isT (rs ρ1 o) = false := by
      cases q : isT (rs ρ1 o) with
      | false => rfl
      | true => exact absurd ⟨o, ρ1, e1, q⟩ b
    cases ew : walk .seq [rs ρ1 o] with
    | none => rw [ew] at post; exact post.elim
    | some xs =>
      rw [ew] at post
      have ei : items (rs ρ1 o) = some xs := ew
      have key := fun σ' F' H' ρ' q hw st => stays (σ' := σ') (F' := F') (H' := H') (ρ' := ρ') q r.1 (r.2.back p) ei hw st
      obtain ⟨a, vs, rfl, q1, q2⟩ := seq_now p01.st r.1 ei e2
      rw [hK]
      refine ⟨a, rfl, ⟨vs, q1⟩, post _ F1 H1 p01 ⟨_, iw_list, fun σ' F' H' ρ' q hw st => ?_⟩⟩
      obtain ⟨a', vs', e', h1, h2⟩ := key σ' F' H' ρ' q hw st
      cases e'
      rw [if_neg (by rw [e2]; decide)] at h1
      exact ⟨vs', h1, h2⟩
where
  seq_now {o : O} {v : V} {xs : List D} {F : Fz} {H : Hp} {ρ : Ev} {σ : L2.St} (s : Sta Z F H σ ρ) (h : Out Z F H σ ρ o v) (e : items (rs ρ o) = some xs) (b : isT (rs ρ o) = false) : ∃ a vs, v = .ref a ∧ SqL Z.K H a vs ∧ Rps Z F H xs vs := by
    have rv := h.rv s
    generalize rs ρ o = z at e b rv
    unfold items at e
    split at e
    · cases b
    · cases e
      obtain ⟨a, vs, rfl, q, r⟩ := Rp.inv_lst (Rv.d rv)
      exact ⟨a, vs, rfl, q.sq, r⟩
    · cases e
      obtain ⟨a, vs, rfl, q, r⟩ := Rv.l rv
      exact ⟨a, vs, rfl, SqL.of q, r⟩
    · cases e
/-- range(..) -/
theorem snd_range {tg : Expr} {e : Expr} {es : List Expr} {g : Ev → R (List O)} {p pos : Pos} (hl : ∀ ρ os ρ1, g ρ = .ok os ρ1 → os.length = (e :: es).length) (hg : Gl X "range") (hm : X.mg "range" = none) (ha : PA X (e :: es) (LA Z E g)) (hs : (e :: es).all (fun e => !isStar e) = true) (h2 : es.length ≤ 1) :
    PI X tg (.Call (.Name "range" p) (e :: es) [] pos) (LI Z E fun ρ => iterF .rng (g ρ)) := by
  have h1 : isStar e = false ∧ es.all (fun e => !isStar e) = true := by
    simpa only [List.all_cons, Bool.and_eq_true, Bool.not_eq_true'] using hs
  cases es with
  | nil =>
    refine ⟨fun pins s σ H R I ⟨F0, H0, ρ0, F, ρ, p, post⟩ => (pi_range1 hg hm ha (star_cons h1.1)).run pins s σ H R I (runE p post fun os ρ1 vs F1 H1 e1 p1 p01 r post => ?_)⟩
    have hl := hl _ _ _ e1
    match os, hl with
    | [o], _ =>
      obtain ⟨v, w, rfl, ov, _, _, t⟩ := r
      obtain rfl : w = [] := t
      cases ew : walk .rng ([o].map (rs ρ1)) with
      | none => rw [ew] at post; exact post.elim
      | some xs =>
        rw [ew] at post
        simp only [List.map_cons, List.map_nil] at ew
        have rv := ov.rv p01.st
        generalize rs ρ1 o = z at ew rv
        unfold walk at ew
        split at ew <;> try (cases ew)
        · rename_i hk _; cases hk
        · rename_i n hk he
          cases he
          split at ew
          · rename_i hr
            cases ew
            simp only [inR, Bool.and_eq_true, decide_eq_true_eq] at hr
            have : v = .int n := Rp.inv_int (Rv.d rv)
            refine ⟨n, by rw [this], hr.1, hr.2, post _ F1 H1 p01 ⟨_, ?_, fun _ _ _ _ _ _ _ => trivial⟩⟩
            have := iw_range (Z := Z) (lo := 0) (hi := n)
            rwa [Int.sub_zero] at this
          · cases ew
        · rename_i he; cases he
        · rename_i he; cases he
        · rename_i hk _; cases hk
        · rename_i he; cases he
  | cons e2 es =>
    obtain rfl : es = [] := by simpa using h2
    have h3 : isStar e2 = false := by simpa using h1.2
    refine ⟨fun pins s σ H R I ⟨F0, H0, ρ0, F, ρ, p, post⟩ => (pi_range2 hg hm ha (by rw [star_cons h1.1, star_cons h3]; rfl) (star_cons h3)).run pins s σ H R I (runE p post fun os ρ1 vs F1 H1 e1 p1 p01 r post => ?_)⟩
    have hl := hl _ _ _ e1
    match os, hl with
    | [o, o2], _ =>
      obtain ⟨v, w, rfl, ov, _, _, t⟩ := r
      obtain ⟨v2, w, rfl, ov2, _, _, t⟩ := t
      obtain rfl : w = [] := t
      cases ew : walk .rng ([o, o2].map (rs ρ1)) with
      | none => rw [ew] at post; exact post.elim
      | some xs =>
        rw [ew] at post
        simp only [List.map_cons, List.map_nil] at ew
        have rv := ov.rv p01.st
        have rv2 := ov2.rv p01.st
        generalize rs ρ1 o = z at ew rv
        generalize rs ρ1 o2 = z2 at ew rv2
        unfold walk at ew
        split at ew <;> try (cases ew)
        · rename_i he; cases he
        · rename_i he; cases he
        · rename_i a b hk he
          cases he
          split at ew
          · rename_i hr
            cases ew
            simp only [inR, Bool.and_eq_true, decide_eq_true_eq] at hr
            have t1 : v = .int a := Rp.inv_int (Rv.d rv)
            have t2 : v2 = .int b := Rp.inv_int (Rv.d rv2)
            exact ⟨a, b, by rw [t1, t2], ⟨hr.1.1, hr.1.2, hr.2.1, hr.2.2⟩, post _ F1 H1 p01 ⟨_, iw_range, fun _ _ _ _ _ _ _ => trivial⟩⟩
          · cases ew
        · rename_i he; cases he
        · rename_i he; cases he
        · rename_i hk _; cases hk
/-- a list, a tuple, as it stands now -/
theorem now_at {o : O} {v : V} {xs : List D} (s : Sta Z F H σ ρ) (h : Out Z F H σ ρ o v) (e : items (rs ρ o) = some xs) : ∃ a vs, v = .ref a ∧ (if isT (rs ρ o) = true then SqT Z.K H a vs else SqL Z.K H a vs) ∧ Rps Z F H xs vs := by
  cases q : isT (rs ρ o) with
  | true =>
    obtain ⟨ys, ey⟩ := isT_eq q
    have rv := h.rv s
    rw [ey] at rv e
    cases e
    obtain ⟨a, vs, e1, e2, e3⟩ := Rp.inv_tup (Rv.d rv)
    exact ⟨a, vs, e1, by rw [if_pos rfl]; exact e2, e3⟩
  | false =>
    obtain ⟨a, vs, e1, e2, e3⟩ := snd_seq.seq_now s h e q
    exact ⟨a, vs, e1, by rw [if_neg (by decide)]; exact e2, e3⟩
theorem itemsL_items {o : O} {xs : List D} (h : itemsL o = some xs) : items o = some xs ∧ isT o = false := by
  unfold itemsL at h
  split at h
  · cases h; exact ⟨rfl, rfl⟩
  · cases h; exact ⟨rfl, rfl⟩
  · cases h
theorem snd_enum {e : Expr} {elts : List Expr} {kk : Nat} {g : Ev → R (List O)} {p pos tpos : Pos} (hK : X.K = Z.K) (hl : ∀ ρ os ρ1, g ρ = .ok os ρ1 → os.length = 1) (hg : Gl X "enumerate") (hm : X.mg "enumerate" = none) (ha : PA X [e] (LA Z E g)) (hs : isStar e = false) :
    PI X (.Tuple elts kk tpos) (.Call (.Name "enumerate" p) [e] [] pos) (LI Z E fun ρ => iterF .enum (g ρ)) := by
  refine ⟨fun pins s σ H R I ⟨F0, H0, ρ0, F, ρ, p, post⟩ => (pi_enumA hg hm ha (star_cons hs)).run pins s σ H R I (runE p post fun os ρ1 vs F1 H1 e1 p1 p01 r post => ?_)⟩
  have hl := hl _ _ _ e1
  match os, hl with
  | [o], _ =>
    obtain ⟨v, w, rfl, ov, of, _, t⟩ := r
    obtain rfl : w = [] := t
    cases ei : items (rs ρ1 o) with
    | none =>
      have e2 : walk .enum ([o].map (rs ρ1)) = none := by
        show (items (rs ρ1 o)).map _ = none
        rw [ei]; rfl
      rw [e2] at post
      exact post.elim
    | some xs =>
      have e2 : walk .enum ([o].map (rs ρ1)) = some (enumFrom 0 xs) := by
        show (items (rs ρ1 o)).map _ = _
        rw [ei]; rfl
      rw [e2] at post
      have key := fun σ' F' H' ρ' q hw st => stays (σ' := σ') (F' := F') (H' := H') (ρ' := ρ') q ov (of.back p) ei hw st
      obtain ⟨a, ws, rfl, q1, q2⟩ := now_at p01.st ov ei
      rw [hK]
      refine ⟨a, ws, rfl, ?_⟩
      cases b1 : isT (rs ρ1 o) with
      | true =>
        rw [if_pos b1] at q1
        refine .inr ⟨q1, post _ F1 H1 p01 ⟨_, iw_enumT, fun σ' F' H' ρ' q hw st => ?_⟩⟩
        obtain ⟨a', vs', e', h1, h2⟩ := key σ' F' H' ρ' q hw st
        cases e'
        rw [if_pos b1] at h1
        exact ⟨vs', h1, h2⟩
      | false =>
        rw [if_neg (by rw [b1]; decide)] at q1
        refine .inl ⟨q1, post _ F1 H1 p01 ⟨_, iw_enum, fun σ' F' H' ρ' q hw st => ?_⟩⟩
        obtain ⟨a', vs', e', h1, h2⟩ := key σ' F' H' ρ' q hw st
        cases e'
        rw [if_neg (by rw [b1]; decide)] at h1
        exact ⟨vs', h1, h2⟩
theorem walked_cons (o : O) (os : List O) : walked (o :: os) = walked [o] ++ walked os := by cases o <;> rfl
theorem snd_zip {e e2 : Expr} {elts : List Expr} {kk : Nat} {g : Ev → R (List O)} {p pos tpos : Pos} (hK : X.K = Z.K) (hl : ∀ ρ os ρ1, g ρ = .ok os ρ1 → os.length = 2) (hg : Gl X "zip") (hm : X.mg "zip" = none) (ha : PA X [e, e2] (LA Z E g)) (hs : isStar e = false) (hs2 : isStar e2 = false) :
    PI X (.Tuple elts kk tpos) (.Call (.Name "zip" p) [e, e2] [] pos) (LI Z E fun ρ => iterF .zip (g ρ)) := by
  refine ⟨fun pins s σ H R I ⟨F0, H0, ρ0, F, ρ, p, post⟩ => (RZ.pi_zipA hg hm ha (star_cons hs) (by rw [star_cons hs2]; rfl)).run pins s σ H R I (runE p post fun os ρ1 vs F1 H1 e1 p1 p01 r post => ?_)⟩
  have hl := hl _ _ _ e1
  match os, hl with
  | [o, o2], _ =>
    obtain ⟨v, w, rfl, ov, of, _, t⟩ := r
    obtain ⟨v2, w, rfl, ov2, of2, _, t⟩ := t
    obtain rfl : w = [] := t
    have ew : walk .zip ([o, o2].map (rs ρ1)) = if isT (rs ρ1 o) = isT (rs ρ1 o2) then (match items (rs ρ1 o), items (rs ρ1 o2) with
      | some xs, some ys => some ((xs.zip ys).map fun p => .tup [p.1, p.2])
      | _, _ => none) else none := rfl
    rw [ew] at post
    split at post
    · rename_i hT
      cases ei : items (rs ρ1 o) with
      | none => rw [ei] at post; exact post.elim
      | some xs =>
        cases ei2 : items (rs ρ1 o2) with
        | none => rw [ei, ei2] at post; exact post.elim
        | some ys =>
          rw [ei, ei2] at post
          have hm1 : ∀ i ∈ walked [o], i ∈ walked [o, o2] := fun i h => by rw [walked_cons]; exact List.mem_append_left _ h
          have hm2 : ∀ i ∈ walked [o2], i ∈ walked [o, o2] := fun i h => by rw [walked_cons]; exact List.mem_append_right _ h
          have key := fun σ' F' H' ρ' q (hw : ∀ i ∈ walked [o, o2], σ'[i]? = σ[i]?) st => stays (σ' := σ') (F' := F') (H' := H') (ρ' := ρ') q ov (of.back p) ei (fun i h => hw i (hm1 i h)) (stands_mem st hm1)
          have key2 := fun σ' F' H' ρ' q (hw : ∀ i ∈ walked [o, o2], σ'[i]? = σ[i]?) st => stays (σ' := σ') (F' := F') (H' := H') (ρ' := ρ') q ov2 (of2.back p) ei2 (fun i h => hw i (hm2 i h)) (stands_mem st hm2)
          obtain ⟨a, ws, rfl, q1, q2⟩ := now_at p01.st ov ei
          obtain ⟨b, ws2, rfl, q3, q4⟩ := now_at p01.st ov2 ei2
          rw [hK]
          refine ⟨a, b, ws, ws2, rfl, ?_⟩
          cases b1 : isT (rs ρ1 o) with
          | true =>
            have b2 : isT (rs ρ1 o2) = true := by rw [← hT, b1]
            rw [if_pos b1] at q1
            rw [if_pos b2] at q3
            refine .inr ⟨q1, q3, post _ F1 H1 p01 ⟨_, iw_zipT, fun σ' F' H' ρ' q hw st => ?_⟩⟩
            obtain ⟨a', vs', e', h1, h2⟩ := key σ' F' H' ρ' q hw st
            cases e'
            obtain ⟨a', vs2', e', h3, h4⟩ := key2 σ' F' H' ρ' q hw st
            cases e'
            rw [if_pos b1] at h1
            rw [if_pos b2] at h3
            exact ⟨⟨vs', h1, h2⟩, vs2', h3, h4⟩
          | false =>
            have b2 : isT (rs ρ1 o2) = false := by rw [← hT, b1]
            rw [if_neg (by rw [b1]; decide)] at q1
            rw [if_neg (by rw [b2]; decide)] at q3
            refine .inl ⟨q1, q3, post _ F1 H1 p01 ⟨_, iw_zip, fun σ' F' H' ρ' q hw st => ?_⟩⟩
            obtain ⟨a', vs', e', h1, h2⟩ := key σ' F' H' ρ' q hw st
            cases e'
            obtain ⟨a', vs2', e', h3, h4⟩ := key2 σ' F' H' ρ' q hw st
            cases e'
            rw [if_neg (by rw [b1]; decide)] at h1
            rw [if_neg (by rw [b2]; decide)] at h3
            exact ⟨⟨vs', h1, h2⟩, vs2', h3, h4⟩
    · exact post.elim
end
end Ev
/-! Ev9: targets; slots forgotten and put back; the list comprehension. -/
namespace Ev
open PySem PySem.Spec PyProof.Rows L2
section
variable {n : Nat} {E : XK} {X : Cx} {Z : Wo} {σ σ' σ0 σ1 σ2 : L2.St} {F F' F0 F1 F2 : Fz} {H H' H1 H0 H2 : Hp} {ρ ρ' ρ0 ρ1 ρ2 : Ev} {α β γ δ : Type}
/-! ### targets -/
/-- a slot takes data -/
theorem put_d {i : Nat} {x : D} {v : V} (s : Sta Z F H σ ρ) (r : Rp Z F H x v) : Path Z σ F H ρ (σ.set i (some v)) F H (ρ.set i (some (.d x))) := by
  refine ⟨⟨by rw [List.length_set, List.length_set]; exact s.len, fun j w ej => ?_, fun j k wj wk a ej ek hj hk sj sk => ?_, s.tabs, s.ft⟩, .refl, fun b ⟨j, w, ej, ho, es⟩ => .inl ?_, fun j w h pw => ?_⟩
  · rcases getset ej with ⟨rfl, z, hl⟩ | ⟨hn, z⟩
    · cases z
      rw [s.len] at hl
      exact ⟨v, List.getElem?_set_self hl, r⟩
    · rw [List.getElem?_set_ne (Ne.symm hn)]
      exact s.rep j w z
  · rcases getset ej with ⟨rfl, z, _⟩ | ⟨n1, z⟩
    · cases z; cases hj
    · rcases getset ek with ⟨rfl, z2, _⟩ | ⟨n2, z2⟩
      · cases z2; cases hk
      · rw [List.getElem?_set_ne (Ne.symm n1)] at sj
        rw [List.getElem?_set_ne (Ne.symm n2)] at sk
        exact s.inj _ _ _ _ _ z z2 hj hk sj sk
  · rcases getset ej with ⟨rfl, z, _⟩ | ⟨n1, z⟩
    · cases z; cases ho
    · rw [List.getElem?_set_ne (Ne.symm n1)] at es
      exact own_of z ho es
  · rcases getset h with ⟨rfl, z, _⟩ | ⟨n1, z⟩
    · cases z; cases pw
    · exact ⟨⟨_, z, pw⟩, by rw [List.getElem?_set_ne (Ne.symm n1)]⟩
/-- a slot takes a def -/
theorem put_F {i f : Nat} {v : V} (s : Sta Z F H σ ρ) (r : Z.f1 f = true ∧ v = .ref (Z.fa f)) : Path Z σ F H ρ (σ.set i (some v)) F H (ρ.set i (some (.F f))) := by
  refine ⟨⟨by rw [List.length_set, List.length_set]; exact s.len, fun j w ej => ?_, fun j k wj wk a ej ek hj hk sj sk => ?_, s.tabs, s.ft⟩, .refl, fun b ⟨j, w, ej, ho, es⟩ => .inl ?_, fun j w h pw => ?_⟩
  · rcases getset ej with ⟨rfl, z, hl⟩ | ⟨hn, z⟩
    · cases z
      rw [s.len] at hl
      exact ⟨v, List.getElem?_set_self hl, r⟩
    · rw [List.getElem?_set_ne (Ne.symm hn)]
      exact s.rep j w z
  · rcases getset ej with ⟨rfl, z, _⟩ | ⟨n1, z⟩
    · cases z; cases hj
    · rcases getset ek with ⟨rfl, z2, _⟩ | ⟨n2, z2⟩
      · cases z2; cases hk
      · rw [List.getElem?_set_ne (Ne.symm n1)] at sj
        rw [List.getElem?_set_ne (Ne.symm n2)] at sk
        exact s.inj _ _ _ _ _ z z2 hj hk sj sk
  · rcases getset ej with ⟨rfl, z, _⟩ | ⟨n1, z⟩
    · cases z; cases ho
    · rw [List.getElem?_set_ne (Ne.symm n1)] at es
      exact own_of z ho es
  · rcases getset h with ⟨rfl, z, _⟩ | ⟨n1, z⟩
    · cases z; cases pw
    · exact ⟨⟨_, z, pw⟩, by rw [List.getElem?_set_ne (Ne.symm n1)]⟩
/-- what a target wants -/
def LGt (Z : Wo) (t : Tg) : TG := fun v σ H Q => ∃ F ρ x ρ', Sta Z F H σ ρ ∧ Rp Z F H x v ∧ bindT t x ρ = some ρ' ∧ ∀ σ', Path Z σ F H ρ σ' F H ρ' → (∀ i, i ∉ slots t → σ'[i]? = σ[i]?) → σ'.length = σ.length → Q σ' H
def LGts (Z : Wo) (ts : List Tg) : TGs := fun vs σ H Q => ∃ F ρ xs ρ', Sta Z F H σ ρ ∧ Rps Z F H xs vs ∧ bindTs ts xs ρ = some ρ' ∧ ∀ σ', Path Z σ F H ρ σ' F H ρ' → (∀ i, i ∉ slotss ts → σ'[i]? = σ[i]?) → σ'.length = σ.length → Q σ' H
theorem pgImp {e : Expr} {t t' : TG} (h : PG X e t) (i : ∀ v σ H Q, t' v σ H Q → t v σ H Q) : PG X e t' := ⟨fun pins s σ H v u Q I r q => h.run pins s σ H v u Q I r (i v σ H Q q)⟩
theorem pgsImp {e : List Expr} {t t' : TGs} (h : PGs X e t) (i : ∀ v σ H Q, t' v σ H Q → t v σ H Q) : PGs X e t' := ⟨fun pins s σ H v u Q I r q => h.run pins s σ H v u Q I r (i v σ H Q q)⟩
theorem snd_nm {e : Expr} {i : Nat} (h : PG X e (gName i)) : PG X e (LGt Z (.nm i)) := by
  refine pgImp h fun v σ H Q ⟨F, ρ, x, ρ', s, r, e, q⟩ => ?_
  simp only [bindT, store] at e
  split at e
  · cases e
    refine q _ (put_d s r) (fun j hj => ?_) (by rw [List.length_set])
    have : i ≠ j := fun z => hj (by rw [z]; simp only [slots, List.mem_singleton])
    rw [List.getElem?_set_ne this]
  · cases e
theorem snd_tnil : PGs X [] (LGts Z []) := by
  refine pgsImp pgs_nil fun v σ H Q ⟨F, ρ, xs, ρ', s, r, e, q⟩ => ?_
  cases xs with
  | nil =>
    simp only [bindTs, Option.some.injEq] at e
    subst e
    exact ⟨r.inv0, q σ (.refl s) (fun _ _ => rfl) rfl⟩
  | cons x xs => simp [bindTs] at e
theorem snd_tcons {e : Expr} {es : List Expr} {t : Tg} {ts : List Tg} (h : PG X e (LGt Z t)) (h2 : PGs X es (LGts Z ts)) (hs : (assignEach (e :: es) X.env).map (·.2) = PySem.assign e X.env :: (assignEach es X.env).map (·.2)) : PGs X (e :: es) (LGts Z (t :: ts)) := by
  refine pgsImp (pgs_cons h h2 hs) fun v σ H Q ⟨F, ρ, xs, ρ', s, r, e, q⟩ => ?_
  cases xs with
  | nil => simp [bindTs] at e
  | cons x xs =>
    simp only [bindTs] at e
    obtain ⟨ρ1, e1, e2⟩ := Option.bind_eq_some_iff.mp e
    obtain ⟨w, vs, rfl, r1, r2⟩ := r.inv
    refine ⟨w, vs, rfl, F, ρ, x, ρ1, s, r1, e1, fun σ1 p1 k1 l1 => ⟨F, ρ1, xs, ρ', p1.st, r2, e2, fun σ2 p2 k2 l2 => q σ2 (p1.trans p2) (fun i hi => ?_) (l2.trans l1)⟩⟩
    simp only [slotss, List.mem_append, not_or] at hi
    rw [k2 i hi.2, k1 i hi.1]
theorem bindTs_len : ∀ {ts : List Tg} {xs : List D} {ρ ρ' : Ev}, bindTs ts xs ρ = some ρ' → xs.length = ts.length
  | [], xs, ρ, ρ', h => by
    cases xs with
    | nil => rfl
    | cons x xs => simp [bindTs] at h
  | t :: ts, xs, ρ, ρ', h => by
    cases xs with
    | nil => simp [bindTs] at h
    | cons x xs =>
      simp only [bindTs] at h
      obtain ⟨ρ1, e1, e2⟩ := Option.bind_eq_some_iff.mp h
      rw [List.length_cons, List.length_cons, bindTs_len e2]
theorem snd_tp {es : List Expr} {ts : List Tg} {k : Nat} {pos : Pos} (hK : X.K = Z.K) (hc : X.calm = true) (h : PGs X es (LGts Z ts)) (hn : (assignEach es X.env).length = ts.length) (hst : (assignEach es X.env).findIdx? (·.1) = none) :
    PG X (.Tuple es k pos) (LGt Z (.tp ts)) := by
  refine pgImp (pg_tup hc h hn hst) fun v σ H Q ⟨F, ρ, x, ρ', s, r, e, q⟩ => ?_
  cases x with
  | tup xs =>
    simp only [bindT] at e
    obtain ⟨a, vs, rfl, sq, rs'⟩ := Rp.inv_tup r
    exact ⟨a, vs, rfl, by rw [hK]; exact sq, by rw [← rs'.len]; exact bindTs_len e, F, ρ, xs, ρ', s, rs', e, q⟩
  | _ => simp [bindT] at e
/-! ### slots forgotten, put back -/
theorem wipeE_len : ∀ (own : List Nat) (ρ : Ev), (wipe ρ own).length = ρ.length
  | [], _ => rfl
  | i :: own, ρ => by simp only [wipe, List.length_set, wipeE_len own]
theorem wipeE_in : ∀ {own : List Nat} {ρ : Ev} {i : Nat} {w : W}, (wipe ρ own)[i]? = some (some w) → i ∉ own ∧ ρ[i]? = some (some w)
  | [], ρ, i, w, h => ⟨by simp, h⟩
  | j :: own, ρ, i, w, h => by
    simp only [wipe] at h
    rcases getset h with ⟨rfl, z, _⟩ | ⟨hn, z⟩
    · cases z
    · obtain ⟨h1, h2⟩ := wipeE_in z
      exact ⟨by simp only [List.mem_cons, not_or]; exact ⟨hn, h1⟩, h2⟩
theorem wipeE_out : ∀ {own : List Nat} {ρ : Ev} {i : Nat}, i ∉ own → (wipe ρ own)[i]? = ρ[i]?
  | [], ρ, i, h => rfl
  | j :: own, ρ, i, h => by
    simp only [List.mem_cons, not_or] at h
    simp only [wipe]
    rw [List.getElem?_set_ne (Ne.symm h.1), wipeE_out h.2]
theorem back_len : ∀ (own : List Nat) (ρ0 ρ : Ev), (back ρ0 ρ own).length = ρ.length
  | [], _, _ => rfl
  | i :: own, ρ0, ρ => by simp only [back, List.length_set, back_len own]
theorem back_in : ∀ {own : List Nat} {ρ0 ρ : Ev} {i : Nat}, i ∈ own → i < ρ.length → (back ρ0 ρ own)[i]? = some (ρ0[i]?.getD none)
  | j :: own, ρ0, ρ, i, h, hl => by
    simp only [back]
    by_cases e : i = j
    · subst e
      rw [List.getElem?_set_self (by rw [back_len]; exact hl)]
    · rw [List.getElem?_set_ne (Ne.symm e)]
      rcases List.mem_cons.mp h with z | z
      · exact absurd z e
      · exact back_in z hl
theorem back_out : ∀ {own : List Nat} {ρ0 ρ : Ev} {i : Nat}, i ∉ own → (back ρ0 ρ own)[i]? = ρ[i]?
  | [], _, _, _, _ => rfl
  | j :: own, ρ0, ρ, i, h => by
    simp only [List.mem_cons, not_or] at h
    simp only [back]
    rw [List.getElem?_set_ne (Ne.symm h.1), back_out h.2]
/-- fewer slots -/
theorem wipe_path (own : List Nat) (s : Sta Z F H σ ρ) : Path Z σ F H ρ (L2.wipe σ own) F H (wipe ρ own) := by
  have key : ∀ (i : Nat) (w : W), (wipe ρ own)[i]? = some (some w) → ρ[i]? = some (some w) ∧ (L2.wipe σ own)[i]? = σ[i]? := fun i w h => by
    obtain ⟨h1, h2⟩ := wipeE_in h
    exact ⟨h2, wipe_out h1⟩
  refine ⟨⟨by rw [wipeE_len, wipe_length]; exact s.len, fun i w e => ?_, fun i j wi wj a ei ej hi hj si sj => ?_, s.tabs, s.ft⟩, .refl, fun b ⟨i, w, e, ho, es⟩ => .inl ?_, fun i w h pw => ⟨⟨w, (key i w h).1, pw⟩, (key i w h).2⟩⟩
  · obtain ⟨h1, h2⟩ := key i w e
    rw [h2]
    exact s.rep i w h1
  · obtain ⟨h1, h2⟩ := key i wi ei
    obtain ⟨h3, h4⟩ := key j wj ej
    rw [h2] at si
    rw [h4] at sj
    exact s.inj _ _ _ _ _ h1 h3 hi hj si sj
  · obtain ⟨h1, h2⟩ := key i w e
    rw [h2] at es
    exact own_of h1 ho es
/-- back to the outer slots -/
theorem back_path (own : List Nat) (s : Sta Z F1 H1 σ ρ1) (p : Path Z (L2.wipe σ own) F1 H1 (wipe ρ1 own) (L2.wipe σ own) F H ρ) : Path Z σ F1 H1 ρ1 σ F H (back ρ1 ρ own) ∧ (∀ b, Own σ (back ρ1 ρ own) b → Own σ ρ1 b ∨ Own (L2.wipe σ own) ρ b) := by
  have hlen : ρ.length = ρ1.length := by rw [p.st.len, wipe_length, s.len]
  have w0 := wipe_path own s
  have key : ∀ (i : Nat) (w : W), (back ρ1 ρ own)[i]? = some (some w) → (i ∈ own ∧ ρ1[i]? = some (some w)) ∨ (i ∉ own ∧ ρ[i]? = some (some w) ∧ (L2.wipe σ own)[i]? = σ[i]?) := fun i w h => by
    by_cases hi : i ∈ own
    · have hl : i < ρ.length := by
        have := (List.getElem?_eq_some_iff.mp h).1
        rwa [back_len] at this
      rw [back_in hi hl] at h
      refine .inl ⟨hi, ?_⟩
      have h := Option.some.inj h
      cases q : ρ1[i]? with
      | none => rw [q] at h; cases h
      | some z => rw [q] at h; exact congrArg some h
    · rw [back_out hi] at h
      exact .inr ⟨hi, h, wipe_out hi⟩
  have u : Up F1 H1 F H := w0.st.up p.sp
  have own2 : ∀ b, Own σ (back ρ1 ρ own) b → Own σ ρ1 b ∨ Own (L2.wipe σ own) ρ b := fun b ⟨i, w, e, ho, es⟩ => by
    rcases key i w e with ⟨_, h⟩ | ⟨hi, h, h2⟩
    · exact .inl (own_of h ho es)
    · rw [← h2] at es
      exact .inr (own_of h ho es)
  have own' : ∀ b, Own σ (back ρ1 ρ own) b → Own σ ρ1 b ∨ NoO (H1 b) := fun b h => by
    rcases own2 b h with h | h
    · exact .inl h
    · rcases p.sub b h with z | z
      · rcases w0.sub b z with z | z
        · exact .inl z
        · exact .inr z
      · exact .inr z
  -- a list of a slot that was forgotten
  have off : ∀ (i : Nat) (w : W) a, i ∈ own → ρ1[i]? = some (some w) → isOwn w = true → σ[i]? = some (some (V.ref a)) → ¬ Own (L2.wipe σ own) (wipe ρ1 own) a := fun i w a hi e ho es ⟨j, w', ej, hj, sj⟩ => by
    obtain ⟨k1, k2⟩ := wipeE_in ej
    rw [wipe_out k1] at sj
    have : i = j := s.inj _ _ _ _ _ e k2 ho hj es sj
    exact k1 (by rw [← this]; exact hi)
  refine ⟨⟨⟨by rw [back_len, hlen]; exact s.len, fun i w e => ?_, fun i j wi wj a ei ej hi hj si sj => ?_, p.st.tabs, p.st.ft⟩, w0.sp.trans p.sp (fun x h => w0.sub x h), own', fun i w e pw => ?_⟩, own2⟩
  · rcases key i w e with ⟨hi, h⟩ | ⟨hi, h, h2⟩
    · obtain ⟨v, ev, r⟩ := s.rep i w h
      refine ⟨v, ev, r.up u fun a ea ho => ?_⟩
      subst ea
      have no := off i w a hi h ho ev
      have hk := s.kind (own_of h ho ev)
      refine ⟨fun o eo => p.sp.keep a o eo no fun ps z => ?_, fun z => ?_⟩
      · subst z
        rcases hk.1 with ⟨_, y⟩ | ⟨_, y⟩ | ⟨_, y⟩ <;> · rw [eo] at y; cases y
      · rcases p.sp.fout a z with y | y | y
        · exact hk.2 y
        · rcases hk.1 with ⟨_, x⟩ | ⟨_, x⟩ | ⟨_, x⟩ <;> · rw [x] at y; cases y
        · exact no y
    · rw [← h2]
      exact p.st.rep i w h
  · have cross : ∀ (i j : Nat) (wi wj : W), i ∈ own → ρ1[i]? = some (some wi) → isOwn wi = true → σ[i]? = some (some (V.ref a)) → j ∉ own → ρ[j]? = some (some wj) → isOwn wj = true → (L2.wipe σ own)[j]? = some (some (V.ref a)) → False := fun i j wi wj hi ei ho si hj ej hoj sj => by
      rcases p.sub a (own_of ej hoj sj) with z | z
      · exact off i wi a hi ei ho si z
      · have hk := s.kind (own_of ei ho si)
        rcases hk.1 with ⟨_, x⟩ | ⟨_, x⟩ | ⟨_, x⟩ <;> · rw [x] at z; cases z
    rcases key i wi ei with ⟨ii, h⟩ | ⟨ii, h, h2⟩
    · rcases key j wj ej with ⟨jj, h'⟩ | ⟨jj, h', h2'⟩
      · exact s.inj _ _ _ _ _ h h' hi hj si sj
      · exact (cross i j wi wj ii h hi si jj h' hj (by rw [h2']; exact sj)).elim
    · rcases key j wj ej with ⟨jj, h'⟩ | ⟨jj, h', h2'⟩
      · exact (cross j i wj wi jj h' hj sj ii h hi (by rw [h2]; exact si)).elim
      · exact p.st.inj _ _ _ _ _ h h' hi hj (by rw [h2]; exact si) (by rw [h2']; exact sj)
  · rcases key i w e with ⟨_, h⟩ | ⟨hi, h, h2⟩
    · exact ⟨⟨w, h, pw⟩, rfl⟩
    · obtain ⟨⟨w1, z1, z2⟩, _⟩ := p.pp i w h pw
      exact ⟨⟨w1, (wipeE_in z1).2, z2⟩, rfl⟩
/-! ### a new list that grows -/
/-- the new list at D, which no slot holds -/
structure CI (Z : Wo) (σ0 : L2.St) (F0 : Fz) (H0 : Hp) (ρ0 : Ev) (D : Addr) (σ : L2.St) (F : Fz) (H : Hp) (ρ : Ev) (acc : List Ev.D) : Prop where
  path : Path Z σ0 F0 H0 ρ0 σ F H ρ
  lst : ∃ vs, H D = some (.lst vs) ∧ Rps Z F H acc vs
  nf : ¬ F D
  no : ¬ Own σ ρ D
theorem CI.step {D : Addr} {acc : List Ev.D} (c : CI Z σ0 F0 H0 ρ0 D σ F H ρ acc) (p : Path Z σ F H ρ σ' F' H' ρ') : CI Z σ0 F0 H0 ρ0 D σ' F' H' ρ' acc := by
  obtain ⟨vs, e, r⟩ := c.lst
  refine ⟨c.path.trans p, ⟨vs, p.sp.keep D _ e c.no (fun _ z => by cases z), r.up (c.path.st.up p.sp)⟩, fun z => ?_, fun z => ?_⟩
  · rcases p.sp.fout D z with y | y | y
    · exact c.nf y
    · rw [e] at y; cases y
    · exact c.no y
  · rcases p.sub D z with y | y
    · exact c.no y
    · rw [e] at y; cases y
theorem CI.grow {D : Addr} {acc ys : List Ev.D} {ws : List V} (c : CI Z σ0 F0 H0 ρ0 D σ F H ρ acc) (h0 : H0 D = none) (r : Rps Z F H ys ws) : CI Z σ0 F0 H0 ρ0 D σ F (upd H D (.lst ws)) ρ ys := by
  obtain ⟨vs, e, _⟩ := c.lst
  have u : Up F H F (upd H D (.lst ws)) := ⟨fun c vs q => by
      rw [upd_ne (ne_of q e (by intro z; cases z))]; exact q, fun c o w q => by
      rw [upd_ne (ne_of q e (by intro z; cases z))]; exact q, fun _ f => f, fun b vs f q => by
      rw [upd_ne (fun z => c.nf (by rw [← z]; exact f))]; exact q⟩
  have th : ∀ b, ¬ NoO (H b) → ¬ NoO ((upd H D (.lst ws)) b) := fun b n => by
    by_cases z : b = D
    · rw [z, upd_same]; exact id
    · rw [upd_ne z]; exact n
  refine ⟨⟨⟨c.path.st.len, fun i w ei => ?_, c.path.st.inj, ?_, fun b f => th b (c.path.st.ft b f)⟩, ⟨fun b o eb nb t => ?_, fun b n => th b (c.path.sp.there b n), c.path.sp.fin, c.path.sp.fout⟩, c.path.sub, c.path.pp⟩, ⟨ws, upd_same, r.up u⟩, c.nf, c.no⟩
  · obtain ⟨v, ev, rw'⟩ := c.path.st.rep i w ei
    refine ⟨v, ev, rw'.up u fun a ea ho => ?_⟩
    subst ea
    have ow := own_of ei ho ev
    exact ⟨fun o q => by rw [upd_ne (fun z => c.no (by rw [← z]; exact ow))]; exact q, (c.path.st.kind ow).2⟩
  · intro t ht
    obtain ⟨ps, h1', h2', h3'⟩ := c.path.st.tabs t ht
    refine ⟨ps, ?_, h2', fun pos cv hc => ?_⟩
    · rw [upd_ne (ne_of h1' e (by intro z; cases z))]; exact h1'
    · obtain ⟨cc, ec, hcc⟩ := h3' pos cv hc
      refine ⟨cc, ec, ?_⟩
      rw [upd_ne (ne_of hcc e (by unfold LamX.CodeO; intro z; cases z))]
      exact hcc
  · rw [upd_ne (fun z => by rw [z, h0] at eb; cases eb)]
    exact c.path.sp.keep b o eb nb t
/-- an item that is kept -/
theorem CI.keep {D : Addr} {acc : List Ev.D} {o : O} {v : V} {x : Ev.D} (c : CI Z σ0 F0 H0 ρ0 D σ F H ρ acc) (h : Out Z F H σ ρ o v) (hn : isNew o = true → v ≠ .ref D) (f : Frs H0 o v) (e : Ev.keep ρ o = some (x, ρ2)) :
    ∃ F2, CI Z σ0 F0 H0 ρ0 D σ F2 H ρ2 acc ∧ Rp Z F2 H x v := by
  obtain ⟨F2, p2, rx, u, fr, ow⟩ := keep_ok c.path h f e
  obtain ⟨vs, eD, r⟩ := c.lst
  refine ⟨F2, ⟨p2, ⟨vs, eD, r.up u⟩, fun z => ?_, fun z => c.no (ow _ z)⟩, rx⟩
  rcases fr D z with y | ⟨y1, y2 | y2⟩
  · exact c.nf y
  · exact hn y2 y1
  · exact c.no y2
theorem CI.keep' {D : Addr} {acc : List Ev.D} {o : O} {v : V} {x : Ev.D} (c : CI Z σ0 F0 H0 ρ0 D σ F H ρ acc) (h : Out Z F H σ ρ o v) (hn : isNew o = true → v ≠ .ref D) (f : Frs H0 o v) (e : Ev.keep ρ o = some (x, ρ2)) :
    ∃ F2, CI Z σ0 F0 H0 ρ0 D σ F2 H ρ2 acc ∧ Rp Z F2 H x v ∧ (∀ b, F b → F2 b) ∧ ∀ b, Own σ ρ2 b → Own σ ρ b := by
  obtain ⟨F2, p2, rx, u, fr, ow⟩ := keep_ok c.path h f e
  obtain ⟨vs, eD, r⟩ := c.lst
  refine ⟨F2, ⟨p2, ⟨vs, eD, r.up u⟩, fun z => ?_, fun z => c.no (ow _ z)⟩, rx, u.fin, ow⟩
  rcases fr D z with y | ⟨y1, y2 | y2⟩
  · exact c.nf y
  · exact hn y2 y1
  · exact c.no y2
/-- slots forgotten, with as many left alone -/
theorem wipe_same {own : List Nat} {σ σ' : L2.St} (k : ∀ i, i ∉ own → σ'[i]? = (L2.wipe σ own)[i]?) (l : σ'.length = (L2.wipe σ own).length) : L2.wipe σ' own = L2.wipe σ own := by
  have gi : ∀ {own : List Nat} {σ : L2.St} {i : Nat}, i ∈ own → i < σ.length → (L2.wipe σ own)[i]? = some none := by
    intro own
    induction own with
    | nil => intro σ i h; cases h
    | cons j own ih =>
      intro σ i h hl
      unfold L2.wipe
      by_cases e : i = j
      · subst e
        rw [List.getElem?_set_self (by rw [wipe_length]; exact hl)]
      · rw [List.getElem?_set_ne (Ne.symm e)]
        rcases List.mem_cons.mp h with z | z
        · exact absurd z e
        · exact ih z hl
  apply List.ext_getElem?
  intro i
  by_cases hi : i ∈ own
  · by_cases hl : i < σ.length
    · rw [gi hi hl, gi hi (by rw [l, wipe_length]; exact hl)]
    · rw [List.getElem?_eq_none (by rw [wipe_length, l, wipe_length]; omega), List.getElem?_eq_none (by rw [wipe_length]; omega)]
  · rw [wipe_out hi]
    exact k i hi
/-! ### the list comprehension -/
/-- the relation of a test in a turn -/
theorem here {rel : Rel α β} {f : Ev → R α} {Q : β → Hp → Prop} (s : Sta Z F H σ ρ) (h : PostG Z E rel σ F H ρ (f ρ) Q) : LG Z E rel f σ H Q := ⟨F, H, ρ, F, ρ, .refl s, h⟩
theorem snd_comp {elt tg iter : Expr} {ifs : List Expr} {scope : Scope} {own : List (Str × Nat)} {ow : List Nat} {pos : Pos} {gi : Ev → R (List D × List Nat)} {t : Tg} {ft : Ev → R Bool} {fe : Ev → R O} (hc : X.calm = true) (hN : X.N.Nodup) (hi : PI X tg iter (LI Z E gi)) (ok : BlkOk X.N X.env.scope scope own)
    (hw : own.map (·.2) = ow) (hts : ∀ i ∈ slots t, i ∈ ow)
    (hg : ∀ (s : Shared) (H : Hp) (C : Addr) (cl : List (Str × Addr)) (fp : List Addr), PG (X.blk s H scope (compEnvC scope cl C X.env) fp) tg (LGt Z t)) (ht : ∀ (s : Shared) (H : Hp) (C : Addr) (cl : List (Str × Addr)) (fp : List Addr), PTs (X.blk s H scope (compEnvC scope cl C X.env) fp) ifs (LT Z E0 ft))
    (he : ∀ (s : Shared) (H : Hp) (C : Addr) (cl : List (Str × Addr)) (fp : List Addr), PE (X.blk s H scope (compEnvC scope cl C X.env) fp) elt (LE Z E0 fe)) (hs : ∀ x, foldedSetIterable iter X.env x = pure x) :
    PE X (.ListComp elt [⟨tg, iter, ifs, 0⟩] scope pos) (LE Z E fun ρ => (gi ρ).bind fun p ρ1 => compEnd ow ρ1 p.2 (walkL (compTurn ow ρ1 p.2 t ft fe) p.1 [] (wipe ρ1 ow))) := by
  subst hw
  refine peImp (pe_lc hc hN hi ok hg ht he hs) fun σ H Q q => lcImp hts q
where
  lcImp {σ : L2.St} {H : Hp} {Q : VK} {gi : Ev → R (List D × List Nat)} {ow : List Nat} {t : Tg} {ft : Ev → R Bool} {fe : Ev → R O} (hts : ∀ i ∈ slots t, i ∈ ow)
      (q : LE Z E (fun ρ => (gi ρ).bind fun p ρ1 => compEnd ow ρ1 p.2 (walkL (compTurn ow ρ1 p.2 t ft fe) p.1 [] (wipe ρ1 ow))) σ H Q) :
      tLc (LI Z E gi) (LGt Z t) (LT Z E0 ft) (LE Z E0 fe) ow σ H Q := by
    obtain ⟨F0, H0, ρ0, F, ρ, p, post⟩ := q
    refine run p post fun xw ρ1 J F1 H1 p1 p01 r post => ?_
    obtain ⟨xs, ws⟩ := xw
    obtain ⟨St, iw, hst⟩ := r
    intro D hD
    -- what came of it
    unfold compEnd at post
    cases e : walkL (compTurn ow ρ1 ws t ft fe) xs [] (wipe ρ1 ow) with
    | stuck => simp only [e, R.bind_stuck, R.calm] at post; exact post.elim
    | exc c ρ5 => simp only [e, R.bind_exc, R.calm] at post; exact post.elim
    | ok accf ρ5 =>
      simp only [e, R.bind_ok] at post
      by_cases hs5 : stands ρ1 ρ5 ws = true
      · rw [if_pos hs5] at post
        have w0 := wipe_path ow p01.st
        have n1 : ¬ F1 D := fun f => p01.st.ft D f (.none hD)
        have c0 : CI Z (L2.wipe σ ow) F1 H1 (wipe ρ1 ow) D (L2.wipe σ ow) F1 (upd H1 D (.lst [])) (wipe ρ1 ow) [] := by
          have sm : Same H1 (upd H1 D (.lst [])) := fun b o e => by
            rw [upd_ne (fun z => by rw [z, hD] at e; cases e)]; exact e
          refine ⟨(Path.refl w0.st).same sm, ⟨[], upd_same, .nil⟩, n1, fun z => ?_⟩
          rcases (w0.st.kind z).1 with ⟨_, y⟩ | ⟨_, y⟩ | ⟨_, y⟩ <;> · rw [hD] at y; cases y
        refine ⟨fun i m H => m = xs.length - i ∧ i ≤ xs.length ∧ ∃ F ρ acc, CI Z (L2.wipe σ ow) F1 H1 (wipe ρ1 ow) D (L2.wipe σ ow) F H ρ acc ∧ walkL (compTurn ow ρ1 ws t ft fe) (xs.drop i) acc ρ = .ok accf ρ5,
          ⟨xs.length, by omega, Nat.zero_le _, F1, wipe ρ1 ow, [], c0, by rw [List.drop_zero]; exact e⟩, ?_⟩
        rintro i m H ⟨rfl, hi, F, ρ, acc, c, ew⟩
        -- the walked things stand
        have std : stands ρ1 ρ ws = true → St F H := fun h => by
          refine hst _ _ _ _ ((w0.trans c.path).later p01.st) (fun j hj => ?_) h
          obtain ⟨p', q', ys, e1, e2⟩ := stands_get h hj
          obtain ⟨v, ev, _⟩ := c.path.st.rep j _ e2
          obtain ⟨h1, h2⟩ := wipe_some ev
          rw [ev, h1]
        rcases Nat.lt_or_ge i xs.length with hlt | hge
        · -- one more turn
          have ed : xs.drop i = xs[i] :: xs.drop (i + 1) := List.drop_eq_getElem_cons hlt
          rw [ed] at ew
          simp only [walkL] at ew
          have hsd : stands ρ1 ρ ws = true := by
            cases b : stands ρ1 ρ ws with
            | true => rfl
            | false => simp [compTurn, b] at ew
          simp only [compTurn, hsd, if_true] at ew
          refine .inr ⟨iw.go i F H (std hsd) hlt, fun H => ∃ F ρ acc, CI Z (L2.wipe σ ow) F1 H1 (wipe ρ1 ow) D (L2.wipe σ ow) F H ρ acc ∧ walkL (compTurn ow ρ1 ws t ft fe) (xs.drop (i + 1)) acc ρ = .ok accf ρ5,
            fun H' nx => ⟨xs.length - (i + 1), by omega, rfl, hlt, nx⟩, fun v H' y => ?_⟩
          obtain ⟨sm, rx⟩ := iw.yld i xs[i] F H v H' (std hsd) (List.getElem?_eq_getElem hlt) y
          have c1 := c.step ((Path.refl c.path.st).same sm)
          cases eb : bindT t xs[i] ρ with
          | none => rw [eb] at ew; simp at ew
          | some ρ2 =>
            rw [eb] at ew
            simp only [R.opt_some] at ew
            refine ⟨F, ρ, xs[i], ρ2, c1.path.st, rx, eb, fun σ2 pb kb lb => ?_⟩
            have c2 := c1.step pb
            have hwp : L2.wipe σ2 ow = L2.wipe σ ow := by
              refine wipe_same (fun j hj => kb j fun z => hj (hts j z)) lb
            refine ⟨hwp, here c2.path.st ?_⟩
            unfold ifB at ew
            cases et : ft ρ2 with
            | stuck => rw [et] at ew; simp at ew
            | exc k ρ3 => rw [et] at ew; simp at ew
            | ok b ρ3 =>
              rw [et] at ew
              simp only [R.bind_ok] at ew
              intro b' F3 H3 p3 eb'
              have eb' : b' = b := eb'
              subst eb'
              have c3 := c2.step p3
              have p3' : Sta Z F3 H3 σ2 ρ3 := p3.st
              cases b' with
              | false =>
                simp only [Bool.false_eq_true, if_false, R.bind_ok] at ew ⊢
                have wp := wipe_path ow p3'
                rw [hwp] at wp
                exact ⟨F3, wipe ρ3 ow, acc, c3.step wp, ew⟩
              | true =>
                simp only [if_true] at ew ⊢
                refine here p3' ?_
                cases ee : fe ρ3 with
                | stuck => rw [ee] at ew; simp at ew
                | exc k ρ4 => rw [ee] at ew; simp at ew
                | ok o ρ4 =>
                  rw [ee] at ew
                  simp only [R.bind_ok] at ew
                  intro y4 F4 H4 p4 r4
                  have c4 := c3.step p4
                  cases ek : keep ρ4 o with
                  | none => rw [ek] at ew; simp at ew
                  | some kp =>
                    obtain ⟨x5, ρ5'⟩ := kp
                    rw [ek] at ew
                    simp only [R.opt_some] at ew
                    split at ew
                    · rename_i hlen
                      simp only [R.bind_ok] at ew
                      obtain ⟨F5, c5, rx5⟩ := c4.keep r4.1 (fun hn z => by
                        obtain ⟨vs, eD, _⟩ := c3.lst
                        have q := r4.2 hn D z
                        rw [eD] at q
                        cases q) (r4.2.back c3.path) ek
                      obtain ⟨vs, eD, rvs⟩ := c5.lst
                      have wp := wipe_path ow c5.path.st
                      rw [hwp] at wp
                      have c6 := c5.step wp
                      refine ⟨vs, eD, by rw [← rvs.len, sizeLine_eq]; exact hlen, F5, wipe ρ5' ow, acc ++ [x5], ?_, ew⟩
                      exact c6.grow hD (rvs.append (.cons rx5 .nil))
                    · simp at ew
        · -- the end
          have ei : i = xs.length := by omega
          subst ei
          rw [List.drop_length] at ew
          simp only [walkL, R.ok.injEq] at ew
          obtain ⟨rfl, rfl⟩ := ew
          refine .inl ⟨iw.stop F H (std hs5), ?_⟩
          obtain ⟨vs, eD, rvs⟩ := c.lst
          obtain ⟨pb, ob⟩ := back_path ow p01.st c.path
          refine post (.ref D) F H (p01.trans pb) ⟨⟨D, vs, rfl, eD, rvs, c.nf, fun z => ?_⟩, fun _ a ea => ?_⟩
          · rcases ob D z with z | z
            · rcases (p01.st.kind z).1 with ⟨_, y⟩ | ⟨_, y⟩ | ⟨_, y⟩ <;> · rw [hD] at y; cases y
            · exact c.no z
          · cases ea
            exact .of_not fun y => p01.sp.there D y (.none hD)
      · rw [if_neg hs5] at post
        exact post.elim
end
end Ev
/-! Ev10: statements. -/
namespace Ev
open PySem PySem.Spec PyProof.Rows L2
section
variable {n : Nat} {E : XK} {X : Cx} {Z : Wo} {σ σ' σ0 σ1 σ2 : L2.St} {F F' F0 F1 F2 : Fz} {H H' H1 H0 H2 : Hp} {ρ ρ' ρ0 ρ1 ρ2 : Ev} {A B : List Nat} {α β γ δ : Type} {D D' : Ends}
/-- all slots but those of A are as they were -/
structure Agr (A : List Nat) (σ σ' : L2.St) : Prop where
  len : σ'.length = σ.length
  out : ∀ i, i ∉ A → σ'[i]? = σ[i]?
theorem Agr.refl : Agr A σ σ := ⟨rfl, fun _ _ => rfl⟩
theorem Agr.trans (a : Agr A σ σ1) (b : Agr A σ1 σ2) : Agr A σ σ2 := ⟨b.len.trans a.len, fun i h => (b.out i h).trans (a.out i h)⟩
theorem Agr.mono (a : Agr A σ σ') (h : ∀ i ∈ A, i ∈ B) : Agr B σ σ' := ⟨a.len, fun i n => a.out i fun z => n (h i z)⟩
def PostS (Z : Wo) (E : XK) (A : List Nat) (σ : L2.St) (F : Fz) (H : Hp) (ρ : Ev) (r : R Fl) (D : Ends) : Prop := match r with
  | .ok fl ρ' => ∀ σ' F' H', Path Z σ F H ρ σ' F' H' ρ' → Agr A σ σ' → match fl with
    | .nx => D.nx σ' H'
    | .brk => D.bk σ' H'
    | .cont => D.ct σ' H'
    | .ret o => ∀ v, Out Z F' H' σ' ρ' o v → Frs H o v → D.rt v H'
  | .exc c ρ' => ∀ σ' F' H', Path Z σ F H ρ σ' F' H' ρ' → E (Z.cls c) none H'
  | .stuck => False
def LS (Z : Wo) (E : XK) (A : List Nat) (f : Ev → R Fl) : TS := fun D σ H => ∃ F ρ, Sta Z F H σ ρ ∧ PostS Z E A σ F H ρ (f ρ) D
theorem PostS.step {r : R Fl} (h : PostS Z E A σ F H ρ r D) (p : Path Z σ F H ρ σ1 F1 H1 ρ1) (a : Agr A σ σ1) : PostS Z E A σ1 F1 H1 ρ1 r D := by
  cases r with
  | ok fl ρ' =>
    intro σ' F' H' p' a'
    have z := h σ' F' H' (p.trans p') (a.trans a')
    cases fl with
    | nx => exact z
    | brk => exact z
    | cont => exact z
    | ret o => exact fun v ov fr => z v ov (fr.back p)
  | exc c ρ' => exact fun σ' F' H' p' => h σ' F' H' (p.trans p')
  | stuck => exact h
theorem PostS.mono {r : R Fl} (h : PostS Z E B σ F H ρ r D) (m : ∀ i ∈ A, i ∈ B) : PostS Z E A σ F H ρ r D := by
  cases r with
  | ok fl ρ' =>
    intro σ' F' H' p' a'
    exact h σ' F' H' p' (a'.mono m)
  | exc c ρ' => exact h
  | stuck => exact h
theorem psImp {st : Stmt} {t t' : TS} (h : PS X st t) (i : ∀ D σ H, t' D σ H → t D σ H) : PS X st t' := ⟨fun pins s σ H D I q => h.run pins s σ H D I (i D σ H q)⟩
theorem pssImp {st : List Stmt} {t t' : TS} (h : PSs X st t) (i : ∀ D σ H, t' D σ H → t D σ H) : PSs X st t' := ⟨fun pins s σ H D I q => h.run pins s σ H D I (i D σ H q)⟩
theorem PS.more {st : Stmt} {f : Ev → R Fl} (h : PS X st (LS Z E A f)) (m : ∀ i ∈ A, i ∈ B) : PS X st (LS Z E B f) := psImp h fun D σ H ⟨F, ρ, s, p⟩ => ⟨F, ρ, s, p.mono m⟩
theorem PSs.more {st : List Stmt} {f : Ev → R Fl} (h : PSs X st (LS Z E A f)) (m : ∀ i ∈ A, i ∈ B) : PSs X st (LS Z E B f) := pssImp h fun D σ H ⟨F, ρ, s, p⟩ => ⟨F, ρ, s, p.mono m⟩
/-- a part that is no statement runs -/
theorem partS {rel : Rel α β} {f : Ev → R α} {k : α → Ev → R Fl} {Q2 : β → Hp → Prop} (s : Sta Z F H σ ρ) (post : PostS Z E A σ F H ρ ((f ρ).bind k) D)
    (i : ∀ a ρ1 b F1 H1, f ρ = .ok a ρ1 → Path Z σ F H ρ σ F1 H1 ρ1 → rel σ H F1 H1 ρ1 a b → PostS Z E A σ F H ρ (k a ρ1) D → Q2 b H1) : LG Z E rel f σ H Q2 := by
  refine here s ?_
  cases e : f ρ with
  | ok a ρ1 =>
    rw [e] at post
    exact fun b F1 H1 p r => i a ρ1 b F1 H1 e p r post
  | exc c ρ1 =>
    rw [e] at post
    exact fun F1 H1 p => post σ F1 H1 p
  | stuck =>
    rw [e] at post
    exact post
/-! ### blocks -/
theorem snd_bnil : PSs X [] (LS Z E A fun ρ => .ok .nx ρ) := pssImp pss_nil fun D σ H ⟨F, ρ, s, p⟩ => p σ F H (.refl s) .refl
theorem snd_bcons {st : Stmt} {rest : List Stmt} {f g : Ev → R Fl} (h1 : PS X st (LS Z E A f)) (h2 : PSs X rest (LS Z E A g)) : PSs X (st :: rest) (LS Z E A fun ρ => (f ρ).bind fun fl ρ1 => match fl with
    | .nx => g ρ1
    | fl => .ok fl ρ1) := by
  refine pssImp (pss_cons h1 h2) fun D σ H ⟨F, ρ, s, p⟩ => ⟨F, ρ, s, ?_⟩
  cases e : f ρ with
  | stuck => simp only [e] at p; exact p
  | exc c ρ1 => simp only [e] at p; exact p
  | ok fl ρ1 =>
    simp only [e, R.bind_ok] at p
    intro σ' F' H' p' a'
    cases fl with
    | nx => exact ⟨F', ρ1, p'.st, p.step p' a'⟩
    | brk => exact p σ' F' H' p' a'
    | cont => exact p σ' F' H' p' a'
    | ret o => exact p σ' F' H' p' a'
theorem snd_pass {pos : Pos} : PS X (.Pass pos) (LS Z E A fun ρ => .ok .nx ρ) := psImp ps_pass fun D σ H ⟨F, ρ, s, p⟩ => p σ F H (.refl s) .refl
theorem snd_brk {pos : Pos} : PS X (.Break pos) (LS Z E A fun ρ => .ok .brk ρ) := psImp ps_break fun D σ H ⟨F, ρ, s, p⟩ => p σ F H (.refl s) .refl
theorem snd_cont {pos : Pos} : PS X (.Continue pos) (LS Z E A fun ρ => .ok .cont ρ) := psImp ps_continue fun D σ H ⟨F, ρ, s, p⟩ => p σ F H (.refl s) .refl
theorem snd_doc {x j pos pos'} : PS X (.Expr (.Constant (.str x) j pos) pos') (LS Z E A fun ρ => .ok .nx ρ) := psImp ps_doc fun D σ H ⟨F, ρ, s, p⟩ => p σ F H (.refl s) .refl
theorem snd_ex {e : Expr} {f : Ev → R O} {pos : Pos} (h : PE X e (LE Z E f)) (hs : swapsWith e none pos.line X.env = pure false) : PS X (.Expr e pos) (LS Z E A fun ρ => (f ρ).bind fun _ ρ1 => .ok .nx ρ1) :=
  psImp (ps_expr h hs) fun D σ H ⟨F, ρ, s, p⟩ => partS s p fun a ρ1 b F1 H1 _ p1 r post => post σ F1 H1 p1 .refl
theorem snd_ret {e : Expr} {f : Ev → R O} {pos : Pos} (h : PE X e (LE Z E f)) : PS X (.Return (some e) pos) (LS Z E A fun ρ => (f ρ).bind fun o ρ1 => .ok (.ret o) ρ1) :=
  psImp (ps_ret h) fun D σ H ⟨F, ρ, s, p⟩ => partS s p fun a ρ1 b F1 H1 _ p1 r post => post σ F1 H1 p1 .refl b r.1 r.2
theorem snd_retN {pos : Pos} : PS X (.Return none pos) (LS Z E A fun ρ => .ok (.ret (.d .non)) ρ) :=
  psImp ps_retN fun D σ H ⟨F, ρ, s, p⟩ => p σ F H (.refl s) .refl .non (by show Rp Z F H .non .non; simp only [Rp]) fun z => by cases z
theorem snd_if {c : Expr} {a b : List Stmt} {fc : Ev → R Bool} {fa fb : Ev → R Fl} {pos : Pos} (hc : PT X c (LT Z E fc)) (ha : PSs X a (LS Z E A fa)) (hb : PSs X b (LS Z E A fb)) : PS X (.If c a b pos) (LS Z E A fun ρ => ifB (fc ρ) fa fb) := by
  refine psImp (ps_if hc ha hb) fun D σ H ⟨F, ρ, s, p⟩ => partS s p fun b ρ1 b' F1 H1 _ p1 r post => ?_
  obtain rfl : b' = b := r
  cases b' with
  | true => exact ⟨F1, ρ1, p1.st, post.step p1 .refl⟩
  | false => exact ⟨F1, ρ1, p1.st, post.step p1 .refl⟩
/-! ### stores -/
theorem free_lt {i : Nat} (h : free ρ i = true) : i < ρ.length := by
  unfold free at h
  cases e : ρ[i]? with
  | none => rw [e] at h; cases h
  | some w => exact (List.getElem?_eq_some_iff.mp e).1
theorem agr_set {i : Nat} {v : V} (h : i ∈ A) : Agr A σ (σ.set i (some v)) := ⟨by rw [List.length_set], fun j hj => by
  rw [List.getElem?_set_ne (fun z => hj (by rw [← z]; exact h))]⟩
/-- a slot takes a new list, dict -/
theorem put_new {i : Nat} {w : W} {o : O} {v : V} (p : Path Z σ0 F0 H0 ρ0 σ F H ρ) (h : Out Z F H σ ρ o v) (f : Frs H0 o v) (hn : isNew o = true) (hw : (∃ xs, o = .L xs ∧ w = .L false xs) ∨ ∃ t kvs, o = .M t kvs ∧ w = .M false t kvs) :
    Path Z σ0 F0 H0 ρ0 (σ.set i (some v)) F H (ρ.set i (some w)) := by
  obtain ⟨a, ev, rw', na⟩ : ∃ a, v = .ref a ∧ RpW Z F H w v ∧ ¬ Own σ ρ a := by
    rcases hw with ⟨xs, rfl, rfl⟩ | ⟨t, kvs, rfl, rfl⟩
    · obtain ⟨a, vs, rfl, h1, h2, h3, h4⟩ := h
      exact ⟨a, rfl, ⟨a, vs, rfl, h1, h2, h3⟩, h4⟩
    · obtain ⟨a, rfl, h1, h3, h4⟩ := h
      exact ⟨a, rfl, ⟨a, rfl, h1, h3⟩, h4⟩
  subst ev
  have hp : isP w = false := by rcases hw with ⟨xs, rfl, rfl⟩ | ⟨t, kvs, rfl, rfl⟩ <;> rfl
  have own' : ∀ b, Own (σ.set i (some (.ref a))) (ρ.set i (some w)) b → Own σ ρ b ∨ b = a := fun b ⟨j, u, ej, ho, es⟩ => by
    rcases getset ej with ⟨rfl, z, hl⟩ | ⟨n1, z⟩
    · rw [p.st.len] at hl
      rw [List.getElem?_set_self hl] at es
      cases (Option.some.inj (Option.some.inj es))
      exact .inr rfl
    · rw [List.getElem?_set_ne (Ne.symm n1)] at es
      exact .inl (own_of z ho es)
  refine ⟨⟨by rw [List.length_set, List.length_set]; exact p.st.len, fun j u ej => ?_, fun j k wj wk b ej ek hj hk sj sk => ?_, p.st.tabs, p.st.ft⟩, p.sp, fun b ob => ?_, p.pp.trans fun j u ej pu => ?_⟩
  · rcases getset ej with ⟨rfl, z, hl⟩ | ⟨n1, z⟩
    · cases z
      rw [p.st.len] at hl
      exact ⟨_, List.getElem?_set_self hl, rw'⟩
    · rw [List.getElem?_set_ne (Ne.symm n1)]
      exact p.st.rep j u z
  · rcases getset ej with ⟨rfl, z, hl⟩ | ⟨n1, z⟩
    · rcases getset ek with ⟨rfl, z2, _⟩ | ⟨n2, z2⟩
      · rfl
      · rw [p.st.len] at hl
        rw [List.getElem?_set_self hl] at sj
        cases (Option.some.inj (Option.some.inj sj))
        rw [List.getElem?_set_ne (Ne.symm n2)] at sk
        exact absurd (own_of z2 hk sk) na
    · rcases getset ek with ⟨rfl, z2, hl⟩ | ⟨n2, z2⟩
      · rw [p.st.len] at hl
        rw [List.getElem?_set_self hl] at sk
        cases (Option.some.inj (Option.some.inj sk))
        rw [List.getElem?_set_ne (Ne.symm n1)] at sj
        exact absurd (own_of z hj sj) na
      · rw [List.getElem?_set_ne (Ne.symm n1)] at sj
        rw [List.getElem?_set_ne (Ne.symm n2)] at sk
        exact p.st.inj _ _ _ _ _ z z2 hj hk sj sk
  · rcases own' b ob with z | rfl
    · exact p.sub b z
    · exact .inr (f hn b rfl)
  · rcases getset ej with ⟨rfl, z, _⟩ | ⟨n1, z⟩
    · cases z
      rw [hp] at pu
      cases pu
    · exact ⟨⟨_, z, pu⟩, by rw [List.getElem?_set_ne (Ne.symm n1)]⟩
/-- what a slot's taking of a value leaves: what was frozen, what is held -/
structure Put (σ : L2.St) (F : Fz) (H : Hp) (ρ : Ev) (i : Nat) (o : O) (v : V) (F2 : Fz) (ρ2 : Ev) : Prop where
  up : Up F H F2 H
  fr : ∀ b, F2 b → F b ∨ (v = .ref b ∧ (isNew o = true ∨ Own σ ρ b))
  ow : ∀ b, Own (σ.set i (some v)) ρ2 b → Own σ ρ b ∨ (v = .ref b ∧ isNew o = true)
theorem ow_d {i : Nat} {x : Ev.D} {v : V} (b : Addr) (h : Own (σ.set i (some v)) (ρ.set i (some (.d x))) b) : Own σ ρ b := by
  obtain ⟨j, w, ej, ho, es⟩ := h
  rcases getset ej with ⟨rfl, z, _⟩ | ⟨n1, z⟩
  · cases z; cases ho
  · rw [List.getElem?_set_ne (Ne.symm n1)] at es
    exact own_of z ho es
theorem ow_F {i f : Nat} {v : V} (b : Addr) (h : Own (σ.set i (some v)) (ρ.set i (some (.F f))) b) : Own σ ρ b := by
  obtain ⟨j, w, ej, ho, es⟩ := h
  rcases getset ej with ⟨rfl, z, _⟩ | ⟨n1, z⟩
  · cases z; cases ho
  · rw [List.getElem?_set_ne (Ne.symm n1)] at es
    exact own_of z ho es
theorem ow_n {i : Nat} {w : W} {v : V} (hl : ρ.length = σ.length) (b : Addr) (h : Own (σ.set i (some v)) (ρ.set i (some w)) b) : Own σ ρ b ∨ v = .ref b := by
  obtain ⟨j, u, ej, ho, es⟩ := h
  rcases getset ej with ⟨rfl, z, hl2⟩ | ⟨n1, z⟩
  · rw [hl] at hl2
    rw [List.getElem?_set_self hl2] at es
    exact .inr (Option.some.inj (Option.some.inj es))
  · rw [List.getElem?_set_ne (Ne.symm n1)] at es
    exact .inl (own_of z ho es)
/-- name = value -/
theorem assign_ok {i : Nat} {o : O} {v : V} (p : Path Z σ0 F0 H0 ρ0 σ F H ρ) (h : Out Z F H σ ρ o v) (f : Frs H0 o v) (e : assign ρ i o = some ρ2) :
    ∃ F2, Path Z σ0 F0 H0 ρ0 (σ.set i (some v)) F2 H ρ2 ∧ Put σ F H ρ i o v F2 ρ2 := by
  cases o with
  | d x =>
    simp only [assign, store] at e
    split at e
    · cases e
      exact ⟨F, p.trans (put_d p.st h), .refl, fun _ z => .inl z, fun b z => .inl (ow_d b z)⟩
    · cases e
  | F f =>
    simp only [assign, store] at e
    split at e
    · cases e
      exact ⟨F, p.trans (put_F p.st h), .refl, fun _ z => .inl z, fun b z => .inl (ow_F b z)⟩
    · cases e
  | L xs =>
    simp only [assign, store] at e
    split at e
    · cases e
      exact ⟨F, put_new p h f rfl (.inl ⟨xs, rfl, rfl⟩), .refl, fun _ z => .inl z, fun b z => (ow_n p.st.len b z).imp id fun z => ⟨z, rfl⟩⟩
    · cases e
  | M t kvs =>
    simp only [assign, store] at e
    split at e
    · cases e
      exact ⟨F, put_new p h f rfl (.inr ⟨t, kvs, rfl, rfl⟩), .refl, fun _ z => .inl z, fun b z => (ow_n p.st.len b z).imp id fun z => ⟨z, rfl⟩⟩
    · cases e
  | bor j =>
    have hs : σ[j]? = some (some v) := h
    simp only [assign] at e
    split at e
    · rename_i xs q
      obtain ⟨v', e3, a, vs, e4, _⟩ := p.st.rep j _ q
      rw [hs] at e3
      have e5 := Option.some.inj (Option.some.inj e3)
      subst e5 e4
      obtain ⟨p2, r⟩ := frz_own p q hs
      simp only [store] at e
      split at e
      · cases e
        refine ⟨_, p2.trans (put_d p2.st r), .frz, fun b z => ?_, fun b z => .inl ?_⟩
        · rcases z with z | rfl
          · exact .inl z
          · exact .inr ⟨rfl, .inr (own_of q rfl hs)⟩
        · obtain ⟨k, w, ej, ho, es⟩ := ow_d b z
          rcases getset ej with ⟨rfl, z, _⟩ | ⟨hn, z⟩
          · cases z; cases ho
          · exact own_of z ho es
      · cases e
    · cases e
/-- another value behind it -/
theorem Out.put {i : Nat} {o o' : O} {v v' : V} (pu : Put σ F H ρ i o v F2 ρ2) (h : Out Z F H σ ρ o' v') (ap : isNew o = true → ∀ a, v = .ref a → isNew o' = true → v' ≠ .ref a) (nb : ∀ k, o' = .bor k → k ≠ i) : Out Z F2 H (σ.set i (some v)) ρ2 o' v' := by
  cases o' with
  | d x => exact Rp.up pu.up h
  | F f => exact h
  | L xs =>
    obtain ⟨a, vs, rfl, h1, h2, h3, h4⟩ := h
    refine ⟨a, vs, rfl, h1, h2.up pu.up, fun z => ?_, fun z => ?_⟩
    · rcases pu.fr a z with z | ⟨z1, z2 | z2⟩
      · exact h3 z
      · exact ap z2 a z1 rfl rfl
      · exact h4 z2
    · rcases pu.ow a z with z | ⟨z1, z2⟩
      · exact h4 z
      · exact ap z2 a z1 rfl rfl
  | M t kvs =>
    obtain ⟨a, rfl, h1, h3, h4⟩ := h
    refine ⟨a, rfl, h1.up pu.up fun _ q => q, fun z => ?_, fun z => ?_⟩
    · rcases pu.fr a z with z | ⟨z1, z2 | z2⟩
      · exact h3 z
      · exact ap z2 a z1 rfl rfl
      · exact h4 z2
    · rcases pu.ow a z with z | ⟨z1, z2⟩
      · exact h4 z
      · exact ap z2 a z1 rfl rfl
  | bor k =>
    have hs : σ[k]? = some (some v') := h
    show (σ.set i (some v))[k]? = _
    rw [List.getElem?_set_ne (Ne.symm (nb k rfl))]
    exact hs
def setAll (σ : L2.St) : List Nat → List V → L2.St
  | i :: is, v :: vs => setAll (σ.set i (some v)) is vs
  | _, _ => σ
theorem OutL.put {i : Nat} {o : O} {v : V} (pu : Put σ F H ρ i o v F2 ρ2) : ∀ {os : List O} {vs : List V}, (isNew o = true → ∀ a, v = .ref a → Apart a os vs) → (∀ k ∈ walked os, k ≠ i) → OutL Z H0 F H σ ρ os vs → OutL Z H0 F2 H (σ.set i (some v)) ρ2 os vs
  | [], _, _, _, h => h
  | o' :: os, _, ap, nb, h => by
    obtain ⟨w, r, rfl, h1, f, a, t⟩ := h
    refine ⟨w, r, rfl, Out.put pu h1 (fun n a e n' => (ap n a e).1 n') (fun k ek => nb k (by rw [ek]; exact List.mem_cons_self)), f, a, OutL.put pu (fun n a e => (ap n a e).2) (fun k hk => nb k ?_) t⟩
    cases o' <;> first | exact hk | exact List.mem_cons_of_mem _ hk
theorem assigns_ok : ∀ {is : List Nat} {os : List O} {vs : List V} {σ : L2.St} {F : Fz} {ρ ρ2 : Ev}, Path Z σ0 F0 H0 ρ0 σ F H ρ → OutL Z H0 F H σ ρ os vs → (∀ k ∈ walked os, k ∉ is) → assigns ρ is os = some ρ2 →
    ∃ F2, Path Z σ0 F0 H0 ρ0 (setAll σ is vs) F2 H ρ2
  | [], os, vs, σ, F, ρ, ρ2, p, h, nb, e => by
    cases os with
    | nil =>
      simp only [assigns, Option.some.injEq] at e
      subst e
      have e2 : vs = [] := h
      subst e2
      exact ⟨F, p⟩
    | cons o os => simp [assigns] at e
  | i :: is, os, vs, σ, F, ρ, ρ2, p, h, nb, e => by
    cases os with
    | nil => simp [assigns] at e
    | cons o os =>
      simp only [assigns] at e
      obtain ⟨ρ1, e1, e2⟩ := Option.bind_eq_some_iff.mp e
      obtain ⟨v, r, rfl, h1, f, ap, t⟩ := h
      obtain ⟨F2, p2, pu⟩ := assign_ok p h1 f e1
      have nb2 : ∀ k ∈ walked os, k ∈ walked (o :: os) := fun k hk => by
        cases o <;> first | exact hk | exact List.mem_cons_of_mem _ hk
      show ∃ F2, Path Z σ0 F0 H0 ρ0 (setAll (σ.set i (some v)) is r) F2 H ρ2
      exact assigns_ok p2 (OutL.put pu ap (fun k hk z => nb k (nb2 k hk) (by rw [z]; exact List.mem_cons_self)) t) (fun k hk z => nb k (nb2 k hk) (List.mem_cons_of_mem _ z)) e2
theorem agr_all : ∀ {is : List Nat} {vs : List V} {σ : L2.St}, Agr is σ (setAll σ is vs)
  | [], vs, σ => by
    unfold setAll
    exact .refl
  | i :: is, [], σ => by
    unfold setAll
    exact .refl
  | i :: is, v :: vs, σ => by
    unfold setAll
    exact (agr_set (A := i :: is) List.mem_cons_self).trans (agr_all.mono fun j hj => List.mem_cons_of_mem _ hj)
theorem nxt_some {o : Option Ev} (h : PostS Z E A σ F H ρ (nxt o) D) : ∃ ρ2, o = some ρ2 ∧ PostS Z E A σ F H ρ (.ok .nx ρ2) D := by
  cases o with
  | none => exact h.elim
  | some ρ2 => exact ⟨ρ2, rfl, h⟩
theorem setImp {e : Expr} {i : Nat} {f : Ev → R O} (hi : i ∈ A) : ∀ D σ H, LS Z E A (fun ρ => (f ρ).bind fun o ρ1 => nxt (assign ρ1 i o)) D σ H → tAsg (LE Z E f) (gName i) D σ H := fun D σ H ⟨F, ρ, s, p⟩ => partS s p fun o ρ1 v F1 H1 _ p1 r post => by
  obtain ⟨ρ2, e2, post⟩ := nxt_some post
  obtain ⟨F2, p2, _⟩ := assign_ok p1 r.1 r.2 e2
  exact post _ F2 H1 p2 (agr_set hi)
theorem snd_set {e : Expr} {i : Nat} {x : Str} {f : Ev → R O} {pos pos' : Pos} (hN : X.N.Nodup) (hi : X.N[i]? = some x) (hx : Loc X.env.scope x) (hf : X.fn x = true ∨ X.env.scope.names.lookup x = some .local) (he : PE X e (LE Z E f)) (hs : swapsWith e (some (.Name x pos')) pos.line X.env = pure false) :
    PS X (.Assign [.Name x pos'] e pos) (LS Z E [i] fun ρ => (f ρ).bind fun o ρ1 => nxt (assign ρ1 i o)) := psImp (ps_set hN hi hx he hs hf) (setImp (e := e) (List.mem_singleton.mpr rfl))
/-- a, (b, c) = a tuple of data -/
theorem snd_setT {tg e : Expr} {ts : List Tg} {f : Ev → R O} {pos : Pos} (he : PE X e (LE Z E f)) (hg : PG X tg (LGt Z (.tp ts))) (hs : swapsWithSole [tg] e pos.line X.env = pure false) (hw : swappedStores [tg] e X.env = pure none) (h1 : (assignEach [tg] X.env).map (·.2) = [PySem.assign tg X.env]) :
    PS X (.Assign [tg] e pos) (LS Z E (slotss ts) fun ρ => (f ρ).bind fun o ρ1 => match o with
      | .d x => nxt (bindT (.tp ts) x ρ1)
      | _ => .stuck) := by
  refine psImp (ps_asg he hg hs hw h1) fun D σ H ⟨F, ρ, s, p⟩ => partS s p fun o ρ1 v F1 H1 _ p1 r post => ?_
  cases o with
  | d x =>
    obtain ⟨ρ2, e2, post⟩ := nxt_some post
    exact ⟨F1, ρ1, x, ρ2, p1.st, r.1, e2, fun σ' p2 k l => post σ' F1 H1 (p1.trans p2) ⟨l, fun i hi => k i hi⟩⟩
  | _ => exact post.elim
/-! ### a, b = x, y -/
def parF (is : List Nat) (g : Ev → R (List O)) (ρ : Ev) : R Fl := (g ρ).bind fun os ρ1 => R.grd ((walked os).all fun k => !is.contains k) (nxt (assigns ρ1 is os))
theorem parImp {es : List Expr} {is : List Nat} {g : Ev → R (List O)} (s : Sta Z F H σ ρ) (p : PostS Z E is σ F H ρ (parF is g ρ) D) : LA Z E g σ H fun vs H1 => D.nx (setAll σ is vs) H1 ∧ ∀ H2, Same H1 H2 → D.nx (setAll σ is vs) H2 := by
  refine partS s p fun os ρ1 vs F1 H1 _ p1 r post => ?_
  by_cases hg : ((walked os).all fun k => !is.contains k) = true
  · rw [hg, R.grd_true] at post
    obtain ⟨ρ2, e2, post⟩ := nxt_some post
    obtain ⟨F2, p2⟩ := assigns_ok p1 r (fun k hk => by simpa using List.all_eq_true.mp hg k hk) e2
    exact ⟨post _ F2 H1 p2 agr_all, fun H2 sm => post _ F2 H2 (p2.same sm) agr_all⟩
  · have hf : ((walked os).all fun k => !is.contains k) = false := by simpa using hg
    rw [hf, R.grd_false] at post
    exact post.elim
theorem snd_par2 {i j : Nat} {x y : Str} {a b : Expr} {g : Ev → R (List O)} {px py pt pos : Pos} {kt k2 pt2} (hl : ∀ ρ os ρ1, g ρ = .ok os ρ1 → os.length = 2) (hc : X.calm = true) (hN : X.N.Nodup) (hi : X.N[i]? = some x) (hj : X.N[j]? = some y) (hij : i ≠ j)
    (hx : X.env.scope.names.lookup x = some .local) (hy : X.env.scope.names.lookup y = some .local) (ha : PA X [a, b] (LA Z E g))
    (hw : swappedStores [.Tuple [.Name x px, .Name y py] kt pt] (.Tuple [a, b] k2 pt2) X.env = pure (some [x, y])) :
    PS X (.Assign [.Tuple [.Name x px, .Name y py] kt pt] (.Tuple [a, b] k2 pt2) pos) (LS Z E [i, j] (parF [i, j] g)) := by
  refine psImp (ps_par hc hN hi hj hij hx hy ha hw) fun D σ H ⟨F, ρ, s, p⟩ => ?_
  have q := parImp (es := [a, b]) s p
  obtain ⟨F0, H0, ρ0, F1, ρ1, p1, q⟩ := q
  refine ⟨F0, H0, ρ0, F1, ρ1, p1, ?_⟩
  cases e : g ρ1 with
  | stuck => rw [e] at q; exact q
  | exc c ρ2 => rw [e] at q; exact q
  | ok os ρ2 =>
    rw [e] at q
    intro vs F' H' p' r
    have h2 := hl _ _ _ e
    rw [OutL.len r] at h2
    match vs, h2 with
    | [v, w], _ => exact ⟨v, w, rfl, (q [v, w] F' H' p' r).1⟩
theorem snd_par3 {i j l : Nat} {x y z : Str} {a b c : Expr} {g : Ev → R (List O)} {px py pz pt pos : Pos} {kt k2 pt2} (hln : ∀ ρ os ρ1, g ρ = .ok os ρ1 → os.length = 3) (hc : X.calm = true) (hN : X.N.Nodup) (hi : X.N[i]? = some x) (hj : X.N[j]? = some y) (hl : X.N[l]? = some z) (hij : i ≠ j) (hil : i ≠ l) (hjl : j ≠ l)
    (hx : X.env.scope.names.lookup x = some .local) (hy : X.env.scope.names.lookup y = some .local) (hz : X.env.scope.names.lookup z = some .local) (ha : PA X [a, b, c] (LA Z E g))
    (hw : swappedStores [.Tuple [.Name x px, .Name y py, .Name z pz] kt pt] (.Tuple [a, b, c] k2 pt2) X.env = pure (some [x, y, z])) :
    PS X (.Assign [.Tuple [.Name x px, .Name y py, .Name z pz] kt pt] (.Tuple [a, b, c] k2 pt2) pos) (LS Z E [i, j, l] (parF [i, j, l] g)) := by
  refine psImp (ps_par3 hc hN hi hj hl hij hil hjl hx hy hz ha hw) fun D σ H ⟨F, ρ, s, p⟩ => ?_
  have q := parImp (es := [a, b, c]) s p
  obtain ⟨F0, H0, ρ0, F1, ρ1, p1, q⟩ := q
  refine ⟨F0, H0, ρ0, F1, ρ1, p1, ?_⟩
  cases e : g ρ1 with
  | stuck => rw [e] at q; exact q
  | exc c ρ2 => rw [e] at q; exact q
  | ok os ρ2 =>
    rw [e] at q
    intro vs F' H' p' r
    have h2 := hln _ _ _ e
    rw [OutL.len r] at h2
    match vs, h2 with
    | [u, v, w], _ => exact ⟨u, v, w, rfl, (q [u, v, w] F' H' p' r).1⟩
/-- several plain names, one after the other -/
def gAll (is : List Nat) : TGs := fun vs σ H Q => vs.length = is.length ∧ Q (setAll σ is vs) H
theorem gall_nil : PGs X [] (gAll []) := pgsImp pgs_nil fun v σ H Q ⟨hl, q⟩ => by
  obtain rfl : v = [] := List.length_eq_zero_iff.mp hl
  exact ⟨rfl, q⟩
theorem gall_cons {e : Expr} {es : List Expr} {i : Nat} {is : List Nat} (h : PG X e (gName i)) (h2 : PGs X es (gAll is)) (hs : (assignEach (e :: es) X.env).map (·.2) = PySem.assign e X.env :: (assignEach es X.env).map (·.2)) : PGs X (e :: es) (gAll (i :: is)) :=
  pgsImp (pgs_cons h h2 hs) fun v σ H Q ⟨hl, q⟩ => by
    cases v with
    | nil => simp at hl
    | cons v vs => exact ⟨v, vs, rfl, by simpa using hl, q⟩
theorem snd_parG {ts es : List Expr} {is : List Nat} {g : Ev → R (List O)} {kt k2 : Nat} {pt pt2 pos : Pos} (hK : X.K = Z.K) (hln : ∀ ρ os ρ1, g ρ = .ok os ρ1 → os.length = is.length) (hz : is.length ≤ 1000) (hc : X.calm = true) (hg : PGs X ts (gAll is)) (hn : (assignEach ts X.env).length = is.length) (hst : (assignEach ts X.env).findIdx? (·.1) = none)
    (ha : PA X es (LA Z E g)) (hs : swapsWithSole [.Tuple ts kt pt] (.Tuple es k2 pt2) pos.line X.env = pure false) (hw : swappedStores [.Tuple ts kt pt] (.Tuple es k2 pt2) X.env = pure none) (h1 : (assignEach [.Tuple ts kt pt] X.env).map (·.2) = [PySem.assign (.Tuple ts kt pt) X.env]) :
    PS X (.Assign [.Tuple ts kt pt] (.Tuple es k2 pt2) pos) (LS Z E is (parF is g)) := by
  refine psImp (ps_asg (pe_tup ha) (pg_tup hc hg hn hst) hs hw h1) fun D σ H ⟨F, ρ, s, p⟩ => ?_
  have q := parImp (es := es) s p
  obtain ⟨F0, H0, ρ0, F1, ρ1, p1, q⟩ := q
  refine ⟨F0, H0, ρ0, F1, ρ1, p1, ?_⟩
  cases e : g ρ1 with
  | stuck => rw [e] at q; exact q
  | exc c ρ2 => rw [e] at q; exact q
  | ok os ρ2 =>
    rw [e] at q
    intro vs F' H' p' r
    have h2 := hln _ _ _ e
    rw [OutL.len r] at h2
    refine ⟨by rw [sizeLine_eq]; omega, fun a hn => ⟨a, vs, rfl, SqT.of upd_same, h2, h2, ?_⟩⟩
    refine (q vs F' H' p' r).2 _ fun b o eb => ?_
    rw [upd_ne (fun z => by rw [z, hn] at eb; cases eb)]
    exact eb
/-! ### loops -/
theorem snd_for {iter tg : Expr} {body : List Stmt} {t : Tg} {gi : Ev → R (List Ev.D × List Nat)} {fb : Ev → R Fl} {pos : Pos} (hp : PassesOwn (model X.prog X.w) X.A X.env X.xe) (hc : X.calm = true) (hi : PI X tg iter (LI Z E gi)) (hg : PG X tg (LGt Z t)) (hb : PSs X body (LS Z E B fb)) (hA : A = slots t ++ B) (hs : ∀ x, foldedSetIterable iter X.env x = pure x) :
    PS X (.For tg iter body [] pos) (LS Z E A fun ρ => (gi ρ).bind fun p ρ1 => R.grd (p.2.all fun i => !A.contains i) (forL p.2 ρ1 t fb p.1 ρ1)) := by
  subst hA
  have hb := PSs.more (B := slots t ++ B) hb fun i h => List.mem_append_right _ h
  refine psImp (ps_for hp hc hi hg hb hs) fun D σ H ⟨F, ρ, s, p⟩ => ?_
  refine partS s p fun xw ρ1 J F1 H1 _ p1 r post => ?_
  obtain ⟨xs, ws⟩ := xw
  obtain ⟨St, iw, hst⟩ := r
  simp only at iw hst post
  by_cases hwa : (ws.all fun i => !(slots t ++ B).contains i) = true
  · rw [hwa, R.grd_true] at post
    have nw : ∀ i ∈ ws, i ∉ slots t ++ B := fun i hi => by simpa using List.all_eq_true.mp hwa i hi
    refine ⟨fun i m σ' H' => m = xs.length - i ∧ i ≤ xs.length ∧ ∃ F' ρ', Path Z σ F1 H1 ρ1 σ' F' H' ρ' ∧ Agr (slots t ++ B) σ σ' ∧ PostS Z E (slots t ++ B) σ' F' H' ρ' (forL ws ρ1 t fb (xs.drop i) ρ') D,
      ⟨xs.length, by omega, Nat.zero_le _, F1, ρ1, .refl p1.st, .refl, by rw [List.drop_zero]; exact post.step p1 .refl⟩, ?_⟩
    rintro i m σ' H' ⟨rfl, hi, F', ρ', p', a', q⟩
    have std : stands ρ1 ρ' ws = true → St F' H' := fun h => hst _ _ _ _ (p'.later p1.st) (fun j hj => a'.out j (nw j hj)) h
    rcases Nat.lt_or_ge i xs.length with hlt | hge
    · have ed : xs.drop i = xs[i] :: xs.drop (i + 1) := List.drop_eq_getElem_cons hlt
      rw [ed] at q
      simp only [forL] at q
      cases hsd : stands ρ1 ρ' ws with
      | false => simp only [hsd, Bool.false_eq_true, if_false] at q; exact q.elim
      | true =>
        simp only [hsd, if_true] at q
        refine .inr ⟨iw.go i F' H' (std hsd) hlt, fun σ2 H2 => ∃ F2 ρ2, Path Z σ F1 H1 ρ1 σ2 F2 H2 ρ2 ∧ Agr (slots t ++ B) σ σ2 ∧ PostS Z E (slots t ++ B) σ2 F2 H2 ρ2 (forL ws ρ1 t fb (xs.drop (i + 1)) ρ2) D,
          fun σ2 H2 nx => ⟨xs.length - (i + 1), by omega, rfl, hlt, nx⟩, fun v Hy y => ?_⟩
        obtain ⟨sm, rx⟩ := iw.yld i xs[i] F' H' v Hy (std hsd) (List.getElem?_eq_getElem hlt) y
        have py := p'.same sm
        have q := q.step ((Path.refl p'.st).same sm) .refl
        cases eb : bindT t xs[i] ρ' with
        | none => rw [eb] at q; exact q.elim
        | some ρ2 =>
          rw [eb] at q
          simp only [R.opt_some] at q
          refine ⟨F', ρ', xs[i], ρ2, py.st, rx, eb, fun σ2 pb kb lb => ?_⟩
          have ab : Agr (slots t ++ B) σ' σ2 := ⟨lb, fun j hj => kb j fun z => hj (List.mem_append_left _ z)⟩
          have q := q.step pb ab
          refine ⟨F', ρ2, pb.st, ?_⟩
          cases ef : fb ρ2 with
          | stuck => rw [ef] at q; exact q.elim
          | exc c ρ3 => rw [ef] at q; exact q
          | ok fl ρ3 =>
            rw [ef] at q
            simp only [R.bind_ok] at q
            intro σ3 F3 H3 p3 a3
            cases fl with
            | nx => exact ⟨F3, ρ3, (py.trans pb).trans p3, (a'.trans ab).trans a3, q.step p3 a3⟩
            | cont => exact ⟨F3, ρ3, (py.trans pb).trans p3, (a'.trans ab).trans a3, q.step p3 a3⟩
            | brk => exact q σ3 F3 H3 p3 a3
            | ret o => exact q σ3 F3 H3 p3 a3
    · have ei : i = xs.length := by omega
      subst ei
      rw [List.drop_length] at q
      simp only [forL] at q
      cases hsd : stands ρ1 ρ' ws with
      | false => simp only [hsd, Bool.false_eq_true, if_false] at q; exact q.elim
      | true =>
        simp only [hsd, if_true] at q
        exact .inl ⟨iw.stop F' H' (std hsd), q σ' F' H' (.refl p'.st) .refl⟩
  · have hf : (ws.all fun i => !(slots t ++ B).contains i) = false := by simpa using hwa
    rw [hf, R.grd_false] at post
    exact post.elim
theorem snd_while {c : Expr} {body : List Stmt} {fc : Ev → R Bool} {fb : Ev → R Fl} {pos : Pos} {fuel : Nat} (hp : PassesOwn (model X.prog X.w) X.A X.env X.xe) (hc : PT X c (LT Z E fc)) (hb : PSs X body (LS Z E A fb)) :
    PS X (.While c body [] pos) (LS Z E A fun ρ => whileL fc fb fuel ρ) := by
  refine psImp (ps_while hp hc hb) fun D σ H ⟨F, ρ, s, p⟩ => ?_
  refine ⟨fun m σ' H' => ∃ F' ρ', Path Z σ F H ρ σ' F' H' ρ' ∧ Agr A σ σ' ∧ PostS Z E A σ' F' H' ρ' (whileL fc fb m ρ') D, ⟨fuel, F, ρ, .refl s, .refl, p⟩, ?_⟩
  rintro m σ' H' ⟨F', ρ', p', a', q⟩
  cases m with
  | zero => exact q.elim
  | succ m =>
    simp only [whileL, ifB] at q
    refine partS p'.st q fun b ρ2 b' F2 H2 _ p2 r q => ?_
    obtain rfl : b' = b := r
    cases b' with
    | true =>
      simp only [if_true] at q ⊢
      refine ⟨fun σ3 H3 => ∃ F3 ρ3, Path Z σ F H ρ σ3 F3 H3 ρ3 ∧ Agr A σ σ3 ∧ PostS Z E A σ3 F3 H3 ρ3 (whileL fc fb m ρ3) D, fun σ3 H3 nx => ⟨m, by omega, nx⟩, F2, ρ2, p2.st, ?_⟩
      have q := q.step p2 .refl
      cases ef : fb ρ2 with
      | stuck => rw [ef] at q; exact q.elim
      | exc c ρ3 => rw [ef] at q; exact q
      | ok fl ρ3 =>
        rw [ef] at q
        simp only [R.bind_ok] at q
        intro σ3 F3 H3 p3 a3
        cases fl with
        | nx => exact ⟨F3, ρ3, (p'.trans p2).trans p3, a'.trans a3, q.step p3 a3⟩
        | cont => exact ⟨F3, ρ3, (p'.trans p2).trans p3, a'.trans a3, q.step p3 a3⟩
        | brk => exact q σ3 F3 H3 p3 a3
        | ret o => exact q σ3 F3 H3 p3 a3
    | false =>
      simp only [Bool.false_eq_true, if_false] at q ⊢
      exact q σ' F2 H2 p2 .refl
end
end Ev
/-! Ev11: x[k] = v, name op= e, raise; the context of a comprehension's block. -/
namespace Ev
open PySem PySem.Spec PyProof.Rows L2
section
variable {n : Nat} {E : XK} {X : Cx} {Z : Wo} {σ : L2.St} {F F0 : Fz} {H H0 : Hp} {ρ ρ0 ρ2 : Ev} {A : List Nat} {D : Ends}
theorem place_ixN {n : Nat} {i : Int} : place n i = ixN n i := by
  unfold place ixN
  by_cases h : 0 ≤ i
  · simp only [if_pos h]
  · simp only [if_neg h]
    congr 2
    rw [Int.add_comm]
def setIxF (i : Nat) (fe fk : Ev → R O) (ρ : Ev) : R Fl := (fe ρ).bind fun o ρ1 => R.opt (keep ρ1 o) fun p => R.grd (isL p.2 i) ((fk p.2).bind fun y ρ2 => nxt (setAt ρ2 i y p.1))
theorem snd_setIx {i : Nat} {x : Str} {ke e : Expr} {fe fk : Ev → R O} {px p2 pos : Pos} (hv : PE X (.Name x px) (tVar i)) (he : PE X e (LE Z E fe)) (hk : PE X ke (LE Z E fk)) (hsl : isSlice ke = false) (hs : swapsWithSole [.Subscript (.Name x px) ke p2] e pos.line X.env = pure false) :
    PS X (.Assign [.Subscript (.Name x px) ke p2] e pos) (LS Z E A (setIxF i fe fk)) := by
  have ha : ∀ v, PySem.assign (.Subscript (.Name x px) ke p2) X.env v = (do
      let ov ← holding [v] (eval (.Name x px) X.env)
      let iv ← holding [v, ov] (eval ke X.env)
      standAt p2
      holding [v, ov, iv] (setItem ov iv v)
      release [v, ov, iv] []) := fun v => by
    cases ke <;> first | rfl | (cases hsl)
  refine psImp (ps_asg he (pg_sub hv hk set_list ha) hs (by rfl) (by rfl)) fun D σ H ⟨F, ρ, s, p⟩ => ?_
  refine partS s p fun o ρ1 v F1 H1 _ p1 r post => ?_
  cases ek : keep ρ1 o with
  | none => simp only [ek] at post; exact post.elim
  | some q =>
    obtain ⟨d, ρ2⟩ := q
    simp only [ek, R.opt_some] at post
    obtain ⟨F2, p2, rd, _⟩ := keep_ok p1 r.1 r.2 ek
    by_cases hi : isL ρ2 i = true
    · rw [hi, R.grd_true] at post
      have hq : ∃ q xs, ρ2[i]? = some (some (W.L q xs)) := by
        unfold isL at hi
        split at hi
        · rename_i q xs e
          exact ⟨q, xs, e⟩
        · cases hi
      obtain ⟨q0, xs0, e0⟩ := hq
      obtain ⟨a, vs0, ea, _⟩ := p2.st.ownL e0
      refine ⟨.ref a, ea, partS p2.st (post.step p2 .refl) fun y ρ3 w F3 H3 _ p3 r3 post3 => ?_⟩
      obtain ⟨ρ4, e4, post3⟩ := nxt_some post3
      unfold setAt at e4
      generalize hg : ρ3[i]? = gi at e4
      split at e4
      · rename_i q xs j _
        have e5 := hg
        obtain ⟨m, em, rfl⟩ := Option.map_eq_some_iff.mp e4
        obtain ⟨a', vs, es, eh, rx⟩ := p3.st.ownL e5
        rw [ea] at es
        cases (Option.some.inj (Option.some.inj es))
        have up := p2.st.up p3.sp
        rw [place_ixN, rx.len] at em
        have ew : w = .int j := Rp.inv_int (Out.dp r3.1)
        exact ⟨a, vs, j, m, rfl, ew, eh, em, post3 σ F3 _ (set_own p3 e5 ea (Rps.set (rd.up up) m rx)).1 .refl⟩
      · cases e4
    · have hf : isL ρ2 i = false := by simpa using hi
      rw [hf, R.grd_false] at post
      exact post.elim
/-! ### name op= e, of ints -/
def augF (op : Bop) (i : Nat) (fe : Ev → R O) (ρ : Ev) : R Fl := match ρ[i]? with
  | some (some (.d (.int a))) => (fe ρ).bind fun o ρ1 => R.opt (optInt o) fun b => R.opt (augI op a b) fun z => nxt (store ρ1 i (.d (.int z)))
  | _ => .stuck
theorem snd_aug {i : Nat} {x : Str} {e : Expr} {fe : Ev → R O} {op : Bop} {o : Operator} {pos pos' : Pos} {h : Int → Int → Int} (ho : PIp X o (ipI h)) (hop : ∀ a b z, augI op a b = some z → z = h a b) (hN : X.N.Nodup) (hi : X.N[i]? = some x) (hx : Loc X.env.scope x) (hf : X.fn x = true ∨ X.env.scope.names.lookup x = some .local) (he : PE X e (LE Z E fe)) :
    PS X (.AugAssign (.Name x pos') o e pos) (LS Z E [i] (augF op i fe)) := by
  refine psImp (ps_aug hN hi hx he ho hf) fun D σ H ⟨F, ρ, s, p⟩ => ?_
  unfold augF at p
  split at p
  · rename_i a ea
    obtain ⟨v, ev, rv⟩ := s.rep i _ ea
    have ev' : v = .int a := Rp.inv_int (show Rp Z F H (.int a) v from rv)
    refine ⟨v, ev, partS s p fun o ρ1 w F1 H1 _ p1 r post => ?_⟩
    unfold optInt at post
    split at post
    · rename_i b _
      simp only [R.opt_some] at post
      cases ez : augI op a b with
      | none => rw [ez] at post; exact post.elim
      | some z =>
        rw [ez] at post
        obtain ⟨ρ2, e2, post⟩ := nxt_some post
        unfold store at e2
        split at e2
        · cases e2
          refine ⟨a, b, ev', Rp.inv_int r.1.dp, ?_⟩
          rw [← hop a b z ez]
          exact post _ F1 H1 (p1.trans (put_d p1.st (by simp only [Rp]))) (agr_set (List.mem_singleton.mpr rfl))
        · cases e2
    · exact post.elim
  · exact p.elim
/-! ### raise -/
structure Exc (Y : Gw) (c : Nat) (x : Str) (C : Addr) : Prop where
  cls : Y.Z.cls c = .ref C
  base : ∃ B newId initId bmB, ExcBaseFacts B newId initId bmB ∧ PySem.W.excIn Y.Z.K C bmB newId = true
  mg : Y.mg x = some (.ref C)
  kp : PySem.W.keepIn Y.Z.K (.ref C) = true
  sub : PySem.W.subIn Y.Z.K (.ref C) (.type "BaseException") = some true
  ty : PySem.W.typeIn Y.Z.K (.ref C) = some (.type "type")
theorem snd_raise {Y : Gw} {c : Nat} {x m : Str} {C : Addr} {j : Nat} {p p2 pos pos' : Pos} (hK : X.K = Y.Z.K) (hmg : X.mg = Y.mg) (hc : X.calm = true) (tk : Takes X (fun cls d _ H => E cls d H)) (e : Exc Y c x C) (hg : Gl X x) (hd : (x == ("__debug__" : Str)) = false) :
    PS X (.Raise (some (.Call (.Name x p) [.Constant (.str m) j p2] [] pos)) none pos') (LS Y.Z E A fun ρ => .exc c ρ) := by
  obtain ⟨B, newId, initId, bmB, F, q⟩ := e.base
  refine psImp (ps_raise hc tk (pmk_own F (by rw [hK]; exact q) (by rw [hmg]; exact e.mg) (by rw [hK]; exact e.kp) (raises_own (by rw [hK]; exact e.sub) (by rw [hK]; exact e.ty)) hg hd)) fun D σ H ⟨F, ρ, s, p⟩ => ?_
  have z := p σ F H (.refl s)
  rw [e.cls] at z
  exact z
end
end Ev
/-! Ev12: a list comprehension of two clauses. -/
namespace Ev
open PySem PySem.Spec PyProof.Rows L2
section
variable {n : Nat} {E : XK} {X : Cx} {Z : Wo} {σ σ' σ0 σ1 σ2 : L2.St} {F F' F0 F1 F2 : Fz} {H H' H1 H0 H2 : Hp} {ρ ρ' ρ0 ρ1 ρ2 : Ev} {α β γ δ : Type}
/-- a path on which the list at D may be written, too -/
structure PD (Z : Wo) (D : Addr) (σ0 : L2.St) (F0 : Fz) (H0 : Hp) (ρ0 : Ev) (σ : L2.St) (F : Fz) (H : Hp) (ρ : Ev) : Prop where
  keep : ∀ b o, H0 b = some o → ¬ Own σ0 ρ0 b → b ≠ D → (∀ ps, o ≠ .tbl ps) → H b = some o
  there : ∀ b, ¬ NoO (H0 b) → ¬ NoO (H b)
  fin : ∀ b, F0 b → F b
  dn : ∃ vs, H0 D = some (.lst vs)
  dF : ¬ F0 D
  sub : ∀ b, Own σ ρ b → Own σ0 ρ0 b ∨ NoO (H0 b)
theorem PD.path {D : Addr} (a : PD Z D σ0 F0 H0 ρ0 σ F H ρ) (p : Path Z σ F H ρ σ' F' H' ρ') : PD Z D σ0 F0 H0 ρ0 σ' F' H' ρ' := by
  have own : ∀ b o, H0 b = some o → ¬ Own σ0 ρ0 b → (∀ ps, o ≠ .tbl ps) → ¬ Own σ ρ b := fun b o e n t z => by
    rcases a.sub b z with y | y
    · exact n y
    · rw [e] at y
      obtain ⟨ps, y⟩ := y.tbl
      exact t ps y
  refine ⟨fun b o e n d t => p.sp.keep b o (a.keep b o e n d t) (own b o e n t) t, fun b n => p.sp.there b (a.there b n), fun b f => p.sp.fin b (a.fin b f), a.dn, a.dF, fun b z => ?_⟩
  rcases p.sub b z with y | y
  · exact a.sub b y
  · exact .inr (.of_not fun q => a.there b q y)
theorem PD.kept {D : Addr} (a : PD Z D σ0 F0 H0 ρ0 σ F H ρ) (hf : ∀ b, F b → F2 b) (ho : ∀ b, Own σ ρ2 b → Own σ ρ b) : PD Z D σ0 F0 H0 ρ0 σ F2 H ρ2 := ⟨a.keep, a.there, fun b f => hf b (a.fin b f), a.dn, a.dF, fun b z => a.sub b (ho b z)⟩
theorem PD.grow {D : Addr} {ws : List V} (a : PD Z D σ0 F0 H0 ρ0 σ F H ρ) : PD Z D σ0 F0 H0 ρ0 σ F (upd H D (.lst ws)) ρ := by
  refine ⟨fun b o e n d t => ?_, fun b n => ?_, a.fin, a.dn, a.dF, a.sub⟩
  · rw [upd_ne d]
    exact a.keep b o e n d t
  · by_cases z : b = D
    · rw [z, upd_same]; exact id
    · rw [upd_ne z]; exact a.there b n
theorem PD.later {D : Addr} (a : PD Z D σ1 F1 H1 ρ1 σ F H ρ) (s1 : Sta Z F1 H1 σ1 ρ1) (s : Sta Z F H σ ρ) (h0 : ¬ NoO (H0 D)) : Later Z H0 σ1 F1 H1 ρ1 σ F H ρ := by
  obtain ⟨vd, ed⟩ := a.dn
  have nD : ∀ b o, H1 b = some o → (∀ vs, o ≠ .lst vs) → b ≠ D := fun b o e n z => by
    rw [z, ed] at e
    cases e
    exact n vd rfl
  have nO : ∀ b o, H1 b = some o → (∀ vs, o ≠ .lst vs) → (∀ ps, o ≠ .dK ps) → (∀ ps, o ≠ .dT ps) → ¬ Own σ1 ρ1 b := fun b o e n1 n2 n3 z => by
    rcases (s1.kind z).1 with ⟨_, q⟩ | ⟨_, q⟩ | ⟨_, q⟩
    · rw [e] at q; cases q; exact n1 _ rfl
    · rw [e] at q; cases q; exact n2 _ rfl
    · rw [e] at q; cases q; exact n3 _ rfl
  refine ⟨s, ⟨fun b vs e => ?_, fun b o u e => ?_, a.fin, fun b vs f e => ?_⟩, fun b o e0 e n t => a.keep b o e n (fun z => h0 (by rw [← z]; exact e0)) t⟩
  · exact a.keep b _ e (nO b _ e (fun _ z => by cases z) (fun _ z => by cases z) fun _ z => by cases z) (nD b _ e fun _ z => by cases z) fun _ z => by cases z
  · exact a.keep b _ e (nO b _ e (fun _ z => by cases z) (fun _ z => by cases z) fun _ z => by cases z) (nD b _ e fun _ z => by cases z) fun _ z => by cases z
  · exact a.keep b _ e (fun z => (s1.kind z).2 f) (fun z => a.dF (by rw [← z]; exact f)) fun _ z => by cases z
theorem snd_comp2 {elt tg iter tg1 iter1 : Expr} {ifs1 : List Expr} {scope : Scope} {own : List (Str × Nat)} {ow : List Nat} {pos : Pos} {gi g2 : Ev → R (List D × List Nat)} {t t2 : Tg} {ft : Ev → R Bool} {fe : Ev → R O} (hc : X.calm = true) (hN : X.N.Nodup) (hi : PI X tg iter (LI Z E gi)) (ok : BlkOk X.N X.env.scope scope own)
    (hw : own.map (·.2) = ow) (hts : ∀ i ∈ slots t, i ∈ ow) (hts2 : ∀ i ∈ slots t2, i ∈ ow)
    (hg : ∀ (s : Shared) (H : Hp) (C : Addr) (cl : List (Str × Addr)) (fp : List Addr), PG (X.blk s H scope (compEnvC scope cl C X.env) fp) tg (LGt Z t))
    (hi1 : ∀ (s : Shared) (H : Hp) (C : Addr) (cl : List (Str × Addr)) (fp : List Addr), PI (X.blk s H scope (compEnvC scope cl C X.env) fp) tg1 iter1 (LI Z E0 g2))
    (hg1 : ∀ (s : Shared) (H : Hp) (C : Addr) (cl : List (Str × Addr)) (fp : List Addr), PG (X.blk s H scope (compEnvC scope cl C X.env) fp) tg1 (LGt Z t2))
    (ht1 : ∀ (s : Shared) (H : Hp) (C : Addr) (cl : List (Str × Addr)) (fp : List Addr), PTs (X.blk s H scope (compEnvC scope cl C X.env) fp) ifs1 (LT Z E0 ft))
    (he : ∀ (s : Shared) (H : Hp) (C : Addr) (cl : List (Str × Addr)) (fp : List Addr), PE (X.blk s H scope (compEnvC scope cl C X.env) fp) elt (LE Z E0 fe)) (hs : ∀ x, foldedSetIterable iter X.env x = pure x) (hs1 : ∀ env x, foldedSetIterable iter1 env x = pure x) :
    PE X (.ListComp elt [⟨tg, iter, [], 0⟩, ⟨tg1, iter1, ifs1, 0⟩] scope pos) (LE Z E fun ρ => (gi ρ).bind fun p ρ1 => compEnd ow ρ1 p.2 (walkL (compTurn2 ow ρ1 p.2 t g2 (slots t2) fun ρ3 ws2 => compTurn (slots t2) ρ3 ws2 t2 ft fe) p.1 [] (wipe ρ1 ow))) := by
  subst hw
  refine peImp (pe_lc2 (vs1 := slots t2) hc hN hi ok hts2 hg (fun _ _ _ _ _ => pts_nil) hi1 hg1 ht1 he hs hs1) fun σ H Q q => lcImp2 hts hts2 q
where
  lcImp2 {σ : L2.St} {H : Hp} {Q : VK} {gi g2 : Ev → R (List D × List Nat)} {ow : List Nat} {t t2 : Tg} {ft : Ev → R Bool} {fe : Ev → R O} (hts : ∀ i ∈ slots t, i ∈ ow) (hts2 : ∀ i ∈ slots t2, i ∈ ow)
      (q : LE Z E (fun ρ => (gi ρ).bind fun p ρ1 => compEnd ow ρ1 p.2 (walkL (compTurn2 ow ρ1 p.2 t g2 (slots t2) fun ρ3 ws2 => compTurn (slots t2) ρ3 ws2 t2 ft fe) p.1 [] (wipe ρ1 ow))) σ H Q) :
      tLc2 (LI Z E gi) (LGt Z t) tYes (LI Z E0 g2) (LGt Z t2) (LT Z E0 ft) (LE Z E0 fe) ow (slots t2) σ H Q := by
    obtain ⟨F0, H0, ρ0, F, ρ, p, post⟩ := q
    refine run p post fun xw ρ1 J F1 H1 p1 p01 r post => ?_
    obtain ⟨xs, ws⟩ := xw
    obtain ⟨St, iw, hst⟩ := r
    intro D hD
    unfold compEnd at post
    generalize hturn : (compTurn2 ow ρ1 ws t g2 (slots t2) fun ρ3 ws2 => compTurn (slots t2) ρ3 ws2 t2 ft fe) = turn at post
    cases e : walkL turn xs [] (wipe ρ1 ow) with
    | stuck => simp only [e, R.bind_stuck, R.calm] at post; exact post.elim
    | exc c ρ5 => simp only [e, R.bind_exc, R.calm] at post; exact post.elim
    | ok accf ρ5 =>
      simp only [e, R.bind_ok] at post
      by_cases hs5 : stands ρ1 ρ5 ws = true
      · rw [if_pos hs5] at post
        have w0 := wipe_path ow p01.st
        have n1 : ¬ F1 D := fun f => p01.st.ft D f (.none hD)
        have c0 : CI Z (L2.wipe σ ow) F1 H1 (wipe ρ1 ow) D (L2.wipe σ ow) F1 (upd H1 D (.lst [])) (wipe ρ1 ow) [] := by
          have sm : Same H1 (upd H1 D (.lst [])) := fun b o e => by
            rw [upd_ne (fun z => by rw [z, hD] at e; cases e)]; exact e
          refine ⟨(Path.refl w0.st).same sm, ⟨[], upd_same, .nil⟩, n1, fun z => ?_⟩
          rcases (w0.st.kind z).1 with ⟨_, y⟩ | ⟨_, y⟩ | ⟨_, y⟩ <;> · rw [hD] at y; cases y
        refine ⟨fun i m H => m = xs.length - i ∧ i ≤ xs.length ∧ ∃ F ρ acc, CI Z (L2.wipe σ ow) F1 H1 (wipe ρ1 ow) D (L2.wipe σ ow) F H ρ acc ∧ walkL turn (xs.drop i) acc ρ = .ok accf ρ5,
          ⟨xs.length, by omega, Nat.zero_le _, F1, wipe ρ1 ow, [], c0, by rw [List.drop_zero]; exact e⟩, ?_⟩
        rintro i m H ⟨rfl, hi, F, ρ, acc, c, ew⟩
        have std : stands ρ1 ρ ws = true → St F H := fun h => by
          refine hst _ _ _ _ ((w0.trans c.path).later p01.st) (fun j hj => ?_) h
          obtain ⟨p', q', ys, e1, e2⟩ := stands_get h hj
          obtain ⟨v, ev, _⟩ := c.path.st.rep j _ e2
          obtain ⟨h1, h2⟩ := wipe_some ev
          rw [ev, h1]
        rcases Nat.lt_or_ge i xs.length with hlt | hge
        · have ed : xs.drop i = xs[i] :: xs.drop (i + 1) := List.drop_eq_getElem_cons hlt
          rw [ed] at ew
          simp only [walkL] at ew
          have hsd : stands ρ1 ρ ws = true := by
            cases b : stands ρ1 ρ ws with
            | true => rfl
            | false => rw [← hturn] at ew; simp [compTurn2, b] at ew
          have et : turn xs[i] acc ρ = R.opt (bindT t xs[i] ρ) fun ρ2 => (g2 ρ2).bind fun p ρ3 => (walkL (compTurn (slots t2) ρ3 p.2 t2 ft fe) p.1 acc (wipe ρ3 (slots t2))).bind fun acc' ρ6 =>
              if stands ρ3 ρ6 p.2 = true then .ok acc' (wipe ρ6 ow) else .stuck := by
            rw [← hturn]
            simp only [compTurn2, hsd, if_true]
          rw [et] at ew
          refine .inr ⟨iw.go i F H (std hsd) hlt, fun H => ∃ F ρ acc, CI Z (L2.wipe σ ow) F1 H1 (wipe ρ1 ow) D (L2.wipe σ ow) F H ρ acc ∧ walkL turn (xs.drop (i + 1)) acc ρ = .ok accf ρ5,
            fun H' nx => ⟨xs.length - (i + 1), by omega, rfl, hlt, nx⟩, fun v H' y => ?_⟩
          obtain ⟨sm, rx⟩ := iw.yld i xs[i] F H v H' (std hsd) (List.getElem?_eq_getElem hlt) y
          have c1 := c.step ((Path.refl c.path.st).same sm)
          cases eb : bindT t xs[i] ρ with
          | none => rw [eb] at ew; simp at ew
          | some ρ2 =>
            rw [eb] at ew
            simp only [R.opt_some] at ew
            refine ⟨F, ρ, xs[i], ρ2, c1.path.st, rx, eb, fun σ2 pb kb lb => ?_⟩
            have c2 := c1.step pb
            have hwp : L2.wipe σ2 ow = L2.wipe σ ow := wipe_same (fun j hj => kb j fun z => hj (hts j z)) lb
            refine ⟨hwp, ?_⟩
            unfold tYes
            simp only [if_true]
            refine here c2.path.st ?_
            cases eg : g2 ρ2 with
            | stuck => rw [eg] at ew; simp at ew
            | exc k ρ3 => rw [eg] at ew; simp at ew
            | ok pw ρ3 =>
              obtain ⟨ys, ws2⟩ := pw
              rw [eg] at ew
              simp only [R.bind_ok] at ew
              intro J1 F3 H3 p3 r3
              obtain ⟨St1, iw1, hst1⟩ := r3
              have c3 := c2.step p3
              obtain ⟨vd, eD3, _⟩ := c3.lst
              -- the inner loop's end
              cases ei : walkL (compTurn (slots t2) ρ3 ws2 t2 ft fe) ys acc (wipe ρ3 (slots t2)) with
              | stuck => rw [ei] at ew; simp at ew
              | exc k ρ4 => rw [ei] at ew; simp at ew
              | ok acc6 ρ6 =>
                rw [ei] at ew
                simp only [R.bind_ok] at ew
                by_cases hs6 : stands ρ3 ρ6 ws2 = true
                · rw [if_pos hs6] at ew
                  simp only [R.bind_ok] at ew
                  have w3 := wipe_path (slots t2) c3.path.st
                  have hD' : ¬ NoO (H' D) := by
                    obtain ⟨vs, q, _⟩ := c2.lst
                    rw [q]; exact id
                  refine ⟨fun j k H => k = ys.length - j ∧ j ≤ ys.length ∧ ∃ F ρ acc, CI Z (L2.wipe σ ow) F1 H1 (wipe ρ1 ow) D (L2.wipe σ2 (slots t2)) F H ρ acc ∧ PD Z D σ2 F3 H3 ρ3 (L2.wipe σ2 (slots t2)) F H ρ ∧ walkL (compTurn (slots t2) ρ3 ws2 t2 ft fe) (ys.drop j) acc ρ = .ok acc6 ρ6,
                    ⟨ys.length, by omega, Nat.zero_le _, F3, wipe ρ3 (slots t2), acc, c3.step w3, PD.path ⟨fun b o e _ _ _ => e, fun b n => n, fun b f => f, ⟨vd, eD3⟩, c3.nf, fun b z => .inl z⟩ w3, by rw [List.drop_zero]; exact ei⟩, ?_⟩
                  rintro j k H ⟨rfl, hj, F, ρ, acc, cj, pd, ewj⟩
                  have std1 : stands ρ3 ρ ws2 = true → St1 F H := fun h => by
                    refine hst1 _ _ _ _ (pd.later c3.path.st cj.path.st hD') (fun j hj => ?_) h
                    obtain ⟨p', q', zs, e1, e2⟩ := stands_get h hj
                    obtain ⟨v, ev, _⟩ := cj.path.st.rep j _ e2
                    obtain ⟨h1, h2⟩ := wipe_some ev
                    rw [ev, h1]
                  rcases Nat.lt_or_ge j ys.length with hltj | hgej
                  · have edj : ys.drop j = ys[j] :: ys.drop (j + 1) := List.drop_eq_getElem_cons hltj
                    rw [edj] at ewj
                    simp only [walkL] at ewj
                    have hsdj : stands ρ3 ρ ws2 = true := by
                      cases b : stands ρ3 ρ ws2 with
                      | true => rfl
                      | false => simp [compTurn, b] at ewj
                    simp only [compTurn, hsdj, if_true] at ewj
                    refine .inr ⟨iw1.go j F H (std1 hsdj) hltj, fun H => ∃ F ρ acc, CI Z (L2.wipe σ ow) F1 H1 (wipe ρ1 ow) D (L2.wipe σ2 (slots t2)) F H ρ acc ∧ PD Z D σ2 F3 H3 ρ3 (L2.wipe σ2 (slots t2)) F H ρ ∧ walkL (compTurn (slots t2) ρ3 ws2 t2 ft fe) (ys.drop (j + 1)) acc ρ = .ok acc6 ρ6,
                      fun H' nx => ⟨ys.length - (j + 1), by omega, rfl, hltj, nx⟩, fun v Hy y => ?_⟩
                    obtain ⟨smj, rxj⟩ := iw1.yld j ys[j] F H v Hy (std1 hsdj) (List.getElem?_eq_getElem hltj) y
                    have pj := (Path.refl cj.path.st).same smj
                    have d1 := cj.step pj
                    have q1 := pd.path pj
                    cases ebj : bindT t2 ys[j] ρ with
                    | none => rw [ebj] at ewj; simp at ewj
                    | some ρb =>
                      rw [ebj] at ewj
                      simp only [R.opt_some] at ewj
                      refine ⟨F, ρ, ys[j], ρb, d1.path.st, rxj, ebj, fun σ5 pb5 kb5 lb5 => ?_⟩
                      have d2 := d1.step pb5
                      have q2 := q1.path pb5
                      have hwp5 : L2.wipe σ5 (slots t2) = L2.wipe σ2 (slots t2) := wipe_same (fun j hj => kb5 j hj) lb5
                      refine ⟨by rw [hwp5], here d2.path.st ?_⟩
                      unfold ifB at ewj
                      cases et5 : ft ρb with
                      | stuck => rw [et5] at ewj; simp at ewj
                      | exc k ρ3 => rw [et5] at ewj; simp at ewj
                      | ok b ρt =>
                        rw [et5] at ewj
                        simp only [R.bind_ok] at ewj
                        intro b' Ft Ht pt eb'
                        have eb' : b' = b := eb'
                        subst eb'
                        have d3 := d2.step pt
                        have q3 := q2.path pt
                        cases b' with
                        | false =>
                          simp only [Bool.false_eq_true, if_false, R.bind_ok] at ewj ⊢
                          have wp := wipe_path (slots t2) d3.path.st
                          rw [hwp5] at wp
                          exact ⟨Ft, wipe ρt (slots t2), acc, d3.step wp, q3.path wp, ewj⟩
                        | true =>
                          simp only [if_true] at ewj ⊢
                          refine here d3.path.st ?_
                          cases ee : fe ρt with
                          | stuck => rw [ee] at ewj; simp at ewj
                          | exc k ρ4 => rw [ee] at ewj; simp at ewj
                          | ok o ρ4 =>
                            rw [ee] at ewj
                            simp only [R.bind_ok] at ewj
                            intro y4 F4 H4 p4 r4
                            have d4 := d3.step p4
                            have q4 := q3.path p4
                            cases ek : keep ρ4 o with
                            | none => rw [ek] at ewj; simp at ewj
                            | some kp =>
                              obtain ⟨x5, ρ5'⟩ := kp
                              rw [ek] at ewj
                              simp only [R.opt_some] at ewj
                              split at ewj
                              · rename_i hlen
                                simp only [R.bind_ok] at ewj
                                obtain ⟨F5, d5, rx5, kf, ko⟩ := d4.keep' r4.1 (fun hn z => by
                                  obtain ⟨vs, eD, _⟩ := d3.lst
                                  have q := r4.2 hn D z
                                  rw [eD] at q
                                  cases q) (r4.2.back d3.path) ek
                                obtain ⟨vs, eD, rvs⟩ := d5.lst
                                have wp := wipe_path (slots t2) d5.path.st
                                rw [hwp5] at wp
                                have d6 := d5.step wp
                                have q6 := (q4.kept kf ko).path wp
                                exact ⟨vs, eD, by rw [← rvs.len, sizeLine_eq]; exact hlen, F5, wipe ρ5' (slots t2), acc ++ [x5], d6.grow hD (rvs.append (.cons rx5 .nil)), q6.grow, ewj⟩
                              · simp at ewj
                  · have ej : j = ys.length := by omega
                    subst ej
                    rw [List.drop_length] at ewj
                    simp only [walkL, R.ok.injEq] at ewj
                    obtain ⟨rfl, rfl⟩ := ewj
                    refine .inl ⟨iw1.stop F H (std1 hs6), ?_⟩
                    have wp := wipe_path ow cj.path.st
                    have hww : L2.wipe (L2.wipe σ2 (slots t2)) ow = L2.wipe σ ow := by
                      rw [← hwp]
                      exact wipe_same (fun j hj => by rw [wipe_out fun z => hj (hts2 j z), wipe_out hj]) (by rw [wipe_length, wipe_length])
                    rw [hww] at wp
                    exact ⟨F, wipe ρ ow, acc, cj.step wp, ew⟩
                · rw [if_neg hs6] at ew
                  simp at ew
        · have ei : i = xs.length := by omega
          subst ei
          rw [List.drop_length] at ew
          simp only [walkL, R.ok.injEq] at ew
          obtain ⟨rfl, rfl⟩ := ew
          refine .inl ⟨iw.stop F H (std hs5), ?_⟩
          obtain ⟨vs, eD, rvs⟩ := c.lst
          obtain ⟨pb, ob⟩ := back_path ow p01.st c.path
          refine post (.ref D) F H (p01.trans pb) ⟨⟨D, vs, rfl, eD, rvs, c.nf, fun z => ?_⟩, fun _ a ea => ?_⟩
          · rcases ob D z with z | z
            · rcases (p01.st.kind z).1 with ⟨_, y⟩ | ⟨_, y⟩ | ⟨_, y⟩ <;> · rw [hD] at y; cases y
            · exact c.no z
          · cases ea
            exact .of_not fun y => p01.sp.there D y (.none hD)
      · rw [if_neg hs5] at post
        exact post.elim
end
end Ev
/-! Ev13: told(lambda: ..). -/
namespace Ev
open PySem PySem.Spec PyProof.Rows L2
section
variable {Z : Wo} {E : XK} {σ : L2.St} {F : Fz} {H H' : Hp} {ρ : Ev}
/-- the tables may grow -/
theorem ext_path (s : Sta Z F H σ ρ) (e : LamX.ExtN H H') (t : LamX.Tabs Z.TT H') : Path Z σ F H ρ σ F H' ρ := by
  have sp : Stp Z (Own σ ρ) F H F H' := ⟨fun b o h _ n => e b o h n, fun b n => by
    cases q : H b with
    | none => exact absurd (.none q) n
    | some o =>
      rw [q] at n
      rw [e b o q fun ps z => n (by rw [z]; trivial)]
      exact n, fun _ h => h, fun _ h => .inl h⟩
  have u := s.up sp
  refine ⟨⟨s.len, fun i w ei => ?_, s.inj, t, fun a f => sp.there a (s.ft a f)⟩, sp, fun _ h => .inl h, .refl⟩
  obtain ⟨v, ev, r⟩ := s.rep i w ei
  refine ⟨v, ev, r.up u fun a ea ho => ?_⟩
  subst ea
  have k := s.kind (own_of ei ho ev)
  refine ⟨fun o q => e a o q fun ps z => ?_, k.2⟩
  rcases k.1 with ⟨_, y⟩ | ⟨_, y⟩ | ⟨_, y⟩ <;> · rw [q] at y; cases y; cases z
end
/-! ### the def that tells -/
/-- the text of told -/
def toldBody (rd ev oor : Str) (r o : Str) (j k : Nat) (ja jb jc jd : Nat) (p1 p2 p3 p4 p5 p6 p7 p8 p9 q1 q2 q3 q4 q5 q6 q7 q8 q9 q10 q11 : Pos) : List Stmt :=
  [.Try [.Return (some (.Tuple [.Constant (.int 0) ja p1, .Call (.Name rd p2) [.Call (.Name "call" p3) [] [] p4] [] p5] j p6)) p7]
    [.ExceptHandler (some (.Name ev p8)) (some "e") [.Return (some (.Tuple [.Constant (.int 1) jb p9, .IfExp (.Call (.Name "isinstance" q1) [.Name "e" q2, .Name oor q3] [] q4) (.Constant (.str r) jc q5) (.Constant (.str o) jd q6) q7] k q8)) q9] q10] [] [] q11]
/-- an error that told knows: its class, whether it is out of range -/
structure ErrT (K : PySem.W.Frag) (CE CO : Addr) (c : Addr) (b : Bool) : Prop where
  exc : L2.ExcC K c
  ev : PySem.W.exmOne K (.ref c) (.ref CE) = some true
  oor : PySem.W.kitOne K (.ref c) (.ref CO) = some b
/-- told, as it stands -/
structure TolF (Y : Gw) (x : Str) : Prop where
  ex : ∃ (g : Addr) (pg : Arguments) (bg : List Stmt) (sg : Scope) (dV kV doc pm cdv ct oc : Value) (an od : Option Addr) (osl : Array (Option Value)) (rd ev oor r o : Str) (CE CO : Addr) (j k ja jb jc jd : Nat) (p1 p2 p3 p4 p5 p6 p7 p8 p9 q1 q2 q3 q4 q5 q6 q7 q8 q9 q10 q11 : Pos) (kr ko : Nat),
    Y.mg x = some (.ref g) ∧ PySem.W.keepIn Y.Z.K (.ref g) = true ∧ Y.Z.K.lookup g = some ⟨oc, od, .func (PySem.W.fnOf x x pg bg sg dV kV doc pm an cdv ct), osl⟩ ∧ PySem.W.codeIn Y.Z.K cdv x = true ∧ L2.Binds Y.Z.K (PySem.W.fnOf x x pg bg sg dV kV doc pm an cdv ct) ["call"] [] ∧
    FnScope ["call", "e"] ["call"] sg ∧ sg.names.lookup ("e" : Str) = some .local ∧ sg.names.lookup rd = some .globalImplicit ∧ sg.names.lookup ev = some .globalImplicit ∧ sg.names.lookup oor = some .globalImplicit ∧ sg.names.lookup ("isinstance" : Str) = some .globalImplicit ∧
    bg = toldBody rd ev oor r o j k ja jb jc jd p1 p2 p3 p4 p5 p6 p7 p8 p9 q1 q2 q3 q4 q5 q6 q7 q8 q9 q10 q11 ∧ Y.nm.fns[Y.T.read]? = some rd ∧ odd rd = false ∧ odd ev = false ∧ odd oor = false ∧ Y.mg ev = some (.ref CE) ∧ Y.mg oor = some (.ref CO) ∧ Y.mg "isinstance" = none ∧
    Y.Z.ST[kr]? = some r ∧ Y.Z.ST[ko]? = some o ∧ Y.ar Y.T.read = 1 ∧
    ∀ c, c < Y.T.ne → ∃ C b, Y.Z.cls c = .ref C ∧ ErrT Y.Z.K CE CO C b ∧ Y.T.word c = if b then kr else ko
section
variable {n : Nat} {E : XK} {X : Cx} {Y : Gw} {σ : L2.St} {H : Hp}
/-- what told makes of the lambda -/
def TTe (Y : Gw) (m : Nat) : (XK → Hp → VK → Prop) → Hp → VK → Prop := fun tl H Q =>
  tl (fun cls d H' => d = none ∧ ∃ c, c < Y.T.ne ∧ cls = Y.Z.cls c ∧ ∀ x, Y.Z.ST[Y.T.word c]? = some x → ∀ p, H' p = none → Q (.ref p) (upd H' p (.tup [.int 1, .str x]))) H
    fun v H1 => spF Y (m + 1) Y.T.read ([v] ++ []) H1 (fun w H2 => [V.int 0, w].length ≤ sizeLine ∧ ∀ p, H2 p = none → Q (.ref p) (upd H2 p (.tup [.int 0, w]))) E0
theorem vis_start {g : Addr} : (L2.start ["call", "e"] [V.ref g])[0]? = some (some (V.ref g)) := rfl
theorem told_gives {m : Nat} {q : Str} {rd ev oor r o : Str} {g CE CO : Addr} {sg : Scope} {cdg : Value} {j k ja jb jc jd : Nat} {p1 p2 p3 p4 p5 p6 p7 p8 p9 q1 q2 q3 q4 q5 q6 q7 q8 q9 q10 q11 : Pos} {x : Str} {kr ko : Nat}
    (hP : X.prog = Y.P) (hW : X.w = Y.w) (hK : X.K = Y.Z.K) (hmg : X.mg = Y.mg) (hbs : X.base = Y.base) (K : Fok Y (m + 1)) (hr : Room (m + 2) X.A)
    (Sg : FnScope ["call", "e"] ["call"] sg) (hle : sg.names.lookup ("e" : Str) = some .local) (grd : sg.names.lookup rd = some .globalImplicit) (gev : sg.names.lookup ev = some .globalImplicit) (goor : sg.names.lookup oor = some .globalImplicit) (gis : sg.names.lookup ("isinstance" : Str) = some .globalImplicit)
    (hf : Y.nm.fns[Y.T.read]? = some rd) (ord : odd rd = false) (oev : odd ev = false) (ooor : odd oor = false) (mev : Y.mg ev = some (.ref CE)) (moor : Y.mg oor = some (.ref CO)) (mis : Y.mg "isinstance" = none) (str_ : Y.Z.ST[kr]? = some r) (sto : Y.Z.ST[ko]? = some o)
    (errs : ∀ c, c < Y.T.ne → ∃ C b, Y.Z.cls c = .ref C ∧ ErrT Y.Z.K CE CO C b ∧ Y.T.word c = if b then kr else ko) :
    LamX.GivesTo X ["call", "e"] x sg g cdg (toldBody rd ev oor r o j k ja jb jc jd p1 p2 p3 p4 p5 p6 p7 p8 p9 q1 q2 q3 q4 q5 q6 q7 q8 q9 q10 q11) "call" q (TTe Y m) := by
  intro f c' s H Q tl act hc h
  obtain ⟨a, fd, ps, hm, hk, hb, FO⟩ := K.fn Y.T.read rd hf
  have FO := FO (m + 1) (Nat.le_refl _)
  rw [← hP, ← hW, ← hK, ← hmg, ← hbs] at FO
  rw [← hmg] at hm mev moor mis
  rw [← hK] at hk hb
  have rr : Room (m + 1) (cxOf C8.CX0 X.prog X.w X.K X.mg X.base ["call", "e"] x sg g cdg X.A X.stack s H C8.E0).A := hr.deeper _
  have rdd := (odd_no ord).1
  have evd := (odd_no oev).1
  have ood := (odd_no ooor).1
  refine ⟨_, pss_one (ps_try_as (X := (cxOf C8.CX0 X.prog X.w X.K X.mg X.base ["call", "e"] x sg g cdg X.A X.stack s H C8.E0).nox) (i := 1) (n := "e") (c := .ref CE)
      (tb := fun W D σ H => ∃ Ech : XK, (∀ cls d σ' H', Ech cls d H' → W cls d σ' H') ∧ σ[0]? = some (some (.ref f)) ∧ H c' = some (LamX.CodeO c' q) ∧ tl Ech H fun v H1 => spF Y (m + 1) Y.T.read ([v] ++ []) H1 (fun w H2 => [V.int 0, w].length ≤ sizeLine ∧ ∀ p, H2 p = none → D.rt (.ref p) (upd H2 p (.tup [.int 0, w]))) E0)
      (ts := fun a' cls d D σ H => (∃ σ0 : L2.St, σ = σ0.set 1 (some (.ref a'))) ∧ d = none ∧ ∃ c C b, cls = .ref C ∧ Y.Z.cls c = .ref C ∧ ErrT X.K CE CO C b ∧ ∀ p, H p = none → D.rt (.ref p) (upd H p (.tup [.int 1, .str (if b then r else o)])))
      (Wout := fun _ _ _ _ => False)
      rfl rfl Sg.nd rfl hle ⟨gev, evd, .inl mev⟩ takes0 (fun W pn xe tk _ => ?_) (fun a' oe cls d pn hz hv => ?_)), ?_⟩
  · refine ⟨fun pins s' σ H' D I h' => ?_⟩
    obtain ⟨Ech, hW', h1, h2, h3⟩ := h'
    have hp := act W pn xe Ech p3 p4 tk hW'
    have hcall := pe_call (X := (cxOf C8.CX0 X.prog X.w X.K X.mg X.base ["call", "e"] x sg g cdg X.A X.stack s H C8.E0).tr pn xe) (E := E0) (p := p2) (pos := p5) FO rr grd hm hk hb .nil passL (pa_cons hp pa_nil) rdd (by rfl) (by rfl)
    have ht := pe_tup (x1 := j) (pos := p6) (pa_cons (pe_int (i := 0) (j := ja) (pos := p1)) (pa_cons hcall pa_nil (by rfl)) (by rfl))
    refine (pss_one (ps_ret (pos := p7) ht)).run pins s' σ H' D I ?_
    exact ⟨h1, h2, h3⟩
  · refine ⟨fun pins s' σ H' D I h' => ?_⟩
    obtain ⟨⟨σ0, h1⟩, hd, c, C, b, ec, ec2, er, h2⟩ := h'
    subst ec hd
    have hlen : σ.length = 2 := I.len
    have hs1 : σ[1]? = some (some (.ref a')) := by
      rw [h1] at hlen ⊢
      rw [List.length_set] at hlen
      rw [List.getElem?_set_self (by omega)]
    have hv1 : PE (((cxOf C8.CX0 X.prog X.w X.K X.mg X.base ["call", "e"] x sg g cdg X.A X.stack s H C8.E0).nox).suite a' ((a', oe) :: pn)) (.Name "e" q2) (tVar 1) := pe_var rfl (.inl hle) (by decide) (by decide)
    have hv2 : PE (((cxOf C8.CX0 X.prog X.w X.K X.mg X.base ["call", "e"] x sg g cdg X.A X.stack s H C8.E0).nox).suite a' ((a', oe) :: pn)) (.Name oor q3) (tC (.ref CO)) := pe_glob goor moor rfl ood
    have hci := pe_callB (p := q1) (pos := q4) (call_isE (X := (cxOf C8.CX0 X.prog X.w X.K X.mg X.base ["call", "e"] x sg g cdg X.A X.stack s H C8.E0).nox) er.exc hz hv) gis mis (by decide +kernel) (pa_cons hv1 (pa_cons hv2 pa_nil (by rfl)) (by rfl)) (by decide) (by decide) (by rfl) (by rfl)
    have hif := pe_ifExp (pos := q7) (pt_truth hci (fun _ => rfl)) (pe_str (x := r) (j := jc) (pos := q5)) (pe_str (x := o) (j := jd) (pos := q6))
    have ht := pe_tup (x1 := k) (pos := q8) (pa_cons (pe_int (i := 1) (j := jb) (pos := p9)) (pa_cons hif pa_nil (by rfl)) (by rfl))
    refine (pss_one (ps_ret (pos := q9) ht)).run pins s' σ H' D I ?_
    refine ⟨.ref a', hs1, .ref CO, .ref CO, b, rfl, fun u hu => hu, er.oor, b, rfl, ?_⟩
    cases b with
    | true => exact ⟨by show 2 ≤ sizeLine; decide, h2⟩
    | false => exact ⟨by show 2 ≤ sizeLine; decide, h2⟩
  · refine ⟨fun cls d H' => d = none ∧ ∃ c, c < Y.T.ne ∧ cls = Y.Z.cls c ∧ ∀ x, Y.Z.ST[Y.T.word c]? = some x → ∀ p, H' p = none → Q (.ref p) (upd H' p (.tup [.int 1, .str x])), fun cls d σ' H' hx => ?_, rfl, hc, h⟩
    obtain ⟨hd, c, hcn, ec, hq⟩ := hx
    obtain ⟨C, b, e1, er, ew⟩ := errs c hcn
    rw [e1] at ec
    subst ec hd
    rw [← hK] at er
    refine ⟨true, er.ev, fun _ a' na => ⟨⟨σ', rfl⟩, rfl, c, C, b, rfl, e1, er, fun p hp => hq _ ?_ p hp⟩, fun z => by cases z⟩
    rw [ew]
    cases b with
    | true => exact str_
    | false => exact sto
/-- the code object of a def that makes lambdas, its table -/
structure LamAt (Y : Gw) (X : Cx) (c P : Addr) : Prop where
  tb : LamX.TabB Y.base Y.mg c P
  code : X.env.code = .ref c
  mem : (P, X.env.qual ++ "<lambda>") ∈ Y.Z.TT
  un : ∀ p ∈ Y.Z.TT, p.1 = P → p.2 = X.env.qual ++ "<lambda>"
theorem defs_none {params : Arguments} {env : Env} (h1 : params.defaults = []) (h2 : params.kw_defaults = []) : defaultsOf params env = ([], []) := by
  obtain ⟨_, _, _, _, kw, _, d⟩ := params
  dsimp only at h1 h2
  subst h1 h2
  rfl
theorem snd_told {m : Nat} {c : Cs} {x : Str} {cd P : Addr} {params : Arguments} {body : Expr} {scope : Scope} {fb : Ev → R O} {p lpos pos : Pos} (G : Good Y (m + 2) c E X) (K : Fok Y (m + 1)) (T : TolF Y x) (L : LamAt Y X cd P) (hg : Gl X x) (hx : odd x = false) (ls : LamX.LamS X.env.scope scope)
    (hd1 : params.defaults = []) (hd2 : params.kw_defaults = []) (hbind : ∀ (q : Str) (cl : List (Str × Addr)) (pm cv ctv : Value), bindArgs (PySem.W.kla_fn "<lambda>" q params body scope cl pm cv ctv) ⟨[], []⟩ = pure [])
    (hbody : ∀ (A : Around) (outer : List Env) (s : Shared) (H : Hp) (E : XK) (f c' : Addr), Room m (A.deeper (LamX.lamEnv X scope s.heap.objs.size f c')) → PE (LamX.lamCx X A outer s H E scope f c') body (LE Y.Z E fb)) :
    PE X (.Call (.Name x p) [.Lambda params body scope lpos] [] pos) (LE Y.Z E fun ρ => toldS Y.T Y.C m (fb ρ)) := by
  obtain ⟨g, pg, bg, sg, dV, kV, doc, pm, cdv, ct, oc, an, od, osl, rd, ev, oor, r, o, CE, CO, j, k, ja, jb, jc, jd, p1, p2, p3, p4, p5, p6, p7, p8, p9, q1, q2, q3, q4, q5, q6, q7, q8, q9, q10, q11, kr, ko, hm, hk, lk, hcd, hb, Sg, hle, grd, gev, goor, gis, ebg, hf, ord, oev, ooor, mev, moor, mis, str_, sto, har, errs⟩ := T.ex
  subst ebg
  have xdd := (odd_no hx).1
  have hG := told_gives (Y := Y) (m := m) (q := X.env.qual ++ "<lambda>") (x := x) (g := g) (cdg := cdv) (j := j) (k := k) (ja := ja) (jb := jb) (jc := jc) (jd := jd) (p1 := p1) (p2 := p2) (p3 := p3) (p4 := p4) (p5 := p5) (p6 := p6) (p7 := p7) (p8 := p8) (p9 := p9) (q1 := q1) (q2 := q2) (q3 := q3) (q4 := q4) (q5 := q5) (q6 := q6) (q7 := q7) (q8 := q8) (q9 := q9) (q10 := q10) (q11 := q11) G.prog G.w G.K G.mg G.base K G.room Sg hle grd gev goor gis hf ord oev ooor mev moor mis str_ sto errs
  have tb := L.tb
  rw [← G.mg] at hm
  rw [← G.K] at hk lk hcd hb
  rw [← G.base, ← G.mg] at tb
  refine peImp (LamX.pe_lamcall (X := X) (t := fun E => LE Y.Z E fb) hg hm hk lk hcd hb Sg rfl ((Sg.par "call" List.mem_cons_self).elim .inl fun z => .inr (.inl z)) hG tb L.code L.mem L.un G.room ls (defs_none hd1 hd2) hbind hbody xdd (by decide) (by decide)) fun σ H Q ⟨F0, H0, ρ0, F, ρ, p, post⟩ => ?_
  refine ⟨p.st.tabs, fun H1 eN T1 => ?_⟩
  have ep := ext_path p.st eN T1
  have p1 := p.trans ep
  refine here p1.st ?_
  cases e : fb ρ with
  | stuck => simp only [e, toldS] at post; exact post.elim
  | exc c ρ1 =>
    simp only [e, toldS] at post
    intro F2 H2 q2
    by_cases hc : c < Y.T.ne
    · rw [decide_eq_true hc, R.grd_true] at post
      refine ⟨rfl, c, hc, rfl, fun x hx p' hp => ?_⟩
      exact fin_new (p1.trans q2) post (new_tup hp (.cons (by simp only [Rp]) (.cons (by simp only [Rp]; exact ⟨x, hx, rfl⟩) .nil)))
    · rw [decide_eq_false hc, R.grd_false] at post
      exact post.elim
  | ok o1 ρ1 =>
    simp only [e, toldS] at post
    intro v F2 H2 q2 r2
    refine call_sp (p1.trans q2) (os := [o1]) (vs := [v]) (H0 := H0) ⟨v, [], rfl, r2.1, r2.2.back p1, fun _ _ _ => trivial, rfl⟩ (by rw [har]; rfl) ?_
    cases ec : callF Y.C (m + 1) Y.T.read [o1] ρ1 with
    | stuck => simp only [ec, R.calm, R.bind_stuck] at post; exact post.elim
    | exc c ρ2 => simp only [ec, R.calm, R.bind_stuck] at post; exact post.elim
    | ok r ρ2 =>
      simp only [ec, R.calm, R.bind_ok] at post
      intro w F3 H3 q3 r3
      refine ⟨by show 2 ≤ sizeLine; decide, fun p' hp => ?_⟩
      cases ek : keep ρ2 r with
      | none => rw [ek] at post; exact post.elim
      | some kp =>
        obtain ⟨d, ρ3⟩ := kp
        rw [ek] at post
        obtain ⟨F4, p4, rd4, _⟩ := keep_ok q3 r3.1 r3.2 ek
        exact fin_new p4 post (new_tup hp (.cons (by simp only [Rp]) (.cons rd4 .nil)))
end
end Ev
/-! Ev14: which text an expression is; that the evaluator tells of it. -/
namespace Ev
open PySem PySem.Spec PyProof.Rows L2
/-! ### contexts -/
structure Gk (Y : Gw) : Prop where
  ok : Gok Y
  ar : ∀ f, Y.ar f = Y.nm.ars.getD f 0
  exc : ∀ (c : Nat) (x : Str), Y.nm.exs[c]? = some x → ∃ C, Exc Y c x C
  tol : ∀ x, Y.nm.told = some x → TolF Y x
  fa : ∀ f, Y.Z.f1 f = true → ∃ x, Y.nm.fns[f]? = some x ∧ Y.ar f = 1 ∧ Y.mg x = some (.ref (Y.Z.fa f))
  f1 : ∀ f x, Y.nm.fns[f]? = some x → Y.nm.ars.getD f 0 = 1 → Y.Z.f1 f = true
structure Gd (Y : Gw) (n : Nat) (c : Cs) (E : XK) (X : Cx) : Prop where
  g : Good Y n c E X
  cel : ∀ x, (c.sc.names.lookup x = some .cell ∨ c.sc.names.lookup x = some .free) → (X.env.scope.names.lookup x = some .cell ∨ X.env.scope.names.lookup x = some .free)
  lam : c.lam = true → ∃ cd P, LamAt Y X cd P
section
variable {Y : Gw} {n : Nat} {c : Cs} {E : XK} {X : Cx}
theorem vis_of {c : Cs} {x : Str} (h : visB c x = true) : c.sc.names.lookup x = some .local ∨ c.sc.names.lookup x = some .cell ∨ c.sc.names.lookup x = some .free := by
  unfold visB at h
  split at h
  · rename_i e; exact .inl e
  · rename_i e; exact .inr (.inl e)
  · rename_i e; exact .inr (.inr e)
  · cases h
theorem loc_of {c : Cs} {x : Str} (h : locB c x = true) : c.sc.names.lookup x = some .local ∨ c.sc.names.lookup x = some .cell := by
  unfold locB at h
  split at h
  · rename_i e; exact .inl e
  · rename_i e; exact .inr e
  · cases h
theorem gl_of {c : Cs} {x : Str} (h : glB c x = true) : c.sc.names.lookup x = some .globalImplicit := by
  unfold glB at h
  split at h
  · rename_i e; exact e
  · cases h
theorem free_relS {sc : Scope} : ∀ {names : List (Str × NameKind)} {x : Str}, names.lookup x = some .free →
    (names.map fun (n, k) => if (k == NameKind.free && sc.kind == .function && sc.names.lookup n == some .cell) then (n, NameKind.cell) else (n, k)).lookup x = some .free ∨
    (names.map fun (n, k) => if (k == NameKind.free && sc.kind == .function && sc.names.lookup n == some .cell) then (n, NameKind.cell) else (n, k)).lookup x = some .cell
  | [], _, h => by simp at h
  | (m, k₀) :: r, x, h => by
    have ih := @free_relS sc r x
    show List.lookup x ((if (k₀ == NameKind.free && sc.kind == .function && sc.names.lookup m == some .cell) = true then (m, NameKind.cell) else (m, k₀)) :: (r.map _)) = some .free ∨
      List.lookup x ((if (k₀ == NameKind.free && sc.kind == .function && sc.names.lookup m == some .cell) = true then (m, NameKind.cell) else (m, k₀)) :: (r.map _)) = some .cell
    cases hx : x == m with
    | true =>
      simp only [List.lookup_cons, hx] at h
      cases h
      split
      · exact .inr (by simp only [List.lookup_cons, hx])
      · exact .inl (by simp only [List.lookup_cons, hx])
    | false =>
      simp only [List.lookup_cons, hx] at h
      split
      · simp only [List.lookup_cons, hx]; exact ih h
      · simp only [List.lookup_cons, hx]; exact ih h
/-- the context of a comprehension's block -/
theorem Gd.blk {scope : Scope} (G : Gd Y n c E X) (s : Shared) (H : Hp) (C : Addr) (cl : List (Str × Addr)) (fp : List Addr) : Gd Y n ⟨c.N, scope, c.lam⟩ E0 (X.blk s H scope (compEnvC scope cl C X.env) fp) := by
  have sc : (X.blk s H scope (compEnvC scope cl C X.env) fp).env.scope = relS scope X.env.scope := rfl
  have keep : ∀ {x : Str} {k : NameKind}, k ≠ .free → scope.names.lookup x = some k → (relS scope X.env.scope).names.lookup x = some k := fun hk h => lookup_relS_keep hk h
  refine ⟨⟨G.g.prog, G.g.w, G.g.K, G.g.mg, G.g.base, G.g.N, G.g.nd, fun x h => ?_, fun x h => ?_, fun x h => ?_, G.g.calm, G.g.room, passL⟩, fun x h => ?_, fun h => ?_⟩
  · rcases vis_of h with h | h | h
    · exact .inl (keep (by decide) h)
    · exact .inr (.inl (keep (by decide) h))
    · rcases free_relS (sc := X.env.scope) h with z | z
      · exact .inr (.inr z)
      · exact .inr (.inl z)
  · rcases loc_of h with h | h
    · exact ⟨.inl (keep (by decide) h), .inr (keep (by decide) h)⟩
    · refine ⟨.inr (keep (by decide) h), .inl ?_⟩
      show (scope.names.lookup x == some NameKind.cell) = true
      rw [show scope.names.lookup x = _ from h]
      rfl
  · exact keep (by decide) (gl_of h)
  · rcases h with h | h
    · exact .inl (keep (by decide) h)
    · rcases free_relS (sc := X.env.scope) h with z | z
      · exact .inr z
      · exact .inl z
  · obtain ⟨cd, P, L⟩ := G.lam h
    exact ⟨cd, P, L.tb, L.code, L.mem, L.un⟩
theorem Gd.blkOk {scope : Scope} {own : List (Str × Nat)} (G : Gd Y n c E X) (h : BlkOk c.N c.sc scope own) : BlkOk X.N X.env.scope scope own :=
  ⟨h.kind, h.uniq, by rw [G.g.N]; exact h.ix, fun y hy e => G.cel _ (h.free y hy e), by rw [G.g.N]; exact h.own⟩
/-- the context of a lambda's body -/
theorem Gd.lamb {m : Nat} {scope : Scope} (G : Gd Y (m + 2) c E X) (ls : LamX.LamS X.env.scope scope) (A : Around) (outer : List Env) (s : Shared) (H : Hp) (E' : XK) (f c' : Addr) (hr : Room m (A.deeper (LamX.lamEnv X scope s.heap.objs.size f c'))) :
    Gd Y m ⟨c.N, scope, false⟩ E' (LamX.lamCx X A outer s H E' scope f c') := by
  refine ⟨⟨G.g.prog, G.g.w, G.g.K, G.g.mg, G.g.base, G.g.N, G.g.nd, fun x h => vis_of h, fun x h => ?_, fun x h => gl_of h, rfl, hr, ?_⟩, fun x h => h, fun h => by cases h⟩
  · rcases loc_of h with h | h
    · exact absurd rfl (ls.own _ (PySem.mem_of_lookup h)).1
    · exact absurd rfl (ls.own _ (PySem.mem_of_lookup h)).2
  · exact passes_call (takes_of (X := LamX.lamCx X A outer s H E' scope f c') (E := E') rfl rfl rfl rfl) fun _ _ _ _ h => h
theorem Gd.lamS {scope : Scope} (G : Gd Y n c E X) (ls : LamX.LamS c.sc scope) : LamX.LamS X.env.scope scope := ⟨ls.kind, ls.co, ls.gen, ls.own, fun y hy e => G.cel _ (ls.free y hy e)⟩
end
/-! ### small rules -/
section
variable {n : Nat} {E : XK} {X : Cx} {Z : Wo}
theorem peStuck {e : Expr} : PE X e (LE Z E fun _ => .stuck) := ⟨fun _ _ _ _ _ _ ⟨_, _, _, _, _, _, post⟩ => post.elim⟩
theorem snd_neg {a : Expr} {pos : Pos} {f : Ev → R O} (h : PE X a (LE Z E f)) : PE X (.UnaryOp .USub a pos) (LE Z E fun ρ => (f ρ).bind fun x ρ1 => R.opt (optInt x) fun i => .ok (.d (.int (-i))) ρ1) := by
  refine peImp (pe_un un_neg h) fun σ H Q q => one q fun a ρ1 x F1 H1 F0 H0 ρ0 p o fr post => ?_
  unfold optInt at post
  split at post
  · rename_i i
    exact ⟨i, Rp.inv_int o.dp, here_d p post (by simp only [Rp])⟩
  · exact post.elim
/-- a clause's tests, one after the other -/
theorem tests_no {env : Env} : ∀ {cs : List Expr}, (forIn cs false fun c r => if r = true then do let ok ← isTrue c env (eval c env); pure (ForInStep.yield ok) else pure (ForInStep.yield r) : Sem Bool) = pure false
  | [] => by rw [List.forIn_nil]
  | c :: cs => by
    rw [List.forIn_cons, if_neg Bool.false_ne_true, pure_bind]
    exact tests_no
theorem snd_tests {c : Expr} {cs : List Expr} {f g : Ev → R Bool} (h : PT X c (LT Z E f)) (t : PTs X cs (LT Z E g)) : PTs X (c :: cs) (LT Z E fun ρ => ifB (f ρ) g fun ρ1 => .ok false ρ1) := by
  refine ⟨fun pins s σ H Q I ⟨F0, H0, ρ0, F, ρ, p, post⟩ => ?_⟩
  rw [List.forIn_cons, if_pos rfl]
  refine wpAny_bind (wpAny_bind (thn (h.run pins s σ H _ I (run p post fun b ρ1 b' F1 H1 _ p1 r post => (show (if b' = true then LT Z E g σ H1 Q else Q false H1) from ?_))) fun b s1 ⟨H1, I1, q1⟩ => wpAny_pure ?_))
  · obtain rfl : b' = b := r
    cases b' with
    | true =>
      simp only [if_true] at post ⊢
      exact ⟨F0, H0, ρ0, F1, ρ1, p1, post⟩
    | false =>
      simp only [Bool.false_eq_true, if_false] at post ⊢
      exact fin_t p1 post
  · cases b with
    | true =>
      simp only [if_true] at q1
      exact t.run pins s1 σ H1 Q I1 q1
    | false =>
      simp only [Bool.false_eq_true, if_false] at q1
      show wpAny _ _ (forIn cs false _) _ _ _
      rw [tests_no]
      exact wpAny_pure ⟨H1, I1, q1⟩
theorem snd_tests0 : PTs X [] (LT Z E fun ρ => .ok true ρ) := ⟨fun pins s σ H Q I ⟨F0, H0, ρ0, F, ρ, p, post⟩ => pts_nil.run pins s σ H Q I (fin_t p post)⟩
theorem noSet {e : Expr} {env : Env} (h : (match e with | .Set _ _ _ => false | _ => true) = true) : ∀ x, foldedSetIterable e env x = pure x := by
  intro x
  cases e <;> first | rfl | (cases h)
end
end Ev
/-! Ev77: defs as values: one of some, called by a slot. -/
namespace Ev
open PySem PySem.Spec PyProof.Rows L2
section
variable {n : Nat} {E : XK} {X : Cx} {Z : Wo} {σ : L2.St} {F : Fz} {H H0 : Hp} {ρ : Ev} {α β γ δ : Type}
theorem pa_refs : ∀ {fs : List Nat} {xs : List Expr}, xs.length = fs.length → (∀ (i : Nat) (x : Expr) (f : Nat), xs[i]? = some x → fs[i]? = some f → PE X x (tC (.ref (Z.fa f))) ∧ isStar x = false) →
    PA X xs (fun σ H Q => Q (fs.map fun f => V.ref (Z.fa f)) H)
  | [], xs, hl, h => by
    have : xs = [] := List.length_eq_zero_iff.mp hl
    subst this
    exact paImp pa_nil fun σ H Q q => q
  | f :: fs, xs, hl, h => by
    cases xs with
    | nil => cases hl
    | cons x xs =>
      obtain ⟨h1, h2⟩ := h 0 x f rfl rfl
      have t := pa_refs (fs := fs) (xs := xs) (by simpa using hl) fun i x f e1 e2 => h (i + 1) x f (by simpa using e1) (by simpa using e2)
      exact paImp (pa_cons h1 t (star_cons h2)) fun σ H Q q => q
theorem snd_fns {fs : List Nat} {xs : List Expr} {b : Expr} {g : Ev → R O} {lp pos : Pos} (hK : X.K = Z.K) (pa : PA X xs (fun σ H Q => Q (fs.map fun f => V.ref (Z.fa f)) H)) (hb : PE X b (LE Z E g)) (hs : isSlice b = false) (hl : fs.length ≤ 1000) (hf : ∀ f ∈ fs, Z.f1 f = true) :
    PE X (.Subscript (.List xs lp) b pos) (LE Z E fun ρ => (g ρ).bind fun y ρ1 => fnS fs y ρ1) := by
  refine peImp (pe_ix ix_list (pe_lst pa) hb (plain_ix hs)) fun σ H Q ⟨F0, H0, ρ0, F, ρ, p, post⟩ => ?_
  show List.length (fs.map fun f => V.ref (Z.fa f)) ≤ sizeLine ∧ ∀ q, H q = none → _
  refine ⟨by rw [List.length_map, sizeLine_eq]; omega, fun q hq => ?_⟩
  have sm : Same H (upd H q (.lst (fs.map fun f => V.ref (Z.fa f)))) := fun b o e => by
    rw [upd_ne (fun z => by rw [z, hq] at e; cases e)]; exact e
  have p' := p.same sm
  have nO : ¬ Own σ ρ q := fun z => by
    rcases (p.st.kind z).1 with ⟨_, y⟩ | ⟨_, y⟩ | ⟨_, y⟩ <;> · rw [hq] at y; cases y
  refine run p' post fun y ρ2 v F2 H2 p1 p2 r post => ?_
  have eq : H2 q = some (.lst (fs.map fun f => V.ref (Z.fa f))) := p1.sp.keep q _ upd_same nO (fun _ z => by cases z)
  unfold fnS at post
  split at post
  · rename_i k
    split at post
    · rename_i hk
      cases e : fs[k.toNat]? with
      | none => rw [e] at post; exact post.elim
      | some f =>
        rw [e] at post
        have ro : Rp Z F2 H2 (.int k) v := r.1
        have ev : v = .int k := Rp.inv_int ro
        refine ⟨q, _, k, .ref (Z.fa f), rfl, ev, SqL.of eq, ?_, post _ F2 H2 p2 ⟨⟨hf f (List.mem_of_getElem? e), rfl⟩, fun z => by cases z⟩⟩
        unfold atI ixN
        rw [List.length_map, if_pos hk.1, if_pos hk.2]
        show (fs.map _)[k.toNat]? = _
        rw [List.getElem?_map, e]
        rfl
    · exact post.elim
  · exact post.elim
end
section
variable {n : Nat} {E : XK} {X : Cx} {Y : Gw} {σ : L2.St} {H : Hp}
/-- x(..), x a slot's name -/
theorem snd_callv {c : Cs} {i : Nat} {x : Str} {e : Expr} {es : List Expr} {g : Ev → R (List O)} {p pos : Pos} (Yk : Gk Y) (G : Good Y n c E X) (K : Fok Y n) (hN : X.N[i]? = some x) (hv : Vis X.env.scope x) (hd : (x == ("__debug__" : Str)) = false) (hd2 : (x == ("__classdict__" : Str)) = false)
    (ha : PA X (e :: es) (LA Y.Z E g)) (hs : (e :: es).all (fun e => !isStar e) = true) (har : ∀ ρ os ρ1, g ρ = .ok os ρ1 → os.length = 1) : PE X (.Call (.Name x p) (e :: es) [] pos) (LE Y.Z E fun ρ => callvS Y.C n i ρ (g ρ)) := by
  have h1 : isStar e = false ∧ es.all (fun e => !isStar e) = true := by
    simpa only [List.all_cons, Bool.and_eq_true, Bool.not_eq_true'] using hs
  refine ⟨fun pins s σ H Q I ⟨F0, H0, ρ0, F, ρ, p, post⟩ => ?_⟩
  have post : PostG Y.Z E (relE Y.Z) σ F0 H0 ρ0 (callvS Y.C n i ρ (g ρ)) Q := post
  unfold callvS at post
  split at post
  · rename_i f ef
    obtain ⟨v, e1, r1, rfl⟩ := p.st.rep i _ ef
    obtain ⟨x', hf, har1, hmf⟩ := Yk.fa f r1
    obtain ⟨a, fd, ps, hm, hk, hb, FO⟩ := K.fn f x' hf
    have ea : a = Y.Z.fa f := by
      rw [hmf] at hm
      injection (Option.some.inj hm) with e
      exact e.symm
    subst ea
    have FO := FO n (Nat.le_refl _)
    rw [← G.prog, ← G.w, ← G.K, ← G.mg, ← G.base] at FO
    rw [← G.K] at hk hb
    refine (pe_callL FO G.room hN hv hk hb .nil G.pass ha hd hd2 (star_cons h1.1) (star_none h1.2)).run pins s σ H Q I ⟨e1, ?_⟩
    refine runE p post fun os ρ1 vs F1 H1 eg p1 p01 r post => ?_
    rw [List.append_nil]
    exact call_sp p01 (OutL.back p r) (by rw [← OutL.len r, har ρ os ρ1 eg, har1]) post
  · exact post.elim
end
end Ev
/-! Ev15: the look at expressions; its soundness. -/
namespace Ev
open PySem PySem.Spec PyProof.Rows L2
/-- a test's text is no conditional expression -/
def okT : Expr → Bool
  | .IfExp _ _ _ _ => false
  | _ => true
def noSetB : Expr → Bool
  | .Set _ _ _ => false
  | _ => true
def noPar (a : Arguments) : Bool := match a with
  | ⟨[], [], none, [], [], none, []⟩ => true
  | _ => false
def isAnd : PySem.BoolOp → Bool
  | .And => true
  | .Or => false
/-- how many the built-in takes -/
def bltA (b : Blt) (k : Nat) : Bool := match b with
  | .max2 => k == 2
  | .min2 => k == 2
  | .min3 => false
  | .sortedSet => false
  | .dict => false
  | _ => k == 1
def isSS : Blt → Bool
  | .sortedSet => true
  | _ => false
def Pos.same (a b : Pos) : Bool := a.endLine == b.line
def ownP (c : Cs) (own : List Nat) : List (Str × Nat) := own.map fun i => (c.N.getD i ⟨#[]⟩, i)
mutual
def chkTg (c : Cs) : Tg → Expr → Bool
  | .nm i, x => match x with
    | .Name y _ => stoB c i y
    | _ => false
  | .tp ts, x => match x with
    | .Tuple xs _ _ => chkTgs c ts xs
    | _ => false
def chkTgs (c : Cs) : List Tg → List Expr → Bool
  | [], xs => xs.isEmpty
  | t :: ts, xs => match xs with
    | [] => false
    | x :: xs => chkTg c t x && chkTgs c ts xs
end
def isTp : Expr → Bool
  | .Tuple _ _ _ => true
  | _ => false
def isOp (a b : CmpOp) : Bool := decide (a = b)
/-- a built-in's name, called -/
def bName (c : Cs) (x y : Str) : Bool := decide (x = y) && glB c y
/-- what is walked: a value; range(..); enumerate(..), zip(.., ..) with a tuple as target -/
def chkIt (k : Ik) (c : Cs) (t x : Expr) (L : List Expr → Bool) : Bool := match k with
  | .seq => noSetB x && L [x]
  | .rng => (match x with
    | .Call (.Name y _) xs [] _ => bName c "range" y && (decide (1 ≤ xs.length) && decide (xs.length ≤ 2)) && L xs
    | _ => false)
  | .enum => (match x with
    | .Call (.Name y _) xs [] _ => bName c "enumerate" y && decide (xs.length = 1) && isTp t && L xs
    | _ => false)
  | .zip => (match x with
    | .Call (.Name y _) xs [] _ => bName c "zip" y && decide (xs.length = 2) && isTp t && L xs
    | _ => false)
/-- names of defs that take one thing -/
def chkFs (nm : Nm) (c : Cs) : List Nat → List Expr → Bool
  | [], xs => xs.isEmpty
  | f :: fs, xs => match xs with
    | [] => false
    | x :: xs => (match x with
      | .Name y _ => nth nm.fns f y && (glB c y && !odd y) && decide (nm.ars.getD f 0 = 1)
      | _ => false) && chkFs nm c fs xs
mutual
def chkE (nm : Nm) : E → Cs → Expr → Bool
  | .non, _, x => match x with
    | .Constant k _ _ => (match k with | .none => true | _ => false)
    | _ => false
  | .bl b, _, x => match x with
    | .Constant k _ _ => (match k with | .bool b' => b == b' | _ => false)
    | _ => false
  | .int i, _, x => match x with
    | .Constant k _ _ => (match k with | .int j => decide (i = j) | _ => false)
    | _ => false
  | .str n, _, x => match x with
    | .Constant k _ _ => (match k with | .str y => nth nm.txt n y | _ => false)
    | _ => false
  | .abs, _, _ => false
  | .var i, c, x => match x with
    | .Name y _ => varB c i y
    | _ => false
  | .con k, c, x => match x with
    | .Name y _ => nth nm.cons k y && (glB c y && !odd y)
    | _ => false
  | .bin op a b, c, x => match x with
    | .BinOp l o r _ => decide (o = bopOf op) && (chkE nm a c l && chkE nm b c r)
    | _ => false
  | .neg a, c, x => match x with
    | .UnaryOp o y _ => (match o with | .USub => chkE nm a c y | _ => false)
    | _ => false
  | .andL es, c, x => match x with
    | .BoolOp o xs _ => isAnd o && (chkL nm es c xs && xs.all okT)
    | _ => false
  | .orL es, c, x => match x with
    | .BoolOp o xs _ => !isAnd o && (chkL nm es c xs && xs.all okT)
    | _ => false
  | .not_ a, c, x => match x with
    | .UnaryOp o y _ => (match o with | .Not => chkE nm a c y && okT y | _ => false)
    | _ => false
  | .cmp op a b, c, x => match x with
    | .Compare l os rs _ => (match os, rs with | [o], [r] => isOp o (copOf op) && (noSetB r && (chkE nm a c l && chkE nm b c r)) | _, _ => false)
    | _ => false
  | .chain o1 o2 a b d, c, x => match x with
    | .Compare l os rs _ => (match os, rs with | [p, q], [r, t] => isOp p (copOf o1) && isOp q (copOf o2) && (noSetB r && noSetB t && (chkE nm a c l && (chkE nm b c r && chkE nm d c t))) | _, _ => false)
    | _ => false
  | .ite t a b, c, x => match x with
    | .IfExp y l r _ => okT y && (chkE nm t c y && (chkE nm a c l && chkE nm b c r))
    | _ => false
  | .tup es, c, x => match x with
    | .Tuple xs _ _ => decide (es.length ≤ 1000) && chkL nm es c xs
    | _ => false
  | .lst es, c, x => match x with
    | .List xs _ => decide (es.length ≤ 1000) && chkL nm es c xs
    | _ => false
  | .dnew _, _, _ => false
  | .ix a i, c, x => match x with
    | .Subscript y k _ => !isSlice k && (chkE nm a c y && chkE nm i c k)
    | _ => false
  | .sl a lo hi, c, x => match x with
    | .Subscript y k _ => (match k with
      | .Slice l h none _ => chkE nm a c y && ((match l with | none => isAbs lo | some l => !isAbs lo && chkE nm lo c l) && (match h with | none => isAbs hi | some h => !isAbs hi && chkE nm hi c h))
      | _ => false)
    | _ => false
  | .rev _, _, _ => false
  | .call f es, c, x => match x with
    | .Call g xs kws _ => (match g, kws with
      | .Name y _, [] => nth nm.fns f y && (glB c y && !odd y) && (decide (es.length = nm.ars.getD f 0) && !es.isEmpty) && chkL nm es c xs
      | _, _ => false)
    | _ => false
  | .blt b es, c, x => match x with
    | .Call g xs kws _ => (match g, kws with
      | .Name y _, [] => if isSS b = true then bName c "sorted" y && (match xs with
          | [.Call (.Name z _) us [] _] => bName c "set" z && decide (es.length = 1) && chkL nm es c us
          | _ => false)
        else bName c (bltS b) y && bltA b es.length && chkL nm es c xs
      | _, _ => false)
    | _ => false
  | .isi a t, c, x => match x with
    | .Call g xs kws _ => (match g, xs, kws with
      | .Name y _, [u, .Name z _], [] => bName c "isinstance" y && bName c (tyS t) z && !isStar u && chkE nm a c u
      | _, _, _ => false)
    | _ => false
  | .app i e, c, x => match x with
    | .Call g xs kws cpos => (match g, xs, kws with
      | .Attribute (.Name y _) at_ apos, [u], [] => decide (at_ = "append") && varB c i y && (apos.endLine == cpos.line) && !isStar u && chkE nm e c u
      | _, _, _ => false)
    | _ => false
  | .pop i, c, x => match x with
    | .Call g xs kws cpos => (match g, xs, kws with
      | .Attribute (.Name y _) at_ apos, [], [] => decide (at_ = "pop") && varB c i y && (apos.endLine == cpos.line)
      | _, _, _ => false)
    | _ => false
  | .get2 _ _ _, _, _ => false
  | .sdef _ _ _, _, _ => false
  | .comp elt tg k es ifs own, c, x => match x with
    | .ListComp y gs sc _ => (match gs with
      | [⟨t, it, fs, 0⟩] => chkE nm elt ⟨c.N, sc, c.lam⟩ y && chkTg ⟨c.N, sc, c.lam⟩ tg t && chkIt k c t it (fun xs => chkL nm es c xs) && chkTs nm ifs ⟨c.N, sc, c.lam⟩ fs && blkC c.N c.sc sc (ownP c own) && (slots tg).all (fun i => own.contains i)
      | _ => false)
    | _ => false
  | .comp2 elt t1 k1 e1 t2 k2 e2 ifs own, c, x => match x with
    | .ListComp y gs sc _ => (match gs with
      | [⟨t, it, [], 0⟩, ⟨t', it', fs, 0⟩] => chkE nm elt ⟨c.N, sc, c.lam⟩ y && chkTg ⟨c.N, sc, c.lam⟩ t1 t && chkIt k1 c t it (fun xs => chkL nm e1 c xs) && chkTg ⟨c.N, sc, c.lam⟩ t2 t' && chkIt k2 ⟨c.N, sc, c.lam⟩ t' it' (fun xs => chkL nm e2 ⟨c.N, sc, c.lam⟩ xs) && chkTs nm ifs ⟨c.N, sc, c.lam⟩ fs && blkC c.N c.sc sc (ownP c own) && (slots t1).all (fun i => own.contains i) && (slots t2).all (fun i => own.contains i)
      | _ => false)
    | _ => false
  | .dcomp _ _ _ _ _ _ _ _, _, _ => false
  | .told b, c, x => match x with
    | .Call g xs kws _ => (match g, xs, kws with
      | .Name y _, [.Lambda ps body sc _], [] => (match nm.told with | some z => decide (z = y) | none => false) && (glB c y && !odd y) && c.lam && LamX.lamSB c.sc sc && noPar ps && chkE nm b ⟨c.N, sc, false⟩ body
      | _, _, _ => false)
    | _ => false
  | .fns fs a, c, x => match x with
    | .Subscript (.List xs _) k _ => !isSlice k && (decide (fs.length ≤ 1000) && (chkFs nm c fs xs && chkE nm a c k))
    | _ => false
  | .callv i es, c, x => match x with
    | .Call g xs kws _ => (match g, kws with
      | .Name y _, [] => varB c i y && decide (es.length = 1) && chkL nm es c xs
      | _, _ => false)
    | _ => false
termination_by structural e => e
def chkL (nm : Nm) : List E → Cs → List Expr → Bool
  | [], _, xs => xs.isEmpty
  | e :: es, c, xs => match xs with
    | [] => false
    | x :: xs => !isStar x && (chkE nm e c x && chkL nm es c xs)
termination_by structural es => es
def chkTs (nm : Nm) : List E → Cs → List Expr → Bool
  | [], _, xs => xs.isEmpty
  | e :: es, c, xs => match xs with
    | [] => false
    | x :: xs => okT x && (chkE nm e c x && chkTs nm es c xs)
termination_by structural es => es
end
end Ev
/-! Ev16: soundness of the look at expressions. -/
namespace Ev
open PySem PySem.Spec PyProof.Rows L2
section
variable {Y : Gw} {n : Nat} {c : Cs} {K0 : XK} {X : Cx} {x : Expr} {f : Ev → R O}
/-- as a value, as a test -/
def Both (Y : Gw) (K0 : XK) (X : Cx) (x : Expr) (f : Ev → R O) : Prop := PE X x (LE Y.Z K0 f) ∧ (okT x = true → PT X x (LT Y.Z K0 fun ρ => asT (f ρ)))
theorem both (G : Gd Y n c K0 X) (h : PE X x (LE Y.Z K0 f)) (hp : plainT x = true) : Both Y K0 X x f := ⟨h, fun _ => snd_truth G.g.K h hp⟩
theorem nosetI {op : CmpOp} {r : Expr} (h : noSetB r = true) : behindInMarks op r = false := by
  cases r <;> first | rfl | (cases h)
theorem op_cmp (Yk : Gk Y) (G : Gd Y n c K0 X) (op : Cop) : OpR X (compareOp (copOf op)) (rNb Y.Z (cmp op)) := by
  have hK := G.g.K
  have hu := G.g.hu
  have hs := Yk.ok.st
  cases op with
  | eq => exact op_eqO hK hs (by omega)
  | ne => exact op_neO hK hs (by omega)
  | lt => exact op_ltO hK (by omega)
  | le => exact op_leO
  | gt => exact op_gtO
  | ge => exact op_geO
  | isin => exact op_inSeq hK hs hu
  | notin => exact op_notinSeq hK hs hu
  | is_ => exact op_isO
  | isnot => exact op_isnotO
theorem bName_of {z y : Str} (h : bName c z y = true) (G : Gd Y n c K0 X) (Yk : Gk Y) (hz : z ∈ bltN) : y = z ∧ Gl X z ∧ X.mg z = none := by
  unfold bName at h
  simp only [Bool.and_eq_true, decide_eq_true_eq] at h
  obtain ⟨h1, h2⟩ := h
  subst h1
  exact ⟨rfl, G.g.gl _ h2, by rw [G.g.mg]; exact Yk.ok.blt _ hz⟩
/-- targets -/
theorem sndTg (G : Gd Y n c K0 X) : ∀ {t : Tg} {x : Expr}, chkTg c t x = true → PG X x (LGt Y.Z t) ∧ isStar x = false
  | .nm i, x, h => by
    simp only [chkTg] at h
    split at h
    · rename_i y p
      unfold stoB at h
      simp only [Bool.and_eq_true, Bool.not_eq_true'] at h
      obtain ⟨h1, h2, h3⟩ := h
      obtain ⟨l1, l2⟩ := G.g.loc y h2
      exact ⟨snd_nm (pg_name (by rw [G.g.N]; exact G.g.nd) (by rw [G.g.N]; exact nth_of h1) l1 l2), rfl⟩
    · cases h
  | .tp ts, x, h => by
    simp only [chkTg] at h
    split at h
    · rename_i xs k p
      obtain ⟨h1, h2, h3⟩ := sndTgs G h
      exact ⟨snd_tp G.g.K G.g.calm h1 h2 h3, rfl⟩
    · cases h
where
  sndTgs (G : Gd Y n c K0 X) : ∀ {ts : List Tg} {xs : List Expr}, chkTgs c ts xs = true → PGs X xs (LGts Y.Z ts) ∧ (assignEach xs X.env).length = ts.length ∧ (assignEach xs X.env).findIdx? (·.1) = none
    | [], xs, h => by
      simp only [chkTgs] at h
      cases xs with
      | nil => exact ⟨snd_tnil, rfl, rfl⟩
      | cons x xs => cases h
    | t :: ts, xs, h => by
      simp only [chkTgs] at h
      cases xs with
      | nil => cases h
      | cons x xs =>
        simp only [Bool.and_eq_true] at h
        obtain ⟨h1, h2⟩ := h
        obtain ⟨a1, a2⟩ := sndTg G h1
        obtain ⟨b1, b2, b3⟩ := sndTgs G h2
        have e : assignEach (x :: xs) X.env = (false, PySem.assign x X.env) :: assignEach xs X.env := by
          cases x <;> first | rfl | (cases a2)
        refine ⟨snd_tcons a1 b1 (by rw [e]; rfl), by rw [e, List.length_cons, List.length_cons, b2], ?_⟩
        rw [e]
        simp [List.findIdx?_cons, b3]
/-- what a list of texts gives -/
structure ArgsOk (Y : Gw) (K0 : XK) (X : Cx) (xs : List Expr) (g : Ev → R (List O)) : Prop where
  pa : PA X xs (LA Y.Z K0 g)
  len : ∀ ρ os ρ1, g ρ = .ok os ρ1 → os.length = xs.length
  st : xs.all (fun e => !isStar e) = true
theorem snd_it {k : Ik} {t : Expr} {g : Ev → R (List O)} {L : List Expr → Bool} (Yk : Gk Y) (G : Gd Y n c K0 X) (h : chkIt k c t x L = true) (hL : ∀ xs, L xs = true → ArgsOk Y K0 X xs g) (h1 : ∀ x, L [x] = true → ∃ f, PE X x (LE Y.Z K0 f) ∧ g = fun ρ => (f ρ).bind fun o ρ1 => .ok [o] ρ1) :
    PI X t x (LI Y.Z K0 fun ρ => iterF k (g ρ)) ∧ noSetB x = true := by
  cases k with
  | seq =>
    simp only [chkIt, Bool.and_eq_true] at h
    obtain ⟨f, pf, rfl⟩ := h1 x h.2
    refine ⟨?_, h.1⟩
    have e : (fun ρ => (f ρ).bind fun o ρ1 => R.opt (walk .seq [rs ρ1 o]) fun xs => R.ok (xs, walked [o]) ρ1) = fun ρ => iterF .seq ((f ρ).bind fun o ρ1 => .ok [o] ρ1) := by
      funext ρ
      cases f ρ <;> rfl
    rw [← e]
    exact snd_seq G.g.K pf
  | rng =>
    simp only [chkIt] at h
    split at h
    · rename_i y p xs q
      simp only [Bool.and_eq_true, decide_eq_true_eq] at h
      obtain ⟨⟨hb, h2, h3⟩, h4⟩ := h
      obtain ⟨rfl, hg, hm⟩ := bName_of hb G Yk (by decide)
      have a := hL xs h4
      cases xs with
      | nil => simp at h2
      | cons e es => exact ⟨snd_range a.len hg hm a.pa a.st (by simpa using h3), rfl⟩
    · cases h
  | enum =>
    simp only [chkIt] at h
    split at h
    · rename_i y p xs q
      simp only [Bool.and_eq_true, decide_eq_true_eq] at h
      obtain ⟨⟨⟨hb, h2⟩, h3⟩, h4⟩ := h
      obtain ⟨rfl, hg, hm⟩ := bName_of hb G Yk (by decide)
      have a := hL xs h4
      match xs, h2 with
      | [e], _ =>
        have s := a.st
        simp only [List.all_cons, List.all_nil, Bool.and_true, Bool.not_eq_true'] at s
        cases t <;> first | exact ⟨snd_enum G.g.K a.len hg hm a.pa s, rfl⟩ | (cases h3)
    · cases h
  | zip =>
    simp only [chkIt] at h
    split at h
    · rename_i y p xs q
      simp only [Bool.and_eq_true, decide_eq_true_eq] at h
      obtain ⟨⟨⟨hb, h2⟩, h3⟩, h4⟩ := h
      obtain ⟨rfl, hg, hm⟩ := bName_of hb G Yk (by decide)
      have a := hL xs h4
      match xs, h2 with
      | [e, e2], _ =>
        have s := a.st
        simp only [List.all_cons, List.all_nil, Bool.and_true, Bool.and_eq_true, Bool.not_eq_true'] at s
        cases t <;> first | exact ⟨snd_zip G.g.K a.len hg hm a.pa s.1 s.2, rfl⟩ | (cases h3)
    · cases h
/-- built-ins -/
theorem snd_bltAll {b : Blt} {e : Expr} {es : List Expr} {g : Ev → R (List O)} {y : Str} {p pos : Pos} (Yk : Gk Y) (G : Gd Y n c K0 X) (hb : bName c (bltS b) y = true) (hA : bltA b (e :: es).length = true) (a : ArgsOk Y K0 X (e :: es) g) :
    PE X (.Call (.Name y p) (e :: es) [] pos) (LE Y.Z K0 fun ρ => (g ρ).bind fun os ρ1 => oko (blt b (os.map (rs ρ1))) ρ1) := by
  have hz : bltS b ∈ bltN := by cases b <;> decide
  obtain ⟨rfl, hg, hm⟩ := bName_of hb G Yk hz
  have hK := G.g.K
  have hc := G.g.calm
  cases b with
  | len => exact snd_blt (cr_len hK) hg hm (by decide +kernel) (by decide) (by decide) a.pa a.st
  | abs => exact snd_blt cr_abs hg hm (by decide +kernel) (by decide) (by decide) a.pa a.st
  | int => exact snd_bty cr_int hg hm (by decide +kernel) (by decide) (by decide) a.pa a.st
  | tuple => exact snd_bty (cr_tuple hK) hg hm (by decide +kernel) (by decide) (by decide) a.pa a.st
  | list => exact snd_bty (cr_list hK) hg hm (by decide +kernel) (by decide) (by decide) a.pa a.st
  | sum => exact snd_blt (cr_sumO hK hc) hg hm (by decide +kernel) (by decide) (by decide) a.pa a.st
  | max => exact snd_blt (cr_maxO hK hc) hg hm (by decide +kernel) (by decide) (by decide) a.pa a.st
  | min => exact snd_blt (cr_minO hK hc) hg hm (by decide +kernel) (by decide) (by decide) a.pa a.st
  | max2 => exact snd_blt (cr_max2 hc) hg hm (by decide +kernel) (by decide) (by decide) a.pa a.st
  | min2 => exact snd_blt (cr_min2 hc) hg hm (by decide +kernel) (by decide) (by decide) a.pa a.st
  | min3 => cases hA
  | all => exact snd_blt (cr_allO hK hc) hg hm (by decide +kernel) (by decide) (by decide) a.pa a.st
  | any => exact snd_blt (cr_anyO hK hc) hg hm (by decide +kernel) (by decide) (by decide) a.pa a.st
  | sorted => exact snd_blt (cr_sortO hK) hg hm (by decide +kernel) (by decide) (by decide) a.pa a.st
  | sortedSet => cases hA
  | dict => cases hA
/-- sorted(set(a)) -/
theorem snd_sortSet {a : Expr} {f : Ev → R O} {y z : Str} {p p2 q pos : Pos} (Yk : Gk Y) (G : Gd Y n c K0 X) (h1 : bName c "sorted" y = true) (h2 : bName c "set" z = true) (ha : PE X a (LE Y.Z K0 f)) (hs : isStar a = false) :
    PE X (.Call (.Name y p) [.Call (.Name z p2) [a] [] q] [] pos) (LE Y.Z K0 fun ρ => ((f ρ).bind fun o ρ1 => .ok [o] ρ1).bind fun os ρ1 => oko (blt .sortedSet (os.map (rs ρ1))) ρ1) := by
  obtain ⟨rfl, g1, m1⟩ := bName_of h1 G Yk (by decide)
  obtain ⟨rfl, g2, m2⟩ := bName_of h2 G Yk (by decide)
  refine peImp (pe_sortSet G.g.calm g1 m1 g2 m2 ha (star_cons hs)) fun σ H Q q => ?_
  simp only [bind_assoc, R.bind_ok] at q
  refine one q fun o ρ1 x F1 H1 F0 H0 ρ0 p oa fr post => ?_
  cases e : blt .sortedSet ([o].map (rs ρ1)) with
  | none => rw [e] at post; exact post.elim
  | some r =>
    rw [e] at post
    obtain ⟨l, ns, el, sq, er⟩ := intsF_ok (os := [rs ρ1 o]) (vs := [x]) ⟨x, [], rfl, oa.rv p.st, rfl⟩ e
    cases el
    split at er
    · rename_i hl
      cases er
      rw [G.g.K]
      exact ⟨l, ns, rfl, sq, hl, fun b hb => fin_new p post (new_lst hb (Rps.ints _))⟩
    · cases er
end
end Ev
/-! Ev17: soundness of the look at expressions, all of them. -/
namespace Ev
open PySem PySem.Spec PyProof.Rows L2
theorem isAnd_of {o : PySem.BoolOp} (h : isAnd o = true) : o = .And := by cases o <;> first | rfl | (cases h)
theorem isOr_of {o : PySem.BoolOp} (h : (!isAnd o) = true) : o = .Or := by cases o <;> first | rfl | (cases h)
theorem noPar_of {a : Arguments} (h : noPar a = true) : a = ⟨[], [], none, [], [], none, []⟩ := by
  unfold noPar at h
  split at h
  · rfl
  · cases h
theorem chkIt_ns {k : Ik} {c : Cs} {t x : Expr} {L : List Expr → Bool} (h : chkIt k c t x L = true) : noSetB x = true := by
  cases k with
  | seq =>
    simp only [chkIt, Bool.and_eq_true] at h
    exact h.1
  | rng =>
    simp only [chkIt] at h
    split at h
    · rfl
    · cases h
  | enum =>
    simp only [chkIt] at h
    split at h
    · rfl
    · cases h
  | zip =>
    simp only [chkIt] at h
    split at h
    · rfl
    · cases h
def stopOf : PySem.BoolOp → Bool
  | .And => false
  | .Or => true
theorem evAO_two {T : Top} {C : Calls} {b : Bool} {e e2 : Ev.E} {es : List Ev.E} {n : Nat} : evAO T C b (e :: e2 :: es) n = fun ρ => onB b (evE T C e n ρ) (evAO T C b (e2 :: es) n) := rfl
theorem evAO_one {T : Top} {C : Calls} {b : Bool} {e : Ev.E} {n : Nat} : evAO T C b [e] n = evE T C e n := rfl
theorem chkFs_ok {Y : Gw} {n : Nat} {c : Cs} {K0 : XK} {X : Cx} (Yk : Gk Y) (G : Gd Y n c K0 X) : ∀ {fs : List Nat} {xs : List Expr}, chkFs Y.nm c fs xs = true → xs.length = fs.length ∧
    (∀ (i : Nat) (x : Expr) (f : Nat), xs[i]? = some x → fs[i]? = some f → PE X x (tC (.ref (Y.Z.fa f))) ∧ isStar x = false) ∧ ∀ f ∈ fs, Y.Z.f1 f = true
  | [], xs, h => by
    simp only [chkFs] at h
    cases xs with
    | nil => exact ⟨rfl, fun i x f e => by simp at e, fun f e => by cases e⟩
    | cons x xs => cases h
  | f :: fs, xs, h => by
    simp only [chkFs] at h
    cases xs with
    | nil => cases h
    | cons x xs =>
      simp only [Bool.and_eq_true] at h
      obtain ⟨h1, h2⟩ := h
      obtain ⟨i1, i2, i3⟩ := chkFs_ok Yk G h2
      split at h1
      · rename_i y p
        simp only [Bool.and_eq_true, Bool.not_eq_true', decide_eq_true_eq] at h1
        obtain ⟨⟨a1, a2, a3⟩, a4⟩ := h1
        have f1 := Yk.f1 f y (nth_of a1) a4
        obtain ⟨x', e1, _, e3⟩ := Yk.fa f f1
        rw [nth_of a1] at e1
        cases e1
        have pe : PE X (.Name y p) (tC (.ref (Y.Z.fa f))) := pe_glob (G.g.gl _ a2) (by rw [G.g.mg]; exact e3) rfl (odd_no a3).1
        refine ⟨by rw [List.length_cons, List.length_cons, i1], fun i x f' ex ef => ?_, fun f' hf => ?_⟩
        · cases i with
          | zero =>
            cases (show some (Expr.Name y p) = some x from ex)
            cases (show some f = some f' from ef)
            exact ⟨pe, rfl⟩
          | succ i => exact i2 i x f' (by simpa using ex) (by simpa using ef)
        · rcases List.mem_cons.mp hf with e | hf
          · rw [e]; exact f1
          · exact i3 f' hf
      · cases h1
section
variable {Y : Gw}
/-- and, or -/
def AO (Y : Gw) (K0 : XK) (X : Cx) (op : PySem.BoolOp) (xs : List Expr) (f : Ev → R O) : Prop := ∀ pos, PE X (.BoolOp op xs pos) (LE Y.Z K0 f) ∧ PW X (.BoolOp op xs pos) (LT Y.Z K0 fun ρ => asT (f ρ))
mutual
theorem sndE (Yk : Gk Y) : ∀ {e : Ev.E} {n : Nat} {c : Cs} {K0 : XK} {X : Cx} {x : Expr}, Gd Y n c K0 X → Fok Y n → chkE Y.nm e c x = true → Both Y K0 X x (evE Y.T Y.C e n)
  | .non, n, c, K0, X, x, G, K, h => by
    simp only [chkE] at h
    split at h
    · split at h
      · exact both G (snd_const pe_non fun _ _ => by simp only [Rp]) rfl
      · cases h
    · cases h
  | .bl b, n, c, K0, X, x, G, K, h => by
    simp only [chkE] at h
    split at h
    · split at h
      · rename_i b'
        have e : b = b' := by simpa using h
        subst e
        exact both G (snd_const pe_bl fun _ _ => by simp only [Rp]) rfl
      · cases h
    · cases h
  | .int i, n, c, K0, X, x, G, K, h => by
    simp only [chkE] at h
    split at h
    · split at h
      · have e : i = _ := of_decide_eq_true h
        subst e
        exact both G (snd_const pe_int fun _ _ => by simp only [Rp]) rfl
      · cases h
    · cases h
  | .str k, n, c, K0, X, x, G, K, h => by
    simp only [chkE] at h
    split at h
    · split at h
      · have e := nth_of h
        rw [← Yk.ok.sts] at e
        exact both G (snd_const pe_str fun _ _ => by simp only [Rp]; exact ⟨_, e, rfl⟩) rfl
      · cases h
    · cases h
  | .abs, n, c, K0, X, x, G, K, h => by
    simp only [chkE] at h
    cases h
  | .var i, n, c, K0, X, x, G, K, h => by
    simp only [chkE] at h
    split at h
    · unfold varB at h
      simp only [Bool.and_eq_true, Bool.not_eq_true'] at h
      obtain ⟨h1, h2, h3⟩ := h
      obtain ⟨d1, d2, _⟩ := odd_no h3
      exact both G (snd_var (pe_var (by rw [G.g.N]; exact nth_of h1) (G.g.vis _ h2) d1 d2)) rfl
    · cases h
  | .con k, n, c, K0, X, x, G, K, h => by
    simp only [chkE] at h
    split at h
    · simp only [Bool.and_eq_true, Bool.not_eq_true'] at h
      obtain ⟨h1, h2, h3⟩ := h
      obtain ⟨d1, d2, _⟩ := odd_no h3
      obtain ⟨d, v, u, e1, e2, e3, e4⟩ := Yk.ok.con k _ (nth_of h1)
      have ee : evE Y.T Y.C (.con k) n = fun ρ => .ok (.d d) ρ := by
        funext ρ
        simp only [evE, e1, okd, R.opt_some]
      rw [ee]
      exact both G (snd_const (pe_glob (G.g.gl _ h2) (by rw [G.g.mg]; exact e2) e3 d1) e4) rfl
    · cases h
  | .bin op a b, n, c, K0, X, x, G, K, h => by
    simp only [chkE] at h
    split at h
    · simp only [Bool.and_eq_true, decide_eq_true_eq] at h
      obtain ⟨h1, h2, h3⟩ := h
      subst h1
      exact both G (snd_bin (sndE Yk G K h2).1 (sndE Yk G K h3).1 (op_bin G.g.K Yk.ok.st op)) rfl
    · cases h
  | .neg a, n, c, K0, X, x, G, K, h => by
    simp only [chkE] at h
    split at h
    · split at h
      · exact both G (snd_neg (sndE Yk G K h).1) rfl
      · cases h
    · cases h
  | .andL es, n, c, K0, X, x, G, K, h => by
    simp only [chkE] at h
    split at h
    · rename_i o xs pos
      simp only [Bool.and_eq_true] at h
      obtain ⟨h1, h2, h3⟩ := h
      rw [isAnd_of h1]
      have z := (sndAO Yk (op := .And) G K h2 h3) pos
      exact ⟨z.1, fun _ => z.2.pt⟩
    · cases h
  | .orL es, n, c, K0, X, x, G, K, h => by
    simp only [chkE] at h
    split at h
    · rename_i o xs pos
      simp only [Bool.and_eq_true] at h
      obtain ⟨h1, h2, h3⟩ := h
      rw [isOr_of h1]
      have z := (sndAO Yk (op := .Or) G K h2 h3) pos
      exact ⟨z.1, fun _ => z.2.pt⟩
    · cases h
  | .not_ a, n, c, K0, X, x, G, K, h => by
    simp only [chkE] at h
    split at h
    · split at h
      · simp only [Bool.and_eq_true] at h
        have z := sndE Yk G K h.1
        exact ⟨snd_notV G.g.K z.1, fun _ => snd_not (z.2 h.2)⟩
      · cases h
    · cases h
  | .cmp op a b, n, c, K0, X, x, G, K, h => by
    simp only [chkE] at h
    split at h
    · split at h
      · simp only [Bool.and_eq_true, isOp, decide_eq_true_eq] at h
        obtain ⟨h1, h2, h3, h4⟩ := h
        subst h1
        have za := sndE Yk G K h3
        have zb := sndE Yk G K h4
        exact ⟨snd_cmp za.1 zb.1 (op_cmp Yk G op) (nosetI h2), fun _ => snd_cmpT za.1 zb.1 (op_cmp Yk G op) (nosetI h2)⟩
      · cases h
    · cases h
  | .chain o1 o2 a b d, n, c, K0, X, x, G, K, h => by
    simp only [chkE] at h
    split at h
    · split at h
      · simp only [Bool.and_eq_true, isOp, decide_eq_true_eq] at h
        obtain ⟨⟨h1, h2⟩, ⟨h3, h4⟩, h5, h6, h7⟩ := h
        subst h1 h2
        have za := sndE Yk G K h5
        have zb := sndE Yk G K h6
        have zd := sndE Yk G K h7
        exact ⟨snd_chain (op_cmp Yk G o1) (op_cmp Yk G o2) za.1 zb.1 zd.1 (nosetI h3) (nosetI h4), fun _ => snd_chainT (op_cmp Yk G o1) (op_cmp Yk G o2) za.1 zb.1 zd.1 (nosetI h3) (nosetI h4)⟩
      · cases h
    · cases h
  | .ite t a b, n, c, K0, X, x, G, K, h => by
    simp only [chkE] at h
    split at h
    · simp only [Bool.and_eq_true] at h
      obtain ⟨h1, h2, h3, h4⟩ := h
      exact ⟨snd_ite ((sndE Yk G K h2).2 h1) (sndE Yk G K h3).1 (sndE Yk G K h4).1, fun z => by cases z⟩
    · cases h
  | .tup es, n, c, K0, X, x, G, K, h => by
    simp only [chkE] at h
    split at h
    · simp only [Bool.and_eq_true, decide_eq_true_eq] at h
      exact both G (snd_tup (sndL Yk G K h.2).pa fun ρ os ρ1 e => by rw [evL_len e]; exact h.1) rfl
    · cases h
  | .lst es, n, c, K0, X, x, G, K, h => by
    simp only [chkE] at h
    split at h
    · simp only [Bool.and_eq_true, decide_eq_true_eq] at h
      exact both G (snd_lst (sndL Yk G K h.2).pa fun ρ os ρ1 e => by rw [evL_len e]; exact h.1) rfl
    · cases h
  | .dnew t, n, c, K0, X, x, G, K, h => by
    simp only [chkE] at h
    cases h
  | .ix a i, n, c, K0, X, x, G, K, h => by
    simp only [chkE] at h
    split at h
    · simp only [Bool.and_eq_true, Bool.not_eq_true'] at h
      obtain ⟨h1, h2, h3⟩ := h
      exact both G (snd_ix (sndE Yk G K h2).1 (sndE Yk G K h3).1 (ix_seqO G.g.K) h1) rfl
    · cases h
  | .sl a lo hi, n, c, K0, X, x, G, K, h => by
    simp only [chkE] at h
    split at h
    · split at h
      · rename_i l hh p2
        simp only [Bool.and_eq_true] at h
        obtain ⟨h1, h2, h3⟩ := h
        have po : ∀ {b : Ev.E} {o : Option Expr}, (∀ y, chkE Y.nm b c y = true → Both Y K0 X y (evE Y.T Y.C b n)) → (match o with | none => isAbs b | some y => !isAbs b && chkE Y.nm b c y) = true →
            PO X o (fun σ H Q => LG Y.Z K0 relI (fun ρ => if isAbs b = true then .ok none ρ else asI (evE Y.T Y.C b n ρ)) σ H Q) := fun {b o} hb q => by
          cases o with
          | none =>
            simp only at q
            simp only [q, if_true]
            exact snd_absent
          | some y =>
            simp only [Bool.and_eq_true, Bool.not_eq_true'] at q
            simp only [q.1, Bool.false_eq_true, if_false]
            exact snd_some (hb y q.2).1
        exact both G (snd_slice G.g.K (sndE Yk G K h1).1 (po (fun y hy => sndE Yk G K hy) h2) (po (fun y hy => sndE Yk G K hy) h3)) rfl
      · cases h
    · cases h
  | .rev a, n, c, K0, X, x, G, K, h => by
    simp only [chkE] at h
    cases h
  | .call f es, n, c, K0, X, x, G, K, h => by
    simp only [chkE] at h
    split at h
    · rename_i g xs kws pos
      split at h
      · rename_i y p
        simp only [Bool.and_eq_true, Bool.not_eq_true', decide_eq_true_eq] at h
        obtain ⟨⟨⟨h1, h2, h3⟩, h4, h5⟩, h6⟩ := h
        have a := sndL Yk G K h6
        have hlen := chkL_len h6
        cases xs with
        | nil =>
          rw [List.length_nil] at hlen
          have : es = [] := List.length_eq_zero_iff.mp hlen.symm
          rw [this] at h5
          cases h5
        | cons e xs =>
          exact both G (snd_call G.g K (nth_of h1) (G.g.gl _ h2) (odd_no h3).1 a.pa a.st fun ρ os ρ1 eg => by rw [evL_len eg, Yk.ar, h4]) rfl
      · cases h
    · cases h
  | .blt b es, n, c, K0, X, x, G, K, h => by
    simp only [chkE] at h
    split at h
    · rename_i g xs kws pos
      split at h
      · split at h
        · rename_i hb
          have eb : b = .sortedSet := by cases b <;> first | rfl | cases hb
          subst eb
          simp only [Bool.and_eq_true] at h
          obtain ⟨h1, h2⟩ := h
          split at h2
          · rename_i z p2 us q
            simp only [Bool.and_eq_true, decide_eq_true_eq] at h2
            obtain ⟨⟨h2, h3⟩, h4⟩ := h2
            have hl := chkL_len h4
            rw [h3] at hl
            match us, hl with
            | [u], _ =>
              obtain ⟨f, pf, ef⟩ := snd1 Yk G K h4
              have st := (sndL Yk G K h4).st
              have hs : isStar u = false := by simpa using st
              have ee : evE Y.T Y.C (.blt .sortedSet es) n = fun ρ => ((f ρ).bind fun o ρ1 => .ok [o] ρ1).bind fun os ρ1 => oko (blt .sortedSet (os.map (rs ρ1))) ρ1 := by
                funext ρ
                simp only [evE]
                rw [ef]
              rw [ee]
              exact both G (snd_sortSet Yk G h1 h2 pf hs) rfl
          · cases h2
        · simp only [Bool.and_eq_true] at h
          obtain ⟨⟨h1, h2⟩, h3⟩ := h
          have a := sndL Yk G K h3
          have hlen := chkL_len h3
          cases xs with
          | nil =>
            rw [← hlen] at h2
            cases b <;> cases h2
          | cons e xs => exact both G (snd_bltAll Yk G h1 (by rw [hlen]; exact h2) a) rfl
      · cases h
    · cases h
  | .isi a t, n, c, K0, X, x, G, K, h => by
    simp only [chkE] at h
    split at h
    · split at h
      · simp only [Bool.and_eq_true, Bool.not_eq_true'] at h
        obtain ⟨⟨⟨h1, h2⟩, h3⟩, h4⟩ := h
        obtain ⟨rfl, g1, m1⟩ := bName_of h1 G Yk (by decide)
        obtain ⟨rfl, g2, m2⟩ := bName_of h2 G Yk (by cases t <;> decide)
        have q : bootBuiltins (tyS t) = some (.type (tyN t)) := by cases t <;> decide +kernel
        exact both G (snd_isi G.g.K (sndE Yk G K h4).1 g1 m1 (by decide +kernel) (by decide) (by decide) g2 m2 q (by cases t <;> decide) (by cases t <;> decide) h3) rfl
      · cases h
    · cases h
  | .app i e, n, c, K0, X, x, G, K, h => by
    simp only [chkE] at h
    split at h
    · split at h
      · simp only [Bool.and_eq_true, Bool.not_eq_true', decide_eq_true_eq] at h
        obtain ⟨⟨⟨⟨h1, h2⟩, h3⟩, h4⟩, h5⟩ := h
        subst h1
        unfold varB at h2
        simp only [Bool.and_eq_true, Bool.not_eq_true'] at h2
        obtain ⟨v1, v2, v3⟩ := h2
        obtain ⟨d1, d2, _⟩ := odd_no v3
        exact both G (snd_app G.g.K (pe_var (by rw [G.g.N]; exact nth_of v1) (G.g.vis _ v2) d1 d2) (sndE Yk G K h5).1 h4 h3) rfl
      · cases h
    · cases h
  | .pop i, n, c, K0, X, x, G, K, h => by
    simp only [chkE] at h
    split at h
    · split at h
      · simp only [Bool.and_eq_true, decide_eq_true_eq] at h
        obtain ⟨⟨h1, h2⟩, h3⟩ := h
        subst h1
        unfold varB at h2
        simp only [Bool.and_eq_true, Bool.not_eq_true'] at h2
        obtain ⟨v1, v2, v3⟩ := h2
        obtain ⟨d1, d2, _⟩ := odd_no v3
        exact both G (snd_pop G.g.K (pe_var (by rw [G.g.N]; exact nth_of v1) (G.g.vis _ v2) d1 d2) h3) rfl
      · cases h
    · cases h
  | .get2 d k e, n, c, K0, X, x, G, K, h => by
    simp only [chkE] at h
    cases h
  | .sdef i k e, n, c, K0, X, x, G, K, h => by
    simp only [chkE] at h
    cases h
  | .comp elt tg k es ifs own, n, c, K0, X, x, G, K, h => by
    simp only [chkE] at h
    split at h
    · rename_i y gs sc pos
      split at h
      · rename_i t it fs
        simp only [Bool.and_eq_true] at h
        obtain ⟨⟨⟨⟨⟨h1, h2⟩, h3⟩, h4⟩, h5⟩, h6⟩ := h
        have it := snd_it Yk G h3 (fun xs hx => sndL Yk G K hx) (fun x hx => snd1 Yk G K hx)
        exact both G (snd_comp G.g.calm (by rw [G.g.N]; exact G.g.nd) it.1 (G.blkOk (blkOk_by h5)) (by unfold ownP; simp [List.map_map, Function.comp_def]) (fun i hi => by simpa using List.all_eq_true.mp h6 i hi)
          (fun s H C cl fp => (sndTg (G.blk s H C cl fp) h2).1) (fun s H C cl fp => sndTs Yk (G.blk s H C cl fp) K h4) (fun s H C cl fp => (sndE Yk (G.blk s H C cl fp) K h1).1) (noSet it.2)) rfl
      · cases h
    · cases h
  | .comp2 elt t1 k1 e1 t2 k2 e2 ifs own, n, c, K0, X, x, G, K, h => by
    simp only [chkE] at h
    split at h
    · rename_i y gs sc pos
      split at h
      · rename_i t it t' it' fs
        simp only [Bool.and_eq_true] at h
        obtain ⟨⟨⟨⟨⟨⟨⟨⟨h1, h2⟩, h3⟩, h4⟩, h5⟩, h6⟩, h7⟩, h8⟩, h9⟩ := h
        have it1 := snd_it Yk G h3 (fun xs hx => sndL Yk G K hx) (fun x hx => snd1 Yk G K hx)
        have it2 := fun (s : Shared) (H : Hp) (C : Addr) (cl : List (Str × Addr)) (fp : List Addr) => snd_it Yk (G.blk (scope := sc) s H C cl fp) h5 (fun xs hx => sndL Yk (G.blk (scope := sc) s H C cl fp) K hx) (fun x hx => snd1 Yk (G.blk (scope := sc) s H C cl fp) K hx)
        have ns : noSetB it' = true := chkIt_ns h5
        exact both G (snd_comp2 G.g.calm (by rw [G.g.N]; exact G.g.nd) it1.1 (G.blkOk (blkOk_by h7)) (by unfold ownP; simp [List.map_map, Function.comp_def]) (fun i hi => by simpa using List.all_eq_true.mp h8 i hi) (fun i hi => by simpa using List.all_eq_true.mp h9 i hi)
          (fun s H C cl fp => (sndTg (G.blk s H C cl fp) h2).1) (fun s H C cl fp => (it2 s H C cl fp).1) (fun s H C cl fp => (sndTg (G.blk s H C cl fp) h4).1) (fun s H C cl fp => sndTs Yk (G.blk s H C cl fp) K h6) (fun s H C cl fp => (sndE Yk (G.blk s H C cl fp) K h1).1) (noSet it1.2) (fun env => noSet (env := env) ns)) rfl
      · cases h
    · cases h
  | .dcomp t k v tg ik es ifs own, n, c, K0, X, x, G, K, h => by
    simp only [chkE] at h
    cases h
  | .told b, n, c, K0, X, x, G, K, h => by
    simp only [chkE] at h
    split at h
    · split at h
      · rename_i y p ps body sc lp
        simp only [Bool.and_eq_true, Bool.not_eq_true'] at h
        obtain ⟨⟨⟨⟨⟨h1, h2, h3⟩, h4⟩, h5⟩, h6⟩, h7⟩ := h
        have ht : Y.nm.told = some y := by
          cases q : Y.nm.told with
          | none => rw [q] at h1; cases h1
          | some z => rw [q] at h1; rw [of_decide_eq_true h1]
        obtain ⟨cd, P, L⟩ := G.lam h4
        have ls := G.lamS (LamX.lamS_by h5)
        have ep := noPar_of h6
        subst ep
        match n, G, K with
        | 0, G, K => exact both G peStuck rfl
        | 1, G, K => exact both G peStuck rfl
        | m + 2, G, K =>
          have K1 : Fok Y (m + 1) := ⟨fun f x e => by
            obtain ⟨a, fd, ps, h1, h2, h3, h4⟩ := K.fn f x e
            exact ⟨a, fd, ps, h1, h2, h3, fun k hk => h4 k (by omega)⟩⟩
          have K2 : Fok Y m := ⟨fun f x e => by
            obtain ⟨a, fd, ps, h1, h2, h3, h4⟩ := K.fn f x e
            exact ⟨a, fd, ps, h1, h2, h3, fun k hk => h4 k (by omega)⟩⟩
          exact both G (snd_told G.g K1 (Yk.tol _ ht) L (G.g.gl _ h2) h3 ls rfl rfl (fun _ _ _ _ _ => rfl) fun A outer s H E' f c' hr => (sndE Yk (G.lamb ls A outer s H E' f c' hr) K2 h7).1) rfl
      · cases h
    · cases h
  | .fns fs a, n, c, K0, X, x, G, K, h => by
    simp only [chkE] at h
    split at h
    · rename_i xs lp k pos
      simp only [Bool.and_eq_true, Bool.not_eq_true', decide_eq_true_eq] at h
      obtain ⟨h1, h2, h3, h4⟩ := h
      obtain ⟨l1, l2, l3⟩ := chkFs_ok Yk G h3
      exact both G (snd_fns G.g.K (pa_refs l1 l2) (sndE Yk G K h4).1 h1 h2 l3) rfl
    · cases h
  | .callv i es, n, c, K0, X, x, G, K, h => by
    simp only [chkE] at h
    split at h
    · rename_i g xs kws pos
      split at h
      · rename_i y p
        simp only [Bool.and_eq_true, decide_eq_true_eq] at h
        obtain ⟨⟨h1, h2⟩, h3⟩ := h
        unfold varB at h1
        simp only [Bool.and_eq_true, Bool.not_eq_true'] at h1
        obtain ⟨v1, v2, v3⟩ := h1
        obtain ⟨d1, d2, _⟩ := odd_no v3
        have a := sndL Yk G K h3
        have hlen := chkL_len h3
        cases xs with
        | nil =>
          rw [List.length_nil] at hlen
          omega
        | cons e xs =>
          exact both G (snd_callv Yk G.g K (by rw [G.g.N]; exact nth_of v1) (G.g.vis _ v2) d1 d2 a.pa a.st fun ρ os ρ1 eg => by rw [evL_len eg, h2]) rfl
      · cases h
    · cases h
theorem sndL (Yk : Gk Y) : ∀ {es : List Ev.E} {n : Nat} {c : Cs} {K0 : XK} {X : Cx} {xs : List Expr}, Gd Y n c K0 X → Fok Y n → chkL Y.nm es c xs = true → ArgsOk Y K0 X xs (evL Y.T Y.C es n)
  | [], n, c, K0, X, xs, G, K, h => by
    simp only [chkL] at h
    cases xs with
    | nil => exact ⟨snd_nil, fun ρ os ρ1 e => by rw [evL_len e]; rfl, rfl⟩
    | cons x xs => cases h
  | e :: es, n, c, K0, X, xs, G, K, h => by
    simp only [chkL] at h
    cases xs with
    | nil => cases h
    | cons x xs =>
      simp only [Bool.and_eq_true, Bool.not_eq_true'] at h
      obtain ⟨h1, h2, h3⟩ := h
      have a := sndL Yk G K h3
      exact ⟨snd_cons (sndE Yk G K h2).1 a.pa h1, fun ρ os ρ1 e => by rw [evL_len e, List.length_cons, List.length_cons, chkL_len h3], by rw [List.all_cons, a.st, h1]; rfl⟩
theorem snd1 (Yk : Gk Y) : ∀ {es : List Ev.E} {n : Nat} {c : Cs} {K0 : XK} {X : Cx} {x : Expr}, Gd Y n c K0 X → Fok Y n → chkL Y.nm es c [x] = true → ∃ f, PE X x (LE Y.Z K0 f) ∧ evL Y.T Y.C es n = fun ρ => (f ρ).bind fun o ρ1 => .ok [o] ρ1
  | [], n, c, K0, X, x, G, K, h => by
    simp only [chkL] at h
    cases h
  | e :: es, n, c, K0, X, x, G, K, h => by
    simp only [chkL, Bool.and_eq_true] at h
    obtain ⟨_, h2, h3⟩ := h
    have e0 : es = [] := List.length_eq_zero_iff.mp (by rw [← chkL_len h3]; rfl)
    subst e0
    exact ⟨_, (sndE Yk G K h2).1, by funext ρ; simp only [evL, R.bind_ok]⟩
theorem sndTs (Yk : Gk Y) : ∀ {es : List Ev.E} {n : Nat} {c : Cs} {K0 : XK} {X : Cx} {xs : List Expr}, Gd Y n c K0 X → Fok Y n → chkTs Y.nm es c xs = true → PTs X xs (LT Y.Z K0 (evTs Y.T Y.C es n))
  | [], n, c, K0, X, xs, G, K, h => by
    simp only [chkTs] at h
    cases xs with
    | nil => exact snd_tests0
    | cons x xs => cases h
  | e :: es, n, c, K0, X, xs, G, K, h => by
    simp only [chkTs] at h
    cases xs with
    | nil => cases h
    | cons x xs =>
      simp only [Bool.and_eq_true] at h
      obtain ⟨h1, h2, h3⟩ := h
      exact snd_tests ((sndE Yk G K h2).2 h1) (sndTs Yk G K h3)
theorem sndAO (Yk : Gk Y) {op : PySem.BoolOp} : ∀ {es : List Ev.E} {n : Nat} {c : Cs} {K0 : XK} {X : Cx} {xs : List Expr}, Gd Y n c K0 X → Fok Y n → chkL Y.nm es c xs = true → xs.all okT = true → AO Y K0 X op xs (evAO Y.T Y.C (stopOf op) es n)
  | [], n, c, K0, X, xs, G, K, h, ht => fun pos => ⟨peStuck, ⟨fun _ _ _ _ _ _ _ ⟨_, _, _, _, _, _, post⟩ => post.elim⟩⟩
  | e :: es, n, c, K0, X, xs, G, K, h, ht => by
    simp only [chkL] at h
    cases xs with
    | nil => cases h
    | cons x xs =>
      simp only [Bool.and_eq_true, Bool.not_eq_true'] at h
      obtain ⟨h1, h2, h3⟩ := h
      rw [List.all_cons, Bool.and_eq_true] at ht
      have z := sndE Yk G K h2
      cases es with
      | nil =>
        have e0 : xs = [] := List.length_eq_zero_iff.mp (chkL_len h3)
        subst e0
        intro pos
        have ee : evAO Y.T Y.C (stopOf op) [e] n = evE Y.T Y.C e n := by
          exact evAO_one
        rw [ee]
        refine ⟨snd_ao1 z.1, ?_⟩
        cases op with
        | And => exact pw_and1 (z.2 ht.1)
        | Or => exact pw_or1 (z.2 ht.1)
      | cons e2 es =>
        cases xs with
        | nil => simp [chkL] at h3
        | cons x2 xs =>
          have w := sndAO Yk (op := op) G K h3 ht.2
          intro pos
          have ee : evAO Y.T Y.C (stopOf op) (e :: e2 :: es) n = fun ρ => onB (stopOf op) (evE Y.T Y.C e n ρ) (evAO Y.T Y.C (stopOf op) (e2 :: es) n) := by
            exact evAO_two
          rw [ee]
          cases op with
          | And => exact ⟨snd_and z.1 (w pos).1, snd_andT (z.2 ht.1) (w pos).2⟩
          | Or => exact ⟨snd_or z.1 (w pos).1, snd_orT (z.2 ht.1) (w pos).2⟩
theorem chkL_len : ∀ {es : List Ev.E} {c : Cs} {xs : List Expr}, chkL Y.nm es c xs = true → xs.length = es.length
  | [], c, xs, h => by
    simp only [chkL] at h
    cases xs with
    | nil => rfl
    | cons x xs => cases h
  | e :: es, c, xs, h => by
    simp only [chkL] at h
    cases xs with
    | nil => cases h
    | cons x xs =>
      simp only [Bool.and_eq_true] at h
      rw [List.length_cons, List.length_cons, chkL_len h.2.2]
end
end
end Ev
/-! Ev18: the look at statements; its soundness. -/
namespace Ev
open PySem PySem.Spec PyProof.Rows L2
/-! ### a list comprehension that is put to a name at once -/
section
variable {n : Nat} {E : XK} {X : Cx} {Z : Wo}
theorem snd_setLc {i : Nat} {y : Str} {py pos spos : Pos} {elt tg iter : Expr} {ifs : List Expr} {scope : Scope} {own : List (Str × Nat)} {ow : List Nat} {gi : Ev → R (List D × List Nat)} {t : Tg} {ft : Ev → R Bool} {fe : Ev → R O} (hc : X.calm = true) (hN : X.N.Nodup) (hy : X.N[i]? = some y) (hyl : X.env.scope.names.lookup y = some .local)
    (hsw : swapsWith (.ListComp elt [⟨tg, iter, ifs, 0⟩] scope pos) (some (.Name y py)) spos.line X.env = pure true) (hi : PI X tg iter (LI Z E gi)) (ok : BlkOk X.N X.env.scope scope own)
    (hw : own.map (·.2) = ow) (hts : ∀ i ∈ slots t, i ∈ ow)
    (hg : ∀ (s : Shared) (H : Hp) (C : Addr) (cl : List (Str × Addr)) (fp : List Addr), PG (X.blk s H scope (compEnvC scope cl C X.env) fp) tg (LGt Z t)) (ht : ∀ (s : Shared) (H : Hp) (C : Addr) (cl : List (Str × Addr)) (fp : List Addr), PTs (X.blk s H scope (compEnvC scope cl C X.env) fp) ifs (LT Z E0 ft))
    (he : ∀ (s : Shared) (H : Hp) (C : Addr) (cl : List (Str × Addr)) (fp : List Addr), PE (X.blk s H scope (compEnvC scope cl C X.env) fp) elt (LE Z E0 fe)) (hs : ∀ x, foldedSetIterable iter X.env x = pure x) :
    PS X (.Assign [.Name y py] (.ListComp elt [⟨tg, iter, ifs, 0⟩] scope pos) spos) (LS Z E [i] fun ρ => ((gi ρ).bind fun p ρ1 => compEnd ow ρ1 p.2 (walkL (compTurn ow ρ1 p.2 t ft fe) p.1 [] (wipe ρ1 ow))).bind fun o ρ1 => nxt (assign ρ1 i o)) := by
  subst hw
  exact psImp (ps_setLc hc hN hy hyl hsw hi ok hg ht he hs) fun D σ H q => snd_comp.lcImp hts (setImp (e := elt) (List.mem_singleton.mpr rfl) D σ H q)
theorem snd_setLc2 {i : Nat} {y : Str} {py pos spos : Pos} {elt tg iter tg1 iter1 : Expr} {ifs1 : List Expr} {scope : Scope} {own : List (Str × Nat)} {ow : List Nat} {gi g2 : Ev → R (List D × List Nat)} {t t2 : Tg} {ft : Ev → R Bool} {fe : Ev → R O} (hc : X.calm = true) (hN : X.N.Nodup) (hy : X.N[i]? = some y) (hyl : X.env.scope.names.lookup y = some .local)
    (hsw : swapsWith (.ListComp elt [⟨tg, iter, [], 0⟩, ⟨tg1, iter1, ifs1, 0⟩] scope pos) (some (.Name y py)) spos.line X.env = pure true) (hi : PI X tg iter (LI Z E gi)) (ok : BlkOk X.N X.env.scope scope own)
    (hw : own.map (·.2) = ow) (hts : ∀ i ∈ slots t, i ∈ ow) (hts2 : ∀ i ∈ slots t2, i ∈ ow)
    (hg : ∀ (s : Shared) (H : Hp) (C : Addr) (cl : List (Str × Addr)) (fp : List Addr), PG (X.blk s H scope (compEnvC scope cl C X.env) fp) tg (LGt Z t))
    (hi1 : ∀ (s : Shared) (H : Hp) (C : Addr) (cl : List (Str × Addr)) (fp : List Addr), PI (X.blk s H scope (compEnvC scope cl C X.env) fp) tg1 iter1 (LI Z E0 g2))
    (hg1 : ∀ (s : Shared) (H : Hp) (C : Addr) (cl : List (Str × Addr)) (fp : List Addr), PG (X.blk s H scope (compEnvC scope cl C X.env) fp) tg1 (LGt Z t2))
    (ht1 : ∀ (s : Shared) (H : Hp) (C : Addr) (cl : List (Str × Addr)) (fp : List Addr), PTs (X.blk s H scope (compEnvC scope cl C X.env) fp) ifs1 (LT Z E0 ft))
    (he : ∀ (s : Shared) (H : Hp) (C : Addr) (cl : List (Str × Addr)) (fp : List Addr), PE (X.blk s H scope (compEnvC scope cl C X.env) fp) elt (LE Z E0 fe)) (hs : ∀ x, foldedSetIterable iter X.env x = pure x) (hs1 : ∀ env x, foldedSetIterable iter1 env x = pure x) :
    PS X (.Assign [.Name y py] (.ListComp elt [⟨tg, iter, [], 0⟩, ⟨tg1, iter1, ifs1, 0⟩] scope pos) spos) (LS Z E [i] fun ρ => ((gi ρ).bind fun p ρ1 => compEnd ow ρ1 p.2 (walkL (compTurn2 ow ρ1 p.2 t g2 (slots t2) fun ρ3 ws2 => compTurn (slots t2) ρ3 ws2 t2 ft fe) p.1 [] (wipe ρ1 ow))).bind fun o ρ1 => nxt (assign ρ1 i o)) := by
  subst hw
  exact psImp (ps_setLc2 (vs1 := slots t2) hc hN hy hyl hsw hi ok hts2 hg (fun _ _ _ _ _ => pts_nil) hi1 hg1 ht1 he hs hs1) fun D σ H q => snd_comp2.lcImp2 hts hts2 (setImp (e := elt) (List.mem_singleton.mpr rfl) D σ H q)
end
/-! ### the look -/
def isCompX : Expr → Bool
  | .ListComp _ _ _ _ => true
  | .SetComp _ _ _ _ => true
  | .DictComp _ _ _ _ _ => true
  | _ => false
theorem swaps_no {x : Expr} {t : Option Expr} {l : Nat} {env : Env} (h : isCompX x = false) : swapsWith x t l env = pure false := by
  cases x <;> first | rfl | (cases h)
/-- whether a comprehension is put to the name at once -/
def swB (c : Cs) (y : Str) (py pos : Pos) (sc : Scope) : Bool := (match c.sc.names.lookup y with | some .local => true | _ => false) && (py.line == pos.line) && !(sc.names.any fun (n, k) => n == y && (k == .local || k == .cell))
theorem swaps_is {c : Cs} {y : Str} {py pos : Pos} {elt : Expr} {gs : List Comprehension} {sc : Scope} {l : Nat} {env : Env} (hk : env.scope.kind = .function) (he : env.scope = c.sc) : swapsWith (.ListComp elt gs sc pos) (some (.Name y py)) l env = pure (swB c y py pos sc) := by
  have hb : env.blockKind = .function := by unfold Env.blockKind; rw [hk]; rfl
  have ky : env.kindOf y = c.sc.names.lookup y := by unfold Env.kindOf; rw [he]
  unfold swapsWith swB
  simp only [hb, ky, Expr.pos]
  congr 1
  cases c.sc.names.lookup y with
  | none => simp
  | some k => cases k <;> simp
/-- which names the stores of a pair are swapped with -/
def swapC (sc : Scope) (ts vs : List Expr) : Option (Option (List Str)) :=
  if (!(ts.length == 2 || ts.length == 3) || vs.length != ts.length) = true then some none
  else if (vs.any isStar) = true then some none
  else if ((ts.filterMap fun | .Name id pos => if sc.names.lookup id == some .local && pos.line == (ts.head?.map (·.pos.line)).getD 0 then some id else none | _ => none).length != ts.length ||
    (ts.filterMap fun | .Name id pos => if sc.names.lookup id == some .local && pos.line == (ts.head?.map (·.pos.line)).getD 0 then some id else none | _ => none).eraseDups.length != (ts.filterMap fun | .Name id pos => if sc.names.lookup id == some .local && pos.line == (ts.head?.map (·.pos.line)).getD 0 then some id else none | _ => none).length) = true then some none
  else if (vs.all (foldedForSure 8)) = true then some none
  else if (vs.all (constantsAlone 8)) = true then none
  else some (some (ts.filterMap fun | .Name id pos => if sc.names.lookup id == some .local && pos.line == (ts.head?.map (·.pos.line)).getD 0 then some id else none | _ => none))
theorem swap_is {sc : Scope} {ts vs : List Expr} {env : Env} {k k2 : Nat} {p p2 : Pos} {r : Option (List Str)} (hk : env.scope.kind = .function) (he : env.scope = sc) (h : swapC sc ts vs = some r) : swappedStores [.Tuple ts k p] (.Tuple vs k2 p2) env = pure r := by
  have hb : env.blockKind = .function := by unfold Env.blockKind; rw [hk]; rfl
  have ky : ∀ y, env.kindOf y = sc.names.lookup y := fun y => by unfold Env.kindOf; rw [he]
  have hst : (vs.any fun | .Starred .. => true | _ => false) = vs.any isStar := by
    congr 1
  unfold swapC at h
  unfold swappedStores
  simp only [hb, ky]
  by_cases h1 : (!(ts.length == 2 || ts.length == 3) || vs.length != ts.length) = true
  · rw [if_pos h1] at h
    cases h
    have : (!(ts.length == 2 || ts.length == 3) || vs.length != ts.length || (ScopeKind.function != ScopeKind.function)) = true := by rw [h1]; rfl
    rw [if_pos this]
  · rw [if_neg h1] at h
    have : ¬ (!(ts.length == 2 || ts.length == 3) || vs.length != ts.length || (ScopeKind.function != ScopeKind.function)) = true := by simpa using h1
    rw [if_neg this]
    by_cases h2 : (vs.any isStar) = true
    · rw [if_pos h2] at h
      cases h
      exact (if_pos (hst.trans h2)).trans rfl
    · rw [if_neg h2] at h
      refine (if_neg (fun z => h2 (hst.symm.trans z))).trans ?_
      split at h
      · rename_i h3
        cases h
        exact (if_pos h3).trans rfl
      · rename_i h3
        refine (if_neg h3).trans ?_
        split at h
        · rename_i h4
          cases h
          exact (if_pos h4).trans rfl
        · rename_i h4
          refine (if_neg h4).trans ?_
          split at h
          · cases h
          · rename_i h5
            cases h
            exact (if_neg h5).trans rfl
end Ev
/-! Ev19: the look at statements; its soundness. -/
namespace Ev
open PySem PySem.Spec PyProof.Rows L2
def isTupX : Expr → Bool
  | .Tuple _ _ _ => true
  | _ => false
/-- plain names in slots, none twice -/
def chkNs (c : Cs) : List Nat → List Expr → Bool
  | [], xs => xs.isEmpty
  | i :: is, xs => match xs with
    | [] => false
    | x :: xs => (match x with | .Name y _ => stoB c i y | _ => false) && !is.contains i && chkNs c is xs
def augOp : Bop → Operator → Bool
  | .add, .Add => true
  | .sub, .Sub => true
  | _, _ => false
def isLoc (c : Cs) (y : Str) : Bool := match c.sc.names.lookup y with
  | some .local => true
  | _ => false
def setOk (c : Cs) (y : Str) (py : Pos) (x : Expr) : Bool := match x with
  | .ListComp _ _ sc p => !swB c y py p sc || isLoc c y
  | .SetComp _ _ _ _ => false
  | .DictComp _ _ _ _ _ => false
  | _ => true
mutual
def chkS (nm : Nm) : S → Cs → Stmt → Bool
  | .ex e, c, st => match st with
    | .Expr x _ => !isCompX x && chkE nm e c x
    | _ => false
  | .ret e, c, st => match st with
    | .Return (some x) _ => chkE nm e c x
    | _ => false
  | .retN, _, st => match st with
    | .Return none _ => true
    | _ => false
  | .set i e, c, st => match st with
    | .Assign [.Name y py] x _ => stoB c i y && chkE nm e c x && setOk c y py x
    | _ => false
  | .setT ts e, c, st => match st with
    | .Assign [.Tuple xs _ _] x _ => chkTgs c ts xs && chkE nm e c x && !isTupX x
    | _ => false
  | .par is es, c, st => match st with
    | .Assign [.Tuple ts _ _] (.Tuple xs _ _) _ => chkNs c is ts && chkL nm es c xs && decide (is.length = es.length) && decide (is.length ≤ 1000) && (match swapC c.sc ts xs with
      | none => false
      | some none => true
      | some (some ns) => decide (ns.length = is.length) && ts.all (fun t => match t with | .Name y _ => isLoc c y | _ => false) && decide (ns = ts.filterMap fun t => match t with | .Name y _ => some y | _ => none) && decide (is.length = 2 ∨ is.length = 3))
    | _ => false
  | .setIx i k e, c, st => match st with
    | .Assign [.Subscript (.Name y _) ke _] x _ => varB c i y && chkE nm k c ke && chkE nm e c x && !isSlice ke
    | _ => false
  | .aug i op e, c, st => match st with
    | .AugAssign (.Name y _) o x _ => stoB c i y && augOp op o && chkE nm e c x
    | _ => false
  | .augIx _ _ _ _, _, _ => false
  | .ite t a b, c, st => match st with
    | .If x xs ys _ => okT x && chkE nm t c x && chkB nm a c xs && chkB nm b c ys
    | _ => false
  | .for_ tg k es b, c, st => match st with
    | .For t it xs [] _ => chkTg c tg t && chkIt k c t it (fun xs => chkL nm es c xs) && chkB nm b c xs
    | _ => false
  | .while_ t b, c, st => match st with
    | .While x xs [] _ => okT x && chkE nm t c x && chkB nm b c xs
    | _ => false
  | .raise k, c, st => match st with
    | .Raise (some (.Call (.Name y _) [.Constant (.str _) _ _] [] _)) none _ => nth nm.exs k y && (glB c y && !odd y)
    | _ => false
  | .pass, _, st => match st with
    | .Pass _ => true
    | .Expr (.Constant (.str _) _ _) _ => true
    | _ => false
  | .brk, _, st => match st with
    | .Break _ => true
    | _ => false
  | .cont, _, st => match st with
    | .Continue _ => true
    | _ => false
termination_by structural s => s
def chkB (nm : Nm) : List S → Cs → List Stmt → Bool
  | [], _, xs => xs.isEmpty
  | s :: ss, c, xs => match xs with
    | [] => false
    | x :: xs => chkS nm s c x && chkB nm ss c xs
termination_by structural ss => ss
end
/-- the context of a def's body -/
structure Gs (Y : Gw) (n : Nat) (c : Cs) (E : XK) (X : Cx) : Prop where
  gd : Gd Y n c E X
  sc : X.env.scope = c.sc
  fn : c.sc.kind = .function
  po : PassesOwn (model X.prog X.w) X.A X.env X.xe
  tk : Takes X (fun cls d _ H => E cls d H)
section
variable {Y : Gw} {n : Nat} {c : Cs} {K0 : XK} {X : Cx} {A : List Nat}
theorem sto_of {i : Nat} {y : Str} (G : Gd Y n c K0 X) (h : stoB c i y = true) : X.N[i]? = some y ∧ L2.Loc X.env.scope y ∧ (X.fn y = true ∨ X.env.scope.names.lookup y = some .local) := by
  unfold stoB at h
  simp only [Bool.and_eq_true, Bool.not_eq_true'] at h
  obtain ⟨h1, h2, _⟩ := h
  obtain ⟨l1, l2⟩ := G.g.loc y h2
  exact ⟨by rw [G.g.N]; exact nth_of h1, l1, l2⟩
theorem var_pe {i : Nat} {y : Str} {p : Pos} (G : Gd Y n c K0 X) (h : varB c i y = true) : PE X (.Name y p) (tVar i) := by
  unfold varB at h
  simp only [Bool.and_eq_true, Bool.not_eq_true'] at h
  obtain ⟨v1, v2, v3⟩ := h
  obtain ⟨d1, d2, _⟩ := odd_no v3
  exact pe_var (by rw [G.g.N]; exact nth_of v1) (G.g.vis _ v2) d1 d2
theorem chkNs_ok (G : Gd Y n c K0 X) : ∀ {is : List Nat} {ts : List Expr}, chkNs c is ts = true → PGs X ts (gAll is) ∧ (assignEach ts X.env).length = is.length ∧ (assignEach ts X.env).findIdx? (·.1) = none ∧ ts.length = is.length
  | [], ts, h => by
    simp only [chkNs] at h
    cases ts with
    | nil => exact ⟨gall_nil, rfl, rfl, rfl⟩
    | cons x xs => cases h
  | i :: is, ts, h => by
    simp only [chkNs] at h
    cases ts with
    | nil => cases h
    | cons x xs =>
      simp only [Bool.and_eq_true] at h
      obtain ⟨⟨h1, _⟩, h2⟩ := h
      obtain ⟨b1, b2, b3, b4⟩ := chkNs_ok G h2
      split at h1
      · rename_i y p
        obtain ⟨s1, s2, s3⟩ := sto_of G h1
        refine ⟨gall_cons (pg_name (by rw [G.g.N]; exact G.g.nd) s1 s2 s3) b1 rfl, by simp only [assignEach, List.length_cons, b2], by simp [assignEach, List.findIdx?_cons, b3], by simp only [List.length_cons, b4]⟩
      · cases h1
theorem isLoc_of {y : Str} (h : isLoc c y = true) : c.sc.names.lookup y = some .local := by
  unfold isLoc at h
  split at h
  · assumption
  · cases h
theorem snd_par {is : List Nat} {es : List Ev.E} {ts xs : List Expr} {kt k2 : Nat} {pt pt2 pos : Pos} (Yk : Gk Y) (G : Gs Y n c K0 X) (K : Fok Y n) (h1 : chkNs c is ts = true) (h2 : chkL Y.nm es c xs = true) (h3 : is.length = es.length) (h4 : is.length ≤ 1000)
    (h5 : (match swapC c.sc ts xs with
      | none => false
      | some none => true
      | some (some ns) => decide (ns.length = is.length) && ts.all (fun t => match t with | .Name y _ => isLoc c y | _ => false) && decide (ns = ts.filterMap fun t => match t with | .Name y _ => some y | _ => none) && decide (is.length = 2 ∨ is.length = 3)) = true) :
    PS X (.Assign [.Tuple ts kt pt] (.Tuple xs k2 pt2) pos) (LS Y.Z K0 is (parF is (evL Y.T Y.C es n))) := by
  have a := sndL Yk G.gd K h2
  obtain ⟨b1, b2, b3, b4⟩ := chkNs_ok G.gd h1
  have hN : X.N.Nodup := by rw [G.gd.g.N]; exact G.gd.g.nd
  have hk : X.env.scope.kind = .function := by rw [G.sc]; exact G.fn
  have hl : ∀ ρ os ρ1, evL Y.T Y.C es n ρ = .ok os ρ1 → os.length = is.length := fun ρ os ρ1 e => by rw [evL_len e, h3]
  cases q : swapC c.sc ts xs with
  | none => rw [q] at h5; cases h5
  | some r =>
    have sw := fun (k k2 : Nat) (p p2 : Pos) => swap_is (k := k) (k2 := k2) (p := p) (p2 := p2) hk G.sc q
    cases r with
    | none => exact snd_parG G.gd.g.K hl h4 G.gd.g.calm b1 b2 b3 a.pa rfl (sw kt k2 pt pt2) rfl
    | some ns =>
      rw [q] at h5
      simp only [Bool.and_eq_true, decide_eq_true_eq] at h5
      obtain ⟨⟨⟨g1, g2⟩, g3⟩, g4⟩ := h5
      have lx := chkL_len h2
      rcases g4 with g4 | g4
      · match is, ts, xs, g4, b4, h3, lx, h1, g2, g3 with
        | [i, j], [t1, t2], [x1, x2], _, _, _, _, h1, g2, g3 =>
          simp only [chkNs, Bool.and_eq_true] at h1
          obtain ⟨⟨u1, u2⟩, ⟨v1, v2⟩, _⟩ := h1
          cases t1 with
          | Name y1 q1 =>
            cases t2 with
            | Name y2 q2 =>
              simp only [List.all_cons, List.all_nil, Bool.and_true, Bool.and_eq_true] at g2
              have e3 : ns = [y1, y2] := g3
              subst e3
              obtain ⟨s1, _, _⟩ := sto_of G.gd u1
              obtain ⟨s2, _, _⟩ := sto_of G.gd v1
              have nij : i ≠ j := by simpa using u2
              exact snd_par2 hl G.gd.g.calm hN s1 s2 nij (by rw [G.sc]; exact isLoc_of g2.1) (by rw [G.sc]; exact isLoc_of g2.2) a.pa (sw kt k2 pt pt2)
            | _ => cases v1
          | _ => cases u1
      · match is, ts, xs, g4, b4, h3, lx, h1, g2, g3 with
        | [i, j, l], [t1, t2, t3], [x1, x2, x3], _, _, _, _, h1, g2, g3 =>
          simp only [chkNs, Bool.and_eq_true] at h1
          obtain ⟨⟨u1, u2⟩, ⟨v1, v2⟩, ⟨w1, w2⟩, _⟩ := h1
          cases t1 with
          | Name y1 q1 =>
            cases t2 with
            | Name y2 q2 =>
              cases t3 with
              | Name y3 q3 =>
                simp only [List.all_cons, List.all_nil, Bool.and_true, Bool.and_eq_true] at g2
                have e3 : ns = [y1, y2, y3] := g3
                subst e3
                obtain ⟨s1, _, _⟩ := sto_of G.gd u1
                obtain ⟨s2, _, _⟩ := sto_of G.gd v1
                obtain ⟨s3, _, _⟩ := sto_of G.gd w1
                have n1 : i ≠ j ∧ i ≠ l := by simpa using u2
                have n2 : j ≠ l := by simpa using v2
                exact snd_par3 hl G.gd.g.calm hN s1 s2 s3 n1.1 n1.2 n2 (by rw [G.sc]; exact isLoc_of g2.1) (by rw [G.sc]; exact isLoc_of g2.2.1) (by rw [G.sc]; exact isLoc_of g2.2.2) a.pa (sw kt k2 pt pt2)
              | _ => cases w1
            | _ => cases v1
          | _ => cases u1
end
end Ev
/-! Ev20: soundness of the look at statements. -/
namespace Ev
open PySem PySem.Spec PyProof.Rows L2
section
variable {Y : Gw} {n : Nat} {c : Cs} {K0 : XK} {X : Cx} {A : List Nat}
/-- name = value -/
theorem snd_setAll {i : Nat} {e : Ev.E} {y : Str} {x : Expr} {py pos : Pos} (Yk : Gk Y) (G : Gs Y n c K0 X) (K : Fok Y n) (h1 : stoB c i y = true) (h2 : chkE Y.nm e c x = true) (h3 : setOk c y py x = true) : PS X (.Assign [.Name y py] x pos) (LS Y.Z K0 [i] fun ρ => (evE Y.T Y.C e n ρ).bind fun o ρ1 => nxt (assign ρ1 i o)) := by
  obtain ⟨s1, s2, s3⟩ := sto_of G.gd h1
  have hN : X.N.Nodup := by rw [G.gd.g.N]; exact G.gd.g.nd
  have hk : X.env.scope.kind = .function := by rw [G.sc]; exact G.fn
  by_cases hc : isCompX x = true
  · cases x with
    | ListComp elt gs sc p =>
      have sw := swaps_is (c := c) (y := y) (py := py) (pos := p) (elt := elt) (gs := gs) (sc := sc) (l := pos.line) hk G.sc
      cases q : swB c y py p sc with
      | false =>
        rw [q] at sw
        exact snd_set hN s1 s2 s3 (sndE Yk G.gd K h2).1 sw
      | true =>
        rw [q] at sw
        simp only [setOk, q, Bool.not_true, Bool.false_or] at h3
        have hl := isLoc_of h3
        rw [← G.sc] at hl
        have G' := G.gd
        cases e with
        | comp elt' tg k es ifs own =>
          simp only [chkE] at h2
          split at h2
          · rename_i t it fs
            simp only [Bool.and_eq_true] at h2
            obtain ⟨⟨⟨⟨⟨g1, g2⟩, g3⟩, g4⟩, g5⟩, g6⟩ := h2
            have it := snd_it Yk G' g3 (fun xs hx => sndL Yk G' K hx) (fun x hx => snd1 Yk G' K hx)
            exact snd_setLc G'.g.calm hN s1 hl sw it.1 (G'.blkOk (blkOk_by g5)) (by unfold ownP; simp [List.map_map, Function.comp_def]) (fun i hi => by simpa using List.all_eq_true.mp g6 i hi)
              (fun s H C cl fp => (sndTg (G'.blk s H C cl fp) g2).1) (fun s H C cl fp => sndTs Yk (G'.blk s H C cl fp) K g4) (fun s H C cl fp => (sndE Yk (G'.blk s H C cl fp) K g1).1) (noSet it.2)
          · cases h2
        | comp2 elt' t1 k1 e1 t2 k2 e2 ifs own =>
          simp only [chkE] at h2
          split at h2
          · rename_i t it t' it' fs
            simp only [Bool.and_eq_true] at h2
            obtain ⟨⟨⟨⟨⟨⟨⟨⟨g1, g2⟩, g3⟩, g4⟩, g5⟩, g6⟩, g7⟩, g8⟩, g9⟩ := h2
            have it1 := snd_it Yk G' g3 (fun xs hx => sndL Yk G' K hx) (fun x hx => snd1 Yk G' K hx)
            have it2 := fun (s : Shared) (H : Hp) (C : Addr) (cl : List (Str × Addr)) (fp : List Addr) => snd_it Yk (G'.blk (scope := sc) s H C cl fp) g5 (fun xs hx => sndL Yk (G'.blk (scope := sc) s H C cl fp) K hx) (fun x hx => snd1 Yk (G'.blk (scope := sc) s H C cl fp) K hx)
            exact snd_setLc2 G'.g.calm hN s1 hl sw it1.1 (G'.blkOk (blkOk_by g7)) (by unfold ownP; simp [List.map_map, Function.comp_def]) (fun i hi => by simpa using List.all_eq_true.mp g8 i hi) (fun i hi => by simpa using List.all_eq_true.mp g9 i hi)
              (fun s H C cl fp => (sndTg (G'.blk s H C cl fp) g2).1) (fun s H C cl fp => (it2 s H C cl fp).1) (fun s H C cl fp => (sndTg (G'.blk s H C cl fp) g4).1) (fun s H C cl fp => sndTs Yk (G'.blk s H C cl fp) K g6) (fun s H C cl fp => (sndE Yk (G'.blk s H C cl fp) K g1).1) (noSet it1.2) (fun env => noSet (env := env) (chkIt_ns g5))
          · cases h2
        | _ => simp only [chkE] at h2; cases h2
    | SetComp _ _ _ _ => cases h3
    | DictComp _ _ _ _ _ => cases h3
    | _ => cases hc
  · exact snd_set hN s1 s2 s3 (sndE Yk G.gd K h2).1 (swaps_no (by simpa using hc))
theorem aug_of {op : Bop} {o : Operator} (h : augOp op o = true) : ∃ g : Int → Int → Int, PIp X o (ipI g) ∧ ∀ a b z, augI op a b = some z → z = g a b := by
  cases op <;> cases o <;> first | (cases h; done) | skip
  · exact ⟨_, ip_add, fun a b z e => by simp only [augI, Option.some.injEq] at e; exact e.symm⟩
  · exact ⟨_, ip_sub, fun a b z e => by simp only [augI, Option.some.injEq] at e; exact e.symm⟩
theorem swSole {t x : Expr} {l : Nat} {env : Env} (h : (match t with | .Name _ _ => false | _ => true) = true) : swapsWithSole [t] x l env = pure false := by
  show swapsWith x (some t) l env = pure false
  by_cases hc : isCompX x = true
  · cases x <;> first | (cases hc; done) | (cases t <;> first | rfl | (cases h))
  · exact swaps_no (by simpa using hc)
mutual
theorem sndS (Yk : Gk Y) : ∀ {s : S} {n : Nat} {c : Cs} {K0 : XK} {X : Cx} {st : Stmt} {A : List Nat}, Gs Y n c K0 X → Fok Y n → chkS Y.nm s c st = true → (∀ i ∈ sets s, i ∈ A) → PS X st (LS Y.Z K0 A (evS Y.T Y.C s n))
  | .ex e, n, c, K0, X, st, A, G, K, h, hA => by
    simp only [chkS] at h
    split at h
    · simp only [Bool.and_eq_true, Bool.not_eq_true'] at h
      exact snd_ex (sndE Yk G.gd K h.2).1 (swaps_no h.1)
    · cases h
  | .ret e, n, c, K0, X, st, A, G, K, h, hA => by
    simp only [chkS] at h
    split at h
    · exact snd_ret (sndE Yk G.gd K h).1
    · cases h
  | .retN, n, c, K0, X, st, A, G, K, h, hA => by
    simp only [chkS] at h
    split at h
    · exact snd_retN
    · cases h
  | .set i e, n, c, K0, X, st, A, G, K, h, hA => by
    simp only [chkS] at h
    split at h
    · simp only [Bool.and_eq_true] at h
      obtain ⟨⟨h1, h2⟩, h3⟩ := h
      exact PS.more (snd_setAll Yk G K h1 h2 h3) fun j hj => hA j (by simpa [sets] using hj)
    · cases h
  | .setT ts e, n, c, K0, X, st, A, G, K, h, hA => by
    simp only [chkS] at h
    split at h
    · rename_i xs k p x pos
      simp only [Bool.and_eq_true, Bool.not_eq_true'] at h
      obtain ⟨⟨h1, h2⟩, h3⟩ := h
      have hg : PG X (.Tuple xs k p) (LGt Y.Z (.tp ts)) := (sndTg G.gd (t := .tp ts) (x := .Tuple xs k p) (by simp only [chkTg]; exact h1)).1
      refine PS.more (snd_setT (sndE Yk G.gd K h2).1 hg (swSole rfl) ?_ rfl) hA
      cases x <;> first | rfl | (cases h3)
    · cases h
  | .par is es, n, c, K0, X, st, A, G, K, h, hA => by
    simp only [chkS] at h
    split at h
    · simp only [Bool.and_eq_true, decide_eq_true_eq] at h
      obtain ⟨⟨⟨⟨h1, h2⟩, h3⟩, h4⟩, h5⟩ := h
      exact PS.more (snd_par Yk G K h1 h2 h3 h4 h5) hA
    · cases h
  | .setIx i k e, n, c, K0, X, st, A, G, K, h, hA => by
    simp only [chkS] at h
    split at h
    · simp only [Bool.and_eq_true, Bool.not_eq_true'] at h
      obtain ⟨⟨⟨h1, h2⟩, h3⟩, h4⟩ := h
      exact snd_setIx (var_pe G.gd h1) (sndE Yk G.gd K h3).1 (sndE Yk G.gd K h2).1 h4 (swSole rfl)
    · cases h
  | .aug i op e, n, c, K0, X, st, A, G, K, h, hA => by
    simp only [chkS] at h
    split at h
    · simp only [Bool.and_eq_true] at h
      obtain ⟨⟨h1, h2⟩, h3⟩ := h
      obtain ⟨s1, s2, s3⟩ := sto_of G.gd h1
      obtain ⟨g, g1, g2⟩ := aug_of (X := X) h2
      exact PS.more (snd_aug g1 g2 (by rw [G.gd.g.N]; exact G.gd.g.nd) s1 s2 s3 (sndE Yk G.gd K h3).1) fun j hj => hA j (by simpa [sets] using hj)
    · cases h
  | .augIx i k op e, n, c, K0, X, st, A, G, K, h, hA => by
    simp only [chkS] at h
    cases h
  | .ite t a b, n, c, K0, X, st, A, G, K, h, hA => by
    simp only [chkS] at h
    split at h
    · simp only [Bool.and_eq_true] at h
      obtain ⟨⟨⟨h1, h2⟩, h3⟩, h4⟩ := h
      exact snd_if ((sndE Yk G.gd K h2).2 h1) (sndB Yk G K h3 fun i hi => hA i (by simp only [sets]; exact List.mem_append_left _ hi)) (sndB Yk G K h4 fun i hi => hA i (by simp only [sets]; exact List.mem_append_right _ hi))
    · cases h
  | .for_ tg k es b, n, c, K0, X, st, A, G, K, h, hA => by
    simp only [chkS] at h
    split at h
    · simp only [Bool.and_eq_true] at h
      obtain ⟨⟨h1, h2⟩, h3⟩ := h
      have it := snd_it Yk G.gd h2 (fun xs hx => sndL Yk G.gd K hx) (fun x hx => snd1 Yk G.gd K hx)
      exact PS.more (snd_for G.po G.gd.g.calm it.1 (sndTg G.gd h1).1 (sndB (A := setss b) Yk G K h3 fun i hi => hi) rfl (noSet it.2)) hA
    · cases h
  | .while_ t b, n, c, K0, X, st, A, G, K, h, hA => by
    simp only [chkS] at h
    split at h
    · simp only [Bool.and_eq_true] at h
      obtain ⟨⟨h1, h2⟩, h3⟩ := h
      exact snd_while G.po ((sndE Yk G.gd K h2).2 h1) (sndB Yk G K h3 fun i hi => hA i hi)
    · cases h
  | .raise k, n, c, K0, X, st, A, G, K, h, hA => by
    simp only [chkS] at h
    split at h
    · simp only [Bool.and_eq_true, Bool.not_eq_true'] at h
      obtain ⟨h1, h2, h3⟩ := h
      obtain ⟨C, e⟩ := Yk.exc k _ (nth_of h1)
      exact snd_raise G.gd.g.K G.gd.g.mg G.gd.g.calm G.tk e (G.gd.g.gl _ h2) (odd_no h3).1
    · cases h
  | .pass, n, c, K0, X, st, A, G, K, h, hA => by
    simp only [chkS] at h
    split at h
    · exact snd_pass
    · exact snd_doc
    · cases h
  | .brk, n, c, K0, X, st, A, G, K, h, hA => by
    simp only [chkS] at h
    split at h
    · exact snd_brk
    · cases h
  | .cont, n, c, K0, X, st, A, G, K, h, hA => by
    simp only [chkS] at h
    split at h
    · exact snd_cont
    · cases h
theorem sndB (Yk : Gk Y) : ∀ {ss : List S} {n : Nat} {c : Cs} {K0 : XK} {X : Cx} {sts : List Stmt} {A : List Nat}, Gs Y n c K0 X → Fok Y n → chkB Y.nm ss c sts = true → (∀ i ∈ setss ss, i ∈ A) → PSs X sts (LS Y.Z K0 A (evB Y.T Y.C ss n))
  | [], n, c, K0, X, sts, A, G, K, h, hA => by
    simp only [chkB] at h
    cases sts with
    | nil => exact snd_bnil
    | cons x xs => cases h
  | s :: ss, n, c, K0, X, sts, A, G, K, h, hA => by
    simp only [chkB] at h
    cases sts with
    | nil => cases h
    | cons x xs =>
      simp only [Bool.and_eq_true] at h
      exact snd_bcons (sndS Yk G K h.1 fun i hi => hA i (by simp only [setss]; exact List.mem_append_left _ hi)) (sndB Yk G K h.2 fun i hi => hA i (by simp only [setss]; exact List.mem_append_right _ hi))
end
end
end Ev
/-! Ev21: a def runs. -/
namespace Ev
open PySem PySem.Spec PyProof.Rows L2
section
variable {Z : Wo} {E : XK} {σ σ' : L2.St} {F F' : Fz} {H H' : Hp} {ρ ρ' ρ2 args r : Ev} {N : List Str} {vs : List V} {k : Nat}
theorem start_in {i : Nat} (h : i < vs.length) : (L2.start N vs)[i]? = (vs.map some)[i]? := by
  unfold L2.start
  rw [List.getElem?_append_left (by rw [List.length_map]; exact h)]
theorem slot_in {i : Nat} {w : W} (h : (args ++ List.replicate k none)[i]? = some (some w)) : i < args.length ∧ args[i]? = some (some w) := by
  rcases Nat.lt_or_ge i args.length with hl | hl
  · rw [List.getElem?_append_left hl] at h
    exact ⟨hl, h⟩
  · rw [List.getElem?_append_right hl] at h
    obtain ⟨h1, h2⟩ := List.getElem?_eq_some_iff.mp h
    rw [List.getElem_replicate] at h2
    cases h2
theorem own_start (hl : args.length = vs.length) (b : Addr) : Own (L2.start N vs) (args ++ List.replicate k none) b ↔ Own (vs.map some) args b := by
  constructor
  · rintro ⟨i, w, e, ho, es⟩
    obtain ⟨h1, h2⟩ := slot_in e
    rw [start_in (by omega)] at es
    exact own_of h2 ho es
  · rintro ⟨i, w, e, ho, es⟩
    have h1 := (List.getElem?_eq_some_iff.mp e).1
    refine ⟨i, w, by rw [List.getElem?_append_left h1]; exact e, ho, ?_⟩
    rw [start_in (by omega)]
    exact es
/-- the state at a def's entry -/
theorem start_ok (s : Sta Z F H (vs.map some) args) (hl : args.length = vs.length) (hN : N.length = args.length + k) : Sta Z F H (L2.start N vs) (args ++ List.replicate k none) := by
  refine ⟨?_, fun i w e => ?_, fun i j wi wj a ei ej hi hj si sj => ?_, s.tabs, s.ft⟩
  · unfold L2.start
    rw [List.length_append, List.length_append, List.length_map, List.length_replicate, List.length_replicate]
    omega
  · obtain ⟨h1, h2⟩ := slot_in e
    rw [start_in (by omega)]
    exact s.rep i w h2
  · obtain ⟨h1, h2⟩ := slot_in ei
    obtain ⟨h3, h4⟩ := slot_in ej
    rw [start_in (by omega)] at si sj
    exact s.inj _ _ _ _ _ h2 h4 hi hj si sj
/-- what the caller gets back of its slots -/
theorem outs_ok : ∀ {args ρ r : Ev}, outs args.length args ρ = some r → r.length = args.length ∧ (∀ (i : Nat) (w : W), r[i]? = some (some w) → isP w = true ∧ ρ[i]? = some (some w) ∧ ∃ w0, args[i]? = some (some w0) ∧ isP w0 = true) ∧
    ∀ (i : Nat) (w0 : W), args[i]? = some (some w0) → isP w0 = true → ∃ w, r[i]? = some (some w)
  | [], ρ, r, h => by
    simp only [List.length_nil, outs, Option.some.injEq] at h
    subst h
    exact ⟨rfl, fun i w e => by simp at e, fun i w0 e => by simp at e⟩
  | a :: args, ρ, r, h => by
    cases ρ with
    | nil => simp [outs] at h
    | cons u ρ =>
      simp only [List.length_cons, outs] at h
      obtain ⟨w, e1, h⟩ := Option.bind_eq_some_iff.mp h
      obtain ⟨r', e2, rfl⟩ := Option.map_eq_some_iff.mp h
      obtain ⟨i1, i2, i3⟩ := outs_ok e2
      -- the first
      have hd : (∀ x, w = some x → isP x = true ∧ u = some x ∧ ∃ w0, a = some w0 ∧ isP w0 = true) ∧ ∀ w0, a = some w0 → isP w0 = true → ∃ x, w = some x := by
        split at e1
        · split at e1
          · cases e1
            exact ⟨fun x e => by cases e; exact ⟨rfl, rfl, _, rfl, rfl⟩, fun w0 e _ => ⟨_, rfl⟩⟩
          · cases e1
        · split at e1
          · split at e1
            · rename_i ht
              have ht := eq_of_beq ht
              subst ht
              cases e1
              exact ⟨fun x e => by cases e; exact ⟨rfl, rfl, _, rfl, rfl⟩, fun w0 e _ => ⟨_, rfl⟩⟩
            · cases e1
          · cases e1
        · rename_i n1 n2
          cases e1
          refine ⟨fun x e => (by cases e), fun w0 e hp => ?_⟩
          subst e
          cases w0 with
          | d x => cases hp
          | F f => cases hp
          | L p xs =>
            have hp : p = true := hp
            subst hp
            exact (n1 _ rfl).elim
          | M p t kvs =>
            have hp : p = true := hp
            subst hp
            exact (n2 _ _ rfl).elim
      refine ⟨by rw [List.length_cons, List.length_cons, i1], fun i x e => ?_, fun i w0 e hp => ?_⟩
      · cases i with
        | zero =>
          have e : w = some x := by simpa using e
          obtain ⟨h1, h2, w0, h3, h4⟩ := hd.1 x e
          exact ⟨h1, by rw [h2]; rfl, w0, by rw [h3]; rfl, h4⟩
        | succ i => simpa using i2 i x (by simpa using e)
      · cases i with
        | zero =>
          have e : a = some w0 := by simpa using e
          obtain ⟨x, hx⟩ := hd.2 w0 e hp
          exact ⟨x, by rw [hx]; rfl⟩
        | succ i => simpa using i3 i w0 (by simpa using e) hp
/-- the way back to the caller's slots -/
theorem outs_path (s : Sta Z F H (vs.map some) args) (hl : args.length = vs.length) (p : Path Z (L2.start N vs) F H (args ++ List.replicate k none) σ' F' H' ρ') (hs : ∀ (i : Nat) (w : W), ρ2[i]? = some (some w) → ρ'[i]? = some (some w)) (e : outs args.length args ρ2 = some r) :
    Path Z (vs.map some) F H args (vs.map some) F' H' r ∧ (∀ b, Own (vs.map some) r b → Own σ' ρ2 b) ∧
      ∀ (i : Nat) (w : W), r[i]? = some (some w) → isP w = true ∧ ρ'[i]? = some (some w) ∧ σ'[i]? = (vs.map some)[i]? := by
  obtain ⟨o1, o2, o3⟩ := outs_ok e
  have key : ∀ (i : Nat) (w : W), r[i]? = some (some w) → isP w = true ∧ ρ'[i]? = some (some w) ∧ σ'[i]? = (vs.map some)[i]? := fun i w ei => by
    obtain ⟨h1, h2, w0, h3, _⟩ := o2 i w ei
    have h4 := hs i w h2
    obtain ⟨_, h5⟩ := p.pp i w h4 h1
    have h6 := (List.getElem?_eq_some_iff.mp h3).1
    rw [start_in (by omega)] at h5
    exact ⟨h1, h4, h5⟩
  have own' : ∀ b, Own (vs.map some) r b → Own σ' ρ' b := fun b ⟨i, w, ei, ho, es⟩ => by
    obtain ⟨_, h2, h3⟩ := key i w ei
    rw [← h3] at es
    exact own_of h2 ho es
  refine ⟨⟨⟨by rw [o1, List.length_map, hl], fun i w ei => ?_, fun i j wi wj a ei ej hi hj si sj => ?_, p.st.tabs, p.st.ft⟩, ⟨fun b o eb nb t => p.sp.keep b o eb (fun z => nb ((own_start hl b).mp z)) t, p.sp.there, p.sp.fin, fun b f => ?_⟩, fun b ob => ?_, fun i w ei hp => ?_⟩, fun b ⟨i, w, ei, ho, es⟩ => ?_, key⟩
  · obtain ⟨_, h2, h3⟩ := key i w ei
    rw [← h3]
    exact p.st.rep i w h2
  · obtain ⟨_, h2, h3⟩ := key i wi ei
    obtain ⟨_, h4, h5⟩ := key j wj ej
    rw [← h3] at si
    rw [← h5] at sj
    exact p.st.inj _ _ _ _ _ h2 h4 hi hj si sj
  · rcases p.sp.fout b f with z | z | z
    · exact .inl z
    · exact .inr (.inl z)
    · exact .inr (.inr ((own_start hl b).mp z))
  · rcases p.sub b (own' b ob) with z | z
    · exact .inl ((own_start hl b).mp z)
    · exact .inr z
  · obtain ⟨_, _, w0, h3, h4⟩ := o2 i w ei
    exact ⟨⟨w0, h3, h4⟩, rfl⟩
  · obtain ⟨_, h2, _⟩ := o2 i w ei
    obtain ⟨_, _, h3⟩ := key i w ei
    rw [← h3] at es
    exact own_of h2 ho es
end
end Ev
/-! Ev22: each def keeps its promise, at each level. -/
namespace Ev
open PySem PySem.Spec PyProof.Rows L2
/-- the same world, other calls -/
def Gw.to (Y : Gw) (C : Calls) : Gw := { Y with C := C }
theorem Gk.to {Y : Gw} (h : Gk Y) (C : Calls) : Gk (Y.to C) :=
  ⟨⟨h.ok.st, h.ok.sts, h.ok.blt, h.ok.con⟩, h.ar, fun c x e => by
    obtain ⟨D, q⟩ := h.exc c x e
    exact ⟨D, q.cls, q.base, q.mg, q.kp, q.sub, q.ty⟩, fun x e => ⟨(h.tol x e).ex⟩, h.fa, h.f1⟩
/-- a def of the text -/
structure DefAt (Y : Gw) (f : Nat) (x : Str) (d : Def) (N ps : List Str) (st : Stmt) (lam : Bool) : Prop where
  ex : ∃ (g : Addr) (oc : Value) (od : Option Addr) (dV kV doc pm : Value) (an : Option Addr) (cdv ct : Value) (osl : Array (Option Value)), Y.mg x = some (.ref g) ∧ PySem.W.keepIn Y.Z.K (.ref g) = true ∧
    Y.Z.K.lookup g = some ⟨oc, od, .func (PySem.W.fnOf x x (defArgs st) (defBody st) (defScope st) dV kV doc pm an cdv ct), osl⟩ ∧ PySem.W.codeIn Y.Z.K cdv x = true ∧
    L2.Binds Y.Z.K (PySem.W.fnOf x x (defArgs st) (defBody st) (defScope st) dV kV doc pm an cdv ct) ps [] ∧
    (lam = true → ∃ c P, cdv = .ref c ∧ LamX.TabB Y.base Y.mg c P ∧ (P, (x ++ ".<locals>.") ++ "<lambda>") ∈ Y.Z.TT ∧ ∀ p ∈ Y.Z.TT, p.1 = P → p.2 = (x ++ ".<locals>.") ++ "<lambda>")
  sc : FnScope N ps (defScope st)
  np : ps.length = d.np
  nl : N.length = d.np + d.nl
  ar : Y.ar f = d.np
  chk : chkB Y.nm d.body ⟨N, defScope st, lam⟩ (defBody st) = true
section
variable {Y : Gw}
theorem give_ok {Z : Wo} {σ' : L2.St} {F' : Fz} {H' : Hp} {ρ' ρ2 : Ev} {o o2 : O} (h : give ρ' o = some (o2, ρ2)) : (∀ (i : Nat) (w : W), ρ2[i]? = some (some w) → ρ'[i]? = some (some w)) ∧ ((o2 = o ∧ isBor o = false ∧ ρ2 = ρ') ∨
    ∃ i, o = .bor i ∧ ρ2 = ρ'.set i none ∧ ((∃ xs, o2 = .L xs ∧ ρ'[i]? = some (some (.L false xs))) ∨ ∃ t kvs, o2 = .M t kvs ∧ ρ'[i]? = some (some (.M false t kvs)))) := by
  have off : ∀ i (j : Nat) (w : W), (ρ'.set i none)[j]? = some (some w) → ρ'[j]? = some (some w) := fun i j w e => by
    rcases getset e with ⟨_, z, _⟩ | ⟨_, z⟩
    · cases z
    · exact z
  cases o with
  | d x =>
    simp only [give, Option.some.injEq, Prod.mk.injEq] at h
    obtain ⟨rfl, rfl⟩ := h
    exact ⟨fun _ _ e => e, .inl ⟨rfl, rfl, rfl⟩⟩
  | L x =>
    simp only [give, Option.some.injEq, Prod.mk.injEq] at h
    obtain ⟨rfl, rfl⟩ := h
    exact ⟨fun _ _ e => e, .inl ⟨rfl, rfl, rfl⟩⟩
  | M t x =>
    simp only [give, Option.some.injEq, Prod.mk.injEq] at h
    obtain ⟨rfl, rfl⟩ := h
    exact ⟨fun _ _ e => e, .inl ⟨rfl, rfl, rfl⟩⟩
  | F f => simp only [give] at h; cases h
  | bor i =>
    simp only [give] at h
    split at h
    · rename_i xs e
      simp only [Option.some.injEq, Prod.mk.injEq] at h
      obtain ⟨rfl, rfl⟩ := h
      exact ⟨off i, .inr ⟨i, rfl, rfl, .inl ⟨xs, rfl, e⟩⟩⟩
    · rename_i t kvs e
      simp only [Option.some.injEq, Prod.mk.injEq] at h
      obtain ⟨rfl, rfl⟩ := h
      exact ⟨off i, .inr ⟨i, rfl, rfl, .inr ⟨t, kvs, rfl, e⟩⟩⟩
    · cases h
theorem fnD {f : Nat} {x : Str} {d : Def} {N ps : List Str} {st : Stmt} {lam : Bool} (D : DefAt Y f x d N ps st lam) :
    ∃ (g : Addr) (fd : FuncData), Y.mg x = some (.ref g) ∧ PySem.W.keepIn Y.Z.K (.ref g) = true ∧ L2.Binds Y.Z.K fd ps [] ∧ (∃ oc od osl, Y.Z.K.lookup g = some ⟨oc, od, .func fd, osl⟩) ∧ ∀ (C1 C2 : Calls) (n : Nat), Gk (Y.to C1) → Fok (Y.to C1) n → (∀ args, C2 (n + 1) f args = runD Y.T C1 d n args) →
      FnOk Y.P Y.w Y.Z.K Y.mg Y.base (L2.CX Y.P Y.w) (n + 1) g fd ps (spF (Y.to C2) (n + 1) f) := by
  obtain ⟨g, oc, od, dV, kV, doc, pm, an, cdv, ct, osl, hm, hk, lk, hcd, hb, hl⟩ := D.ex
  refine ⟨g, _, hm, hk, hb, ⟨_, _, _, lk⟩, fun C1 C2 n Yk K hC => fn_of (N := N) lk hcd D.sc (fun vs H Q E h => ?_) fun A outer s H vs Q E hr hsp => ?_⟩
  · obtain ⟨F, args, h1, _⟩ := h
    rw [h1, D.np]
    exact D.ar
  obtain ⟨F, args, h1, h2, h3, h4, sta, post⟩ := hsp
  have e1 : args.length = d.np := by rw [h2, h1]; exact D.ar
  have e2 : (Y.to C2).C (n + 1) f args = runD Y.T C1 d n args := hC args
  rw [e2] at post
  -- the context
  have hP := takes_of (X := cxOf (L2.CX Y.P Y.w) Y.P Y.w Y.Z.K Y.mg Y.base N x (defScope st) g cdv A outer s H E) (E := E) rfl rfl rfl rfl
  have gs : Gs (Y.to C1) n ⟨N, defScope st, lam⟩ E (cxOf (L2.CX Y.P Y.w) Y.P Y.w Y.Z.K Y.mg Y.base N x (defScope st) g cdv A outer s H E) :=
    ⟨⟨⟨rfl, rfl, rfl, rfl, rfl, rfl, D.sc.nd, fun y h => vis_of h, fun y h => ⟨loc_of h, .inl rfl⟩, fun y h => gl_of h, rfl, hr, passes_call hP fun _ _ _ _ h => h⟩, fun y h => h, fun h => by
      obtain ⟨c, P, q1, q2, q3, q4⟩ := hl h
      exact ⟨c, P, q2, q1, q3, q4⟩⟩, rfl, D.sc.kind, L2.passes_of rfl, hP⟩
  refine ⟨LS Y.Z E (setss d.body) (evB Y.T C1 d.body n), sndB Yk gs K D.chk fun i h => h, F, args ++ List.replicate d.nl none, start_ok sta h2 (by rw [D.nl, e1]), ?_⟩
  unfold runD at post
  rw [if_pos e1] at post
  cases ev : evB Y.T C1 d.body n (args ++ List.replicate d.nl none) with
  | stuck => rw [ev] at post; exact post.elim
  | exc c ρ' =>
    rw [ev] at post
    simp only at post
    cases eo : outs args.length args ρ' with
    | none => rw [eo] at post; exact post.elim
    | some r =>
      rw [eo] at post
      intro σ' F' H' p
      exact post F' H' (outs_path sta h2 p (fun _ _ e => e) eo).1
  | ok fl ρ' =>
    rw [ev] at post
    intro σ' F' H' p _
    cases fl with
    | brk => exact post.elim
    | cont => exact post.elim
    | nx =>
      simp only at post
      cases eo : outs args.length args ρ' with
      | none => rw [eo] at post; exact post.elim
      | some r =>
        rw [eo] at post
        exact post .non F' H' (outs_path sta h2 p (fun _ _ e => e) eo).1 ⟨by show Rp Y.Z F' H' .non .non; simp only [Rp], fun z => by cases z⟩
    | ret o =>
      simp only at post
      intro v ov fr
      cases eg : give ρ' o with
      | none => rw [eg] at post; exact post.elim
      | some q =>
        obtain ⟨o2, ρ2⟩ := q
        rw [eg] at post
        simp only [R.opt_some] at post
        cases eo : outs args.length args ρ2 with
        | none => rw [eo] at post; exact post.elim
        | some r =>
          rw [eo] at post
          simp only [R.opt_some] at post
          obtain ⟨g1, g2⟩ := give_ok (Z := Y.Z) (σ' := σ') (F' := F') (H' := H') eg
          obtain ⟨p2, ow2, ky⟩ := outs_path sta h2 p g1 eo
          refine post v F' H' p2 ?_
          rcases g2 with ⟨rfl, nb, rfl⟩ | ⟨i, rfl, rfl, g2⟩
          · refine ⟨?_, fr⟩
            cases o2 with
            | d y => exact ov
            | F f => exact ov
            | L xs =>
              obtain ⟨a, ws, rfl, k1, k2, k3, k4⟩ := ov
              exact ⟨a, ws, rfl, k1, k2, k3, fun z => k4 (ow2 a z)⟩
            | M t kvs =>
              obtain ⟨a, rfl, k1, k3, k4⟩ := ov
              exact ⟨a, rfl, k1, k3, fun z => k4 (ow2 a z)⟩
            | bor i => cases nb
          · have sv : σ'[i]? = some (some v) := ov
            -- the slot's own list: the caller has none of it
            have no : ∀ (w : W) (a : Addr), ρ'[i]? = some (some w) → isOwn w = true → isP w = false → v = .ref a → ¬ Own (vs.map some) r a ∧ NoO (H a) := fun w a ew ho hp ea => by
              subst ea
              refine ⟨fun ⟨j, u, ej, hj, sj⟩ => ?_, ?_⟩
              · obtain ⟨k1, k2, k3⟩ := ky j u ej
                rw [← k3] at sj
                have : i = j := p.st.inj _ _ _ _ _ ew k2 ho hj sv sj
                subst this
                rw [ew] at k2
                cases k2
                rw [hp] at k1
                cases k1
              · rcases p.sub a (own_of ew ho sv) with z | z
                · obtain ⟨j, u, ej, hj, sj⟩ := (own_start h2 a).mp z
                  obtain ⟨_, _, o3⟩ := outs_ok eo
                  obtain ⟨w', ew'⟩ := o3 j u ej (h4 j u ej hj)
                  obtain ⟨k1, k2, k3⟩ := ky j w' ew'
                  rw [← k3] at sj
                  have hw' : isOwn w' = true := by cases w' <;> first | rfl | cases k1
                  have : i = j := p.st.inj _ _ _ _ _ ew k2 ho hw' sv sj
                  subst this
                  rw [ew] at k2
                  cases k2
                  rw [hp] at k1
                  cases k1
                · exact z
            rcases g2 with ⟨xs, rfl, ei⟩ | ⟨t, kvs, rfl, ei⟩
            · obtain ⟨v', ev', a, ws, e4, k1, k2, k3⟩ := p.st.rep i _ ei
              rw [sv] at ev'
              cases (Option.some.inj (Option.some.inj ev'))
              obtain ⟨n1, n2⟩ := no _ a ei rfl rfl e4
              exact ⟨⟨a, ws, e4, k1, k2, k3, n1⟩, fun _ b eb => by rw [e4] at eb; cases eb; exact n2⟩
            · obtain ⟨v', ev', a, e4, k1, k3⟩ := p.st.rep i _ ei
              rw [sv] at ev'
              cases (Option.some.inj (Option.some.inj ev'))
              obtain ⟨n1, n2⟩ := no _ a ei rfl rfl e4
              exact ⟨⟨a, e4, k1, k3, n1⟩, fun _ b eb => by rw [e4] at eb; cases eb; exact n2⟩
theorem fok_mono {C1 C2 : Calls} {n m : Nat} (K : Fok (Y.to C1) n) (h : m ≤ n) (hc : ∀ k, k ≤ m → C1 k = C2 k) : Fok (Y.to C2) m := ⟨fun f x e => by
  obtain ⟨a, fd, ps, h1, h2, h3, h4⟩ := K.fn f x e
  refine ⟨a, fd, ps, h1, h2, h3, fun k hk => (h4 k (by omega)).imp fun vs H Q E hq => ?_⟩
  obtain ⟨F, args, q1, q2, q3, q4, q5, q6⟩ := hq
  refine ⟨F, args, q1, q2, q3, q4, q5, ?_⟩
  have e : (Y.to C1).C k f args = (Y.to C2).C k f args := congrFun (congrFun (hc k hk) f) args
  rw [e]
  exact q6⟩
/-- all defs, at each level -/
theorem levels {ds : List Def} (Yk : Gk Y) (defs : ∀ (f : Nat) (x : Str), Y.nm.fns[f]? = some x → ∃ d N ps st lam, ds[f]? = some d ∧ DefAt Y f x d N ps st lam) : ∀ n, Fok (Y.to (calls Y.T ds n)) n := by
  intro n
  induction n with
  | zero =>
    refine ⟨fun f x e => ?_⟩
    obtain ⟨d, N, ps, st, lam, hd, D⟩ := defs f x e
    obtain ⟨g, fd, h1, h2, h3, _, h4⟩ := fnD D
    refine ⟨g, fd, ps, h1, h2, h3, fun k hk => ?_⟩
    have e0 : k = 0 := by omega
    subst e0
    have no : ∀ vs H Q E, ¬ spF (Y.to (calls Y.T ds 0)) 0 f vs H Q E := fun vs H Q E ⟨F, args, _, _, _, _, _, post⟩ => post
    exact ⟨fun vs H Q E h => (no vs H Q E h).elim, fun A outer s H args us vs Q E _ _ _ _ h => (no vs H Q E h).elim⟩
  | succ n ih =>
    refine ⟨fun f x e => ?_⟩
    obtain ⟨d, N, ps, st, lam, hd, D⟩ := defs f x e
    obtain ⟨g, fd, h1, h2, h3, _, h4⟩ := fnD D
    refine ⟨g, fd, ps, h1, h2, h3, fun k hk => ?_⟩
    cases k with
    | zero =>
      have no : ∀ vs H Q E, ¬ spF (Y.to (calls Y.T ds (n + 1))) 0 f vs H Q E := fun vs H Q E ⟨F, args, _, _, _, _, _, post⟩ => by
        have e0 : (Y.to (calls Y.T ds (n + 1))).C 0 f args = .stuck := by
          show calls Y.T ds (n + 1) 0 f args = .stuck
          rw [calls_le Y.T ds (Nat.zero_le _)] <;> rfl
        rw [e0] at post
        exact post
      exact ⟨fun vs H Q E h => (no vs H Q E h).elim, fun A outer s H args us vs Q E _ _ _ _ h => (no vs H Q E h).elim⟩
    | succ k =>
      have kn : k ≤ n := by omega
      have K : Fok (Y.to (calls Y.T ds k)) k := fok_mono ih kn fun j hj => by rw [calls_le Y.T ds (by omega), calls_le Y.T ds hj]
      refine h4 (calls Y.T ds k) (calls Y.T ds (n + 1)) k (Yk.to _) K fun args => ?_
      rw [calls_le Y.T ds hk]
      show (if k + 1 = k + 1 then _ else _) = _
      rw [if_pos rfl, hd]
end
end Ev
/-! Ev23: a law's data; what its head must tell; the law's end. -/
namespace Ev
open PySem PySem.Spec PyProof.Rows L2
/-- a def: its name, its form, its slots' names, its parameters, its text, whether it makes lambdas -/
structure Ld where
  name : Str
  d : Def
  N : List Str
  ps : List Str
  st : Stmt
  lam : Bool
/-- a law: defs, whole numbers, errors (and which is out of range), texts, the reader, the two words, told -/
structure LawD where
  es : List Ld
  cons : List (Str × Int)
  exs : List (Str × Bool)
  txt : List Str
  rd : Nat
  kr : Nat
  ko : Nat
  told : Option (Str × Stmt)
def LawD.nm (L : LawD) : Nm := ⟨L.es.map (·.name), L.cons.map (·.1), L.txt, L.exs.map (·.1), L.es.map (·.ps.length), L.told.map (·.1)⟩
def LawD.T (L : LawD) : Top := ⟨L.cons.map fun p => .int p.2, L.rd, fun c => if ((L.exs[c]?).map (·.2)).getD false then L.kr else L.ko, L.exs.length⟩
def LawD.ds (L : LawD) : List Def := L.es.map (·.d)
def LawD.fa (L : LawD) : List He.Fa := L.es.map (fun e => He.Fa.glo e.name) ++ (L.cons.map (fun p => He.Fa.int p.1 p.2) ++ (bltN.map He.Fa.free ++ (L.exs.map (fun p => He.Fa.glo p.1) ++ (L.exs.map (fun p => He.Fa.exc p.1) ++ ([He.Fa.glo "EverError", He.Fa.glo "OutOfRange"] ++ (match L.told with | some p => [He.Fa.glo p.1] | none => []))))))
def defD (x : Str) (st : Stmt) : He.DefD := ⟨(x, none), x, x, defArgs st, defBody st, defScope st, [], []⟩
def LawD.fn (L : LawD) : List He.DefD := L.es.map (fun e => defD e.name e.st) ++ (match L.told with | some p => [defD p.1 p.2] | none => [])
def LawD.tf (L : LawD) : List He.Defn := (L.es.filter (·.lam)).map fun e => (e.name, none)
/-- an error's class, as told asks it -/
def excB (K : PySem.W.Frag) (x : Str) (b : Bool) : Bool :=
  He.eqO (PySem.W.findIn K (.ref (He.ga K x)) "__getattribute__") (some (some (.builtin "BaseException.__getattribute__"))) && (He.eqO (PySem.W.findIn K (.ref (He.ga K x)) "__getattr__") (some none) && (PySem.W.hasDictIn K (He.ga K x) &&
    (He.eqO (PySem.W.findIn K (.ref (He.ga K x)) "__class__") (some (some (.builtin "object.__class__"))) && (He.eqO (PySem.W.specialIn K (.builtin "object.__class__") "__get__") (some (some (.builtin "getset_descriptor.__get__"))) &&
      (decide (PySem.W.takesIn K (.builtin "object.__class__") = some true) && (decide (PySem.W.mroIn K (He.ga K x) (.type "object") = some true) &&
        (decide (PySem.W.exmOne K (.ref (He.ga K x)) (.ref (He.ga K "EverError")) = some true) && decide (PySem.W.kitOne K (.ref (He.ga K x)) (.ref (He.ga K "OutOfRange")) = some b))))))))
def LawD.ex (L : LawD) (K : PySem.W.Frag) : Bool := L.exs.all (fun p => excB K p.1 p.2) && decide ((L.tf.map fun p => (He.cT K p).2).Nodup)
/-- what is asked of a def's text -/
structure LdOk (nm : Nm) (e : Ld) : Prop where
  sc : FnScope e.N e.ps (defScope e.st)
  np : e.ps.length = e.d.np
  nl : e.N.length = e.d.np + e.d.nl
  chk : chkB nm e.d.body ⟨e.N, defScope e.st, e.lam⟩ (defBody e.st) = true
  bind : ∀ (kV doc pm : Value) (an : Option Addr) (cdv ct : Value) (us : List Value), us.length = e.ps.length → bindArgs (PySem.W.fnOf e.name e.name (defArgs e.st) (defBody e.st) (defScope e.st) .none kV doc pm an cdv ct) ⟨us, []⟩ = pure (e.ps.zip us)
/-- what is asked of told's text -/
structure TolOk (L : LawD) (x : Str) (st : Stmt) : Prop where
  sc : FnScope ["call", "e"] ["call"] (defScope st)
  bind : ∀ (kV doc pm : Value) (an : Option Addr) (cdv ct : Value) (us : List Value), us.length = (["call"] : List Str).length → bindArgs (PySem.W.fnOf x x (defArgs st) (defBody st) (defScope st) .none kV doc pm an cdv ct) ⟨us, []⟩ = pure ((["call"] : List Str).zip us)
  body : ∃ (rd ev oor r o : Str) (j k ja jb jc jd : Nat) (p1 p2 p3 p4 p5 p6 p7 p8 p9 q1 q2 q3 q4 q5 q6 q7 q8 q9 q10 q11 : Pos), defBody st = toldBody rd ev oor r o j k ja jb jc jd p1 p2 p3 p4 p5 p6 p7 p8 p9 q1 q2 q3 q4 q5 q6 q7 q8 q9 q10 q11 ∧
    (defScope st).names.lookup ("e" : Str) = some .local ∧ (defScope st).names.lookup rd = some .globalImplicit ∧ (defScope st).names.lookup ev = some .globalImplicit ∧ (defScope st).names.lookup oor = some .globalImplicit ∧ (defScope st).names.lookup ("isinstance" : Str) = some .globalImplicit ∧
    L.nm.fns[L.rd]? = some rd ∧ odd rd = false ∧ ev = ("EverError" : Str) ∧ oor = ("OutOfRange" : Str) ∧ L.txt[L.kr]? = some r ∧ L.txt[L.ko]? = some o ∧ L.nm.ars.getD L.rd 0 = 1
section
variable {L : LawD} {K : PySem.W.Frag} {h : Heap} {mg : Str → Option Value} {w : World} {P : Program} {base : Heap} {ts : List He.Tab}
/-- the world of the law -/
def LawD.Y (L : LawD) (P : Program) (w : World) (K : PySem.W.Frag) (mg : Str → Option Value) (base : Heap) : Gw :=
  { Z := ⟨K, L.txt, L.tf.map fun p => ((He.cT K p).2, (p.1 ++ ".<locals>.") ++ "<lambda>"), fun c => .ref (He.ga K (((L.exs[c]?).map (·.1)).getD ⟨#[]⟩)), fun f => He.ga K (((L.es[f]?).map (·.name)).getD ⟨#[]⟩), fun f => decide (f < L.es.length) && decide (L.nm.ars.getD f 0 = 1)⟩, P := P, w := w, mg := mg, base := base, T := L.T, C := fun _ _ _ => .stuck, nm := L.nm, ar := fun f => L.nm.ars.getD f 0 }
theorem says_glo (X : K.In h) (G : h.Ns mainGlobals mg) (c : He.SaysX L.fa L.fn ts L.tf L.ex w h K) {x : Str} (hx : He.Fa.glo x ∈ L.fa) : mg x = some (.ref (He.ga K x)) :=
  He.glo_ok X G (He.SaysD.facts (congrArg (fun z : He.AlT => z.1) c.t) hx)
theorem fun_of (c : He.SaysX L.fa L.fn ts L.tf L.ex w h K) {x : Str} {st : Stmt} (hx : defD x st ∈ L.fn) : ∃ fd, FunD K x x (defArgs st) (defBody st) (defScope st) [] [] (He.ga K x) fd :=
  He.SaysD.defs (congrArg (fun z : He.AlT => z.1) c.t) hx
theorem law_gk (X : K.In h) (G : h.Ns mainGlobals mg) (c : He.SaysX L.fa L.fn ts L.tf L.ex w h K) (tok : L.txt.Nodup ∧ (∀ x ∈ L.txt, PyData.canLay0 (.str x) = true ∧ x.length ≤ 1000) ∧ L.txt.headD "" = "") (tol : ∀ x st, L.told = some (x, st) → TolOk L x st) : Gk (L.Y P w K mg base) := by
  have sd : He.SaysD L.fa L.fn K := congrArg (fun z : He.AlT => z.1) c.t
  have exs : ∀ p ∈ L.exs, excB K p.1 p.2 = true := fun p hp => List.all_eq_true.mp (Bool.and_eq_true_iff.mp c.more).1 p hp
  have inE : ∀ p ∈ L.exs, He.Fa.glo p.1 ∈ L.fa ∧ He.Fa.exc p.1 ∈ L.fa := fun p hp => by
    unfold LawD.fa
    simp only [List.mem_append, List.mem_map]
    exact ⟨.inr (.inr (.inr (.inl ⟨p, hp, rfl⟩))), .inr (.inr (.inr (.inr (.inl ⟨p, hp, rfl⟩))))⟩
  have inC : ∀ p ∈ L.cons, He.Fa.int p.1 p.2 ∈ L.fa := fun p hp => by
    unfold LawD.fa
    simp only [List.mem_append, List.mem_map]
    exact .inr (.inl ⟨p, hp, rfl⟩)
  have inB : ∀ x ∈ bltN, He.Fa.free x ∈ L.fa := fun x hx => by
    unfold LawD.fa
    simp only [List.mem_append, List.mem_map]
    exact .inr (.inr (.inl ⟨x, hx, rfl⟩))
  have inEv : He.Fa.glo "EverError" ∈ L.fa ∧ He.Fa.glo "OutOfRange" ∈ L.fa := by
    unfold LawD.fa
    simp only [List.mem_append, List.mem_map, List.mem_cons]
    exact ⟨.inr (.inr (.inr (.inr (.inr (.inl (.inl trivial)))))), .inr (.inr (.inr (.inr (.inr (.inl (.inr (.inl trivial)))))))⟩
  have inD : ∀ e ∈ L.es, He.Fa.glo e.name ∈ L.fa := fun e he => by
    unfold LawD.fa
    exact List.mem_append_left _ (List.mem_map.mpr ⟨e, he, rfl⟩)
  refine ⟨⟨⟨tok.1, fun x hx => (tok.2.1 x hx).1, fun x e => ?_, fun x hx => (tok.2.1 x hx).2⟩, rfl, fun x hx => He.free_ok X G (He.SaysD.facts sd (inB x hx)), fun k x e => ?_⟩, fun f => rfl, fun k x e => ?_, fun x e => ?_, fun f h1 => ?_, fun f x e h1 => ?_⟩
  · have e : L.txt[0]? = some x := e
    have h3 := tok.2.2
    cases ht : L.txt with
    | nil => rw [ht] at e; cases e
    | cons y r =>
      rw [ht] at e h3
      have e2 : y = x := by simpa using e
      rw [← e2]
      exact h3
  · have e : (L.cons.map (·.1))[k]? = some x := e
    rw [List.getElem?_map] at e
    obtain ⟨p, e1, rfl⟩ := Option.map_eq_some_iff.mp e
    obtain ⟨t, hm⟩ := He.int_ok X G (He.SaysD.facts sd (inC p (List.mem_of_getElem? e1)))
    refine ⟨.int p.2, .int p.2, _, ?_, hm, ⟨t, rfl⟩, fun _ _ => by simp only [Rp]⟩
    show (L.cons.map fun p => D.int p.2)[k]? = _
    rw [List.getElem?_map, e1]
    rfl
  · have e : (L.exs.map (·.1))[k]? = some x := e
    rw [List.getElem?_map] at e
    obtain ⟨p, e1, rfl⟩ := Option.map_eq_some_iff.mp e
    obtain ⟨i1, i2⟩ := inE p (List.mem_of_getElem? e1)
    obtain ⟨x1, x2, x3, x4⟩ := He.exc_ok (He.SaysD.facts sd i2)
    refine ⟨He.ga K p.1, ?_, ⟨_, _, _, _, PySem.F.excBase_ValueError, x1⟩, says_glo X G c i1, x2, x3, x4⟩
    show Value.ref (He.ga K (((L.exs[k]?).map (·.1)).getD ⟨#[]⟩)) = _
    rw [e1]
    rfl
  · have e : L.told.map (·.1) = some x := e
    cases et : L.told with
    | none => rw [et] at e; cases e
    | some p =>
      obtain ⟨y, st⟩ := p
      rw [et] at e
      cases e
      have t := tol y st et
      have iF : defD y st ∈ L.fn := by
        unfold LawD.fn
        rw [et]
        exact List.mem_append_right _ List.mem_cons_self
      have iG : He.Fa.glo y ∈ L.fa := by
        unfold LawD.fa
        rw [et]
        simp only [List.mem_append, List.mem_cons]
        exact .inr (.inr (.inr (.inr (.inr (.inr (.inl trivial))))))
      obtain ⟨fd, F⟩ := fun_of c iF
      have hb := F.bindsN t.bind
      have kp := F.kp
      obtain ⟨oc, od, dV, kV, doc, pm, an, cdv, ct, osl, rfl, lk, hcd, _⟩ := F.ex
      obtain ⟨rd, ev, oor, r, o, j, k, ja, jb, jc, jd, p1, p2, p3, p4, p5, p6, p7, p8, p9, q1, q2, q3, q4, q5, q6, q7, q8, q9, q10, q11, eb, l1, l2, l3, l4, l5, hf, ord, rfl, rfl, s1, s2, har⟩ := t.body
      refine ⟨He.ga K y, defArgs st, defBody st, defScope st, dV, kV, doc, pm, cdv, ct, oc, an, od, osl, rd, "EverError", "OutOfRange", r, o, He.ga K "EverError", He.ga K "OutOfRange", j, k, ja, jb, jc, jd, p1, p2, p3, p4, p5, p6, p7, p8, p9, q1, q2, q3, q4, q5, q6, q7, q8, q9, q10, q11, L.kr, L.ko,
        says_glo X G c iG, kp, lk, hcd, hb, t.sc, l1, l2, l3, l4, l5, eb, hf, ord, by decide +kernel, by decide +kernel, says_glo X G c inEv.1, says_glo X G c inEv.2, He.free_ok X G (He.SaysD.facts sd (inB "isinstance" (by decide))), s1, s2, har, fun k hk => ?_⟩
      have hk : k < L.exs.length := hk
      have b := exs _ (List.getElem_mem hk)
      have e1 : L.exs[k]? = some L.exs[k] := List.getElem?_eq_getElem hk
      obtain ⟨i1, i2⟩ := inE _ (List.getElem_mem hk)
      obtain ⟨_, _, x3, _⟩ := He.exc_ok (He.SaysD.facts sd i2)
      unfold excB at b
      simp only [Bool.and_eq_true, decide_eq_true_eq] at b
      obtain ⟨b1, b2, b3, b4, b5, b6, b7, b8, b9⟩ := b
      refine ⟨He.ga K L.exs[k].1, L.exs[k].2, ?_, ⟨⟨He.eqO_ok b1, He.eqO_ok b2, x3, b3, He.eqO_ok b4, He.eqO_ok b5, b6, b7⟩, b8, b9⟩, ?_⟩
      · show Value.ref (He.ga K (((L.exs[k]?).map (·.1)).getD ⟨#[]⟩)) = _
        rw [e1]
        rfl
      · show (if ((L.exs[k]?).map (·.2)).getD false then L.kr else L.ko) = _
        rw [e1]
        rfl
  · have h1 : (decide (f < L.es.length) && decide (L.nm.ars.getD f 0 = 1)) = true := h1
    simp only [Bool.and_eq_true, decide_eq_true_eq] at h1
    obtain ⟨l1, l2⟩ := h1
    have e1 : L.es[f]? = some L.es[f] := List.getElem?_eq_getElem l1
    refine ⟨L.es[f].name, ?_, l2, ?_⟩
    · show (L.es.map (·.name))[f]? = _
      rw [List.getElem?_map, e1]
      rfl
    · have e2 : (L.Y P w K mg base).Z.fa f = He.ga K L.es[f].name := by
        show He.ga K (((L.es[f]?).map (·.name)).getD ⟨#[]⟩) = _
        rw [e1]
        rfl
      rw [e2]
      exact says_glo X G c (inD _ (List.getElem_mem l1))
  · have e : (L.es.map (·.name))[f]? = some x := e
    rw [List.getElem?_map] at e
    obtain ⟨q, e1, _⟩ := Option.map_eq_some_iff.mp e
    have l1 := (List.getElem?_eq_some_iff.mp e1).1
    show (decide (f < L.es.length) && decide (L.nm.ars.getD f 0 = 1)) = true
    have h1 : L.nm.ars.getD f 0 = 1 := h1
    rw [decide_eq_true l1, decide_eq_true h1]
    rfl
theorem law_def (X : K.In h) (G : h.Ns mainGlobals mg) (c : He.SaysX L.fa L.fn ts L.tf L.ex w h K) (ok : ∀ e ∈ L.es, LdOk L.nm e) (tb : ∀ p ∈ L.tf, LamX.TabB base mg (He.cT K p).1 (He.cT K p).2) {f : Nat} {q : Ld} (e1 : L.es[f]? = some q) :
    DefAt (L.Y P w K mg base) f q.name q.d q.N q.ps q.st q.lam := by
  have hq := List.mem_of_getElem? e1
  have o := ok q hq
  have iF : defD q.name q.st ∈ L.fn := by
    unfold LawD.fn
    exact List.mem_append_left _ (List.mem_map.mpr ⟨q, hq, rfl⟩)
  have iG : He.Fa.glo q.name ∈ L.fa := by
    unfold LawD.fa
    exact List.mem_append_left _ (List.mem_map.mpr ⟨q, hq, rfl⟩)
  obtain ⟨fd, F⟩ := fun_of c iF
  have hb := F.bindsN o.bind
  have kp := F.kp
  obtain ⟨oc, od, dV, kV, doc, pm, an, cdv, ct, osl, rfl, lk, hcd, _⟩ := F.ex
  refine ⟨⟨He.ga K q.name, oc, od, dV, kV, doc, pm, an, cdv, ct, osl, says_glo X G c iG, kp, lk, hcd, hb, fun hl => ?_⟩, o.sc, o.np, o.nl, ?_, o.chk⟩
  · obtain ⟨cc, ecc⟩ := He.codeIn_ref hcd
    have ec : He.codeOf K (q.name, none) = cc := He.codeOf_eq (p := (q.name, none)) lk ecc
    have it : ((q.name, none) : He.Defn) ∈ L.tf := List.mem_map.mpr ⟨q, List.mem_filter.mpr ⟨hq, hl⟩, rfl⟩
    have t := tb _ it
    have e2 : (He.cT K (q.name, none)).1 = cc := ec
    rw [e2] at t
    refine ⟨cc, (He.cT K (q.name, none)).2, ecc, t, List.mem_map.mpr ⟨_, it, rfl⟩, fun p hp z => ?_⟩
    obtain ⟨p', hp', rfl⟩ := List.mem_map.mp hp
    have nd : (L.tf.map fun p => (He.cT K p).2).Nodup := of_decide_eq_true (Bool.and_eq_true_iff.mp c.more).2
    have z : (He.cT K p').2 = (He.cT K (q.name, none)).2 := z
    have : p' = (q.name, none) := by
      obtain ⟨i, hi, ei⟩ := List.mem_iff_getElem.mp hp'
      obtain ⟨j, hj, ej⟩ := List.mem_iff_getElem.mp it
      have hij : i = j := by
        have := (List.getElem_inj (xs := L.tf.map fun p => (He.cT K p).2) (i := i) (j := j) (h₀ := by simpa using hi) (h₁ := by simpa using hj) nd).mp (by rw [List.getElem_map, List.getElem_map, ei, ej]; exact z)
        exact this
      subst hij
      rw [← ei, ← ej]
    rw [this]
  · show L.nm.ars.getD f 0 = _
    have e2 : (L.es.map (·.ps.length))[f]? = some q.ps.length := by rw [List.getElem?_map, e1]; rfl
    show (L.es.map (·.ps.length)).getD f 0 = _
    rw [List.getD_eq_getElem?_getD, e2]
    exact o.np
theorem law_defs (X : K.In h) (G : h.Ns mainGlobals mg) (c : He.SaysX L.fa L.fn ts L.tf L.ex w h K) (ok : ∀ e ∈ L.es, LdOk L.nm e) (tb : ∀ p ∈ L.tf, LamX.TabB base mg (He.cT K p).1 (He.cT K p).2) :
    ∀ (f : Nat) (x : Str), (L.Y P w K mg base).nm.fns[f]? = some x → ∃ d N ps st lam, L.ds[f]? = some d ∧ DefAt (L.Y P w K mg base) f x d N ps st lam := by
  intro f x e
  have e : (L.es.map (·.name))[f]? = some x := e
  rw [List.getElem?_map] at e
  obtain ⟨q, e1, rfl⟩ := Option.map_eq_some_iff.mp e
  exact ⟨q.d, q.N, q.ps, q.st, q.lam, by unfold LawD.ds; rw [List.getElem?_map, e1]; rfl, law_def X G c ok tb e1⟩
/-- the law's end -/
theorem law_at {l : PySem.W.OpenLaw} {n fL : Nat} {eL : Ld} {fa : Addr} (X : K.In h) (G : h.Ns mainGlobals mg) (c : He.SaysX L.fa L.fn ts L.tf L.ex w h K) (tok : L.txt.Nodup ∧ (∀ x ∈ L.txt, PyData.canLay0 (.str x) = true ∧ x.length ≤ 1000) ∧ L.txt.headD "" = "") (tol : ∀ x st, L.told = some (x, st) → TolOk L x st)
    (ok : ∀ e ∈ L.es, LdOk L.nm e) (hL : L.es[fL]? = some eL) (hn : eL.name = "law") (hps : eL.ps = ([("script" : Str)] : List Str)) (hmg : mg "law" = some (.ref fa))
    (plain : ∀ ns : List Int, ns.length ≤ 63 → (∀ z ∈ ns, Builtin.Int.intBits z ≤ 1048576) → ∃ r, call L.T L.ds (n + 1) fL [some (.d (.lst (ns.map D.int)))] = .ok (.d (.bl true)) r) :
    LamX.LawAtS l w K (L2.CX l.prog w) (n + 1) 63 "script" mg fa h := by
  have hm := List.mem_of_getElem? hL
  have iF : defD eL.name eL.st ∈ L.fn := by
    unfold LawD.fn
    exact List.mem_append_left _ (List.mem_map.mpr ⟨eL, hm, rfl⟩)
  obtain ⟨fd, F⟩ := fun_of c iF
  have fx : L.nm.fns[fL]? = some eL.name := by
    show (L.es.map (·.name))[fL]? = _
    rw [List.getElem?_map, hL]
    rfl
  have iG : He.Fa.glo eL.name ∈ L.fa := by
    unfold LawD.fa
    exact List.mem_append_left _ (List.mem_map.mpr ⟨eL, hm, rfl⟩)
  have ga := says_glo X G c iG
  rw [hn] at ga
  have efa : He.ga K "law" = fa := by
    rw [hmg] at ga
    injection (Option.some.inj ga) with e
    exact e.symm
  have bA := F.bindsA (ok eL hm).bind
  refine ⟨fd, L.tf.map (He.cT K), spF ((L.Y l.prog w K mg h).to (calls L.T L.ds (n + 1))) (n + 1) fL, fun p hp => ?_, fun p hp => ?_, fun p hp => ?_, fun s u => ?_, fun H a ns hl hb hT hS => ?_, fun base hK hN hT => ?_⟩
  · obtain ⟨p', hp', rfl⟩ := List.mem_map.mp hp
    exact c.empty p' hp'
  · obtain ⟨p', hp', rfl⟩ := List.mem_map.mp hp
    exact c.out p' hp'
  · obtain ⟨p', hp', rfl⟩ := List.mem_map.mp hp
    exact PySem.W.codeHd_of_K X (c.hd p' hp')
  · have := bA s [u] (by rw [hps]; rfl)
    rw [hps] at this
    exact this
  · -- the script
    obtain ⟨r, er⟩ := plain ns hl hb
    have hs : ∃ F : Fz, SL (L.Y l.prog w K mg h).Z F H a (ns.map V.int) ∧ ∀ b, F b → ¬ NoO (H b) := by
      rcases hS with q | q
      · refine ⟨fun b => b = a, .inl ⟨rfl, q⟩, fun b e => ?_⟩
        subst e
        rcases q with q | ⟨o, q⟩
        · rw [q]; exact id
        · rw [q]; exact id
      · exact ⟨fun _ => False, .inr q, fun b e => e.elim⟩
    obtain ⟨F, sl, hF⟩ := hs
    refine ⟨F, [some (.d (.lst (ns.map D.int)))], ?_, rfl, fun i => ?_, fun j w' ej ho => ?_, ⟨rfl, fun i w' e => ?_, fun i j wi wj a' ei ej hi hj _ _ => ?_, fun p hp => ?_, hF⟩, ?_⟩
    · show 1 = L.nm.ars.getD fL 0
      show 1 = (L.es.map (·.ps.length)).getD fL 0
      rw [List.getD_eq_getElem?_getD, List.getElem?_map, hL]
      show 1 = eL.ps.length
      rw [hps]
      rfl
    · cases i <;> simp
    · cases j with
      | zero =>
        have e : W.d (.lst (ns.map D.int)) = w' := by simpa using ej
        subst e
        cases ho
      | succ j => simp at ej
    · cases i with
      | zero =>
        have e : W.d (.lst (ns.map D.int)) = w' := by simpa using e
        subst e
        refine ⟨.ref a, rfl, ?_⟩
        show Rp _ F H (.lst (ns.map D.int)) (.ref a)
        simp only [Rp]
        exact ⟨a, _, rfl, sl, Rps.ints ns⟩
      | succ i => simp at e
    · cases i with
      | zero =>
        have e : W.d (.lst (ns.map D.int)) = wi := by simpa using ei
        subst e
        cases hi
      | succ i => simp at ei
    · obtain ⟨p', hp', rfl⟩ := List.mem_map.mp hp
      exact LamX.TabS.nil (hT _ (List.mem_map.mpr ⟨p', hp', rfl⟩))
    · have e : ((L.Y l.prog w K mg h).to (calls L.T L.ds (n + 1))).C (n + 1) fL [some (.d (.lst (ns.map D.int)))] = .ok (.d (.bl true)) r := er
      rw [e]
      exact fun v F' H' _ rel => Rp.inv_bl rel.1.dp
  · have gk := law_gk (P := l.prog) (base := base) (w := w) X G c tok tol
    have defs := law_defs (P := l.prog) (base := base) (w := w) X G c ok fun p hp => hT _ (List.mem_map.mpr ⟨p, hp, rfl⟩)
    have D := law_def (P := l.prog) (base := base) (w := w) X G c ok (fun p hp => hT _ (List.mem_map.mpr ⟨p, hp, rfl⟩)) hL
    have hd : L.ds[fL]? = some eL.d := by unfold LawD.ds; rw [List.getElem?_map, hL]; rfl
    obtain ⟨g, fd', h1, h2, h3, ⟨oc', od', osl', lk'⟩, h4⟩ := fnD D
    have h1 : mg eL.name = some (.ref g) := h1
    rw [says_glo X G c iG] at h1
    injection (Option.some.inj h1) with eg
    obtain ⟨oc, od, dV, kV, doc, pm, an, cdv, ct, osl, efd, lk, _⟩ := F.ex
    have lk' : K.lookup g = some ⟨oc', od', .func fd', osl'⟩ := lk'
    rw [← eg, lk] at lk'
    have e3 : fd = fd' := by
      have z := Option.some.inj lk'
      injection z with _ _ z3 _
      injection z3
    have FO := h4 (calls L.T L.ds n) (calls L.T L.ds (n + 1)) n (gk.to _) (levels gk defs n) fun args => by
      show (if n + 1 = n + 1 then _ else _) = _
      rw [if_pos rfl, hd]
      rfl
    rw [← e3, ← eg, hps] at FO
    rw [← efa, ← hn]
    exact FO
end
end Ev
/-! the law law_k95_deep_buckets_read_back in the small language (printed by gen.py) -/
namespace Ev
namespace K95
open PySem
/-- is_integer(thing) -/
def d0 : Def := ⟨1, 0, [.ret (.andL [.isi (.var 0) .int, .not_ (.isi (.var 0) .bool)])]⟩
def n0 : List Str := ["thing"]
/-- is_between(thing, low, high) -/
def d1 : Def := ⟨3, 0, [.ret (.andL [.call 0 [.var 0], .chain .le .le (.var 1) (.var 0) (.var 2)])]⟩
def n1 : List Str := ["thing", "low", "high"]
/-- check_log(log) -/
def d2 : Def := ⟨1, 1, [.ite (.orL [.not_ (.isi (.var 0) .tuple), .cmp .gt (.blt .len [.var 0]) (.con 1), .not_ (.blt .all [.comp (.call 1 [.var 1, .int 0, .con 0]) (.nm 1) .seq [.var 0] [] [1]])])
   [.raise 0]
   []]⟩
def n2 : List Str := ["log", "line"]
/-- check_timed(lines) -/
def d3 : Def := ⟨1, 2, [.ite (.orL [.not_ (.isi (.var 0) .tuple), .cmp .gt (.blt .len [.var 0]) (.con 1)])
   [.raise 0]
   [],
  .for_ (.nm 1) .seq [.var 0]
   [.ite (.orL [.not_ (.isi (.var 1) .tuple), .cmp .ne (.blt .len [.var 1]) (.int 2), .not_ (.call 1 [.ix (.var 1) (.int 0), .int 0, .con 2])])
     [.raise 0]
     [],
    .ex (.call 2 [.sl (.var 1) (.int 1) .abs])],
  .ite (.not_ (.blt .all [.comp (.cmp .le (.ix (.ix (.var 0) (.bin .sub (.var 2) (.int 1))) (.int 0)) (.ix (.ix (.var 0) (.var 2)) (.int 0))) (.nm 2) .rng [.int 1, .blt .len [.var 0]] [] [2]]))
   [.raise 0]
   []]⟩
def n3 : List Str := ["lines", "pair", "at"]
/-- through_bucket(rate, depth, lines) -/
def d4 : Def := ⟨3, 6, [.ite (.orL [.not_ (.call 1 [.var 0, .int 1, .con 2]), .not_ (.call 1 [.var 1, .int 1, .con 2])])
   [.raise 1]
   [],
  .ex (.call 3 [.var 2]),
  .par [3, 4, 5] [.lst [], .var 1, .int 0],
  .for_ (.tp [.nm 6, .tp [.nm 7, .nm 8]]) .enum [.var 2]
   [.ite (.cmp .gt (.var 6) (.int 0))
     [.set 4 (.blt .min2 [.var 1, .bin .add (.var 4) (.bin .mul (.var 0) (.bin .sub (.var 7) (.ix (.ix (.var 2) (.bin .sub (.var 6) (.int 1))) (.int 0))))])]
     [],
    .ite (.cmp .ge (.var 4) (.int 1))
     [.ite (.cmp .gt (.var 5) (.int 0))
       [.ex (.app 3 (.tup [.str 3, .var 5]))]
       [],
      .ex (.app 3 (.tup [.var 7, .var 8])),
      .par [4, 5] [.bin .sub (.var 4) (.int 1), .int 0]]
     [.aug 5 .add (.int 1)]],
  .ret (.blt .tuple [.var 3])]⟩
def n4 : List Str := ["rate", "depth", "lines", "found", "many", "lost", "at", "second", "line"]
/-- is_left(thing) -/
def d5 : Def := ⟨1, 0, [.ite (.orL [.not_ (.isi (.var 0) .tuple), .cmp .ne (.blt .len [.var 0]) (.int 2)])
   [.ret (.bl false)]
   [],
  .ret (.andL [.cmp .eq (.ix (.var 0) (.int 0)) (.str 3), .call 0 [.ix (.var 0) (.int 1)], .chain .lt .le (.int 0) (.ix (.var 0) (.int 1)) (.con 1)])]⟩
def n5 : List Str := ["thing"]
/-- check_by_bucket(written) -/
def d6 : Def := ⟨1, 5, [.ite (.orL [.not_ (.isi (.var 0) .tuple), .cmp .gt (.blt .len [.var 0]) (.con 1)])
   [.raise 0]
   [],
  .ex (.call 3 [.blt .tuple [.comp (.var 4) (.nm 4) .seq [.var 0] [.not_ (.call 5 [.var 4])] [4]]]),
  .for_ (.tp [.nm 3, .nm 4]) .enum [.var 0]
   [.ite (.andL [.call 5 [.var 4], .orL [.cmp .eq (.var 3) (.int 0), .cmp .eq (.var 3) (.bin .sub (.blt .len [.var 0]) (.int 1)), .call 5 [.ix (.var 0) (.bin .sub (.var 3) (.int 1))]]])
     [.raise 0]
     []],
  .set 1 (.comp (.var 4) (.nm 4) .seq [.var 0] [.not_ (.call 5 [.var 4])] [4]),
  .for_ (.nm 2) .rng [.int 1, .bin .add (.blt .len [.var 1]) (.int 1)]
   [.for_ (.nm 5) .rng [.int 1, .bin .add (.var 2) (.int 1)]
     [.ite (.call 7 [.var 5, .var 2, .var 0])
       [.retN]
       []]],
  .ite (.cmp .gt (.blt .len [.var 1]) (.int 0))
   [.raise 0]
   []]⟩
def n6 : List Str := ["written", "lines", "depth", "at", "thing", "rate"]
/-- is_written_by(rate, depth, written) -/
def d7 : Def := ⟨3, 3, [.par [4, 5] [.var 1, .non],
  .for_ (.nm 3) .seq [.var 2]
   [.ite (.call 5 [.var 3])
     [.ite (.cmp .gt (.var 4) (.int 0))
       [.ret (.bl false)]
       [],
      .cont]
     [],
    .ite (.cmp .isnot (.var 5) .non)
     [.set 4 (.blt .min2 [.var 1, .bin .add (.var 4) (.bin .mul (.var 0) (.bin .sub (.ix (.var 3) (.int 0)) (.var 5)))])]
     [],
    .ite (.cmp .lt (.var 4) (.int 1))
     [.ret (.bl false)]
     [],
    .par [4, 5] [.bin .sub (.var 4) (.int 1), .ix (.var 3) (.int 0)]],
  .ret (.bl true)]⟩
def n7 : List Str := ["rate", "depth", "written", "thing", "many", "last"]
/-- many_told(written) -/
def d8 : Def := ⟨1, 0, [.ret (.blt .len [.call 9 [.var 0]])]⟩
def n8 : List Str := ["written"]
/-- seconds_told(written) -/
def d9 : Def := ⟨1, 2, [.ex (.call 6 [.var 0]),
  .set 1 (.lst []),
  .for_ (.nm 2) .seq [.var 0]
   [.set 1 (.bin .add (.var 1) (.ite (.call 5 [.var 2]) (.bin .mul (.lst [.ix (.var 1) (.neg (.int 1))]) (.ix (.var 2) (.int 1))) (.lst [.ix (.var 2) (.int 0)])))],
  .ret (.blt .tuple [.var 1])]⟩
def n9 : List Str := ["written", "found", "thing"]
/-- _law_cell(script, k) -/
def d10 : Def := ⟨2, 0, [.ret (.ite (.cmp .lt (.var 1) (.blt .len [.var 0])) (.blt .abs [.blt .int [.ix (.var 0) (.var 1)]]) (.int 0))]⟩
def n10 : List Str := ["script", "k"]
/-- _law_stream(script, k) -/
def d11 : Def := ⟨2, 0, [.ret (.lst [.call 10 [.var 0, .var 1], .bin .add (.int 1) (.bin .mod (.bin .mul (.int 48271) (.call 10 [.var 0, .var 1])) (.int 2147483647))])]⟩
def n11 : List Str := ["script", "k"]
/-- _law_draw(box, high) -/
def d12 : Def := ⟨2, 1, [.ite (.cmp .gt (.ix (.var 0) (.int 0)) (.int 0))
   [.set 2 (.ix (.var 0) (.int 0)),
    .setIx 0 (.int 0) (.blt .int [.bin .fdiv (.var 2) (.var 1)]),
    .ret (.blt .int [.bin .mod (.var 2) (.var 1)])]
   [],
  .setIx 0 (.int 1) (.bin .mod (.bin .mul (.int 69621) (.ix (.var 0) (.int 1))) (.int 2147483647)),
  .ret (.blt .int [.bin .mod (.bin .fdiv (.ix (.var 0) (.int 1)) (.int 7)) (.var 1)])]⟩
def n12 : List Str := ["box", "high", "cell"]
/-- _law_read(told) -/
def d13 : Def := ⟨1, 1, [.ite (.orL [.cmp .is_ (.var 0) .non, .cmp .is_ (.var 0) (.bl true), .cmp .is_ (.var 0) (.bl false)])
   [.ret (.var 0)]
   [],
  .ite (.isi (.var 0) .int)
   [.ret (.blt .int [.var 0])]
   [],
  .ite (.isi (.var 0) .str)
   [.ret (.bin .add (.str 0) (.var 0))]
   [],
  .ite (.isi (.var 0) .tuple)
   [.ret (.blt .tuple [.comp (.call 13 [.var 1]) (.nm 1) .seq [.var 0] [] [1]])]
   [],
  .ret (.ite (.isi (.var 0) .list) (.comp (.call 13 [.var 1]) (.nm 1) .seq [.var 0] [] [1]) (.str 4))]⟩
def n13 : List Str := ["told", "part"]
/-- _law_bucket(rate, depth, lines) -/
def d14 : Def := ⟨3, 6, [.par [3, 4, 5, 6] [.lst [], .var 1, .int 0, .int 0],
  .for_ (.tp [.nm 7, .nm 8]) .seq [.var 2]
   [.set 4 (.ite (.cmp .ne (.var 3) (.lst [])) (.blt .min2 [.var 1, .bin .add (.var 4) (.bin .mul (.var 0) (.bin .sub (.var 7) (.var 6)))]) (.var 1)),
    .set 6 (.var 7),
    .ite (.cmp .gt (.var 4) (.int 0))
     [.ite (.cmp .gt (.var 5) (.int 0))
       [.ex (.app 3 (.tup [.str 3, .var 5]))]
       [],
      .ex (.app 3 (.tup [.var 7, .var 8])),
      .par [4, 5] [.bin .sub (.var 4) (.int 1), .int 0]]
     [.set 5 (.bin .add (.var 5) (.int 1))]],
  .ret (.blt .tuple [.var 3])]⟩
def n14 : List Str := ["rate", "depth", "lines", "told", "full", "lost", "last", "second", "line"]
/-- _law_written(box) -/
def d15 : Def := ⟨1, 12, [.set 1 (.call 12 [.var 0, .int 3]),
  .set 2 (.ite (.cmp .eq (.var 1) (.int 0)) (.bin .add (.int 1) (.call 12 [.var 0, .int 4])) (.ite (.cmp .eq (.var 1) (.int 1)) (.bin .add (.int 5) (.call 12 [.var 0, .int 40])) (.bin .add (.int 1) (.call 12 [.var 0, .int 1000000])))),
  .set 1 (.call 12 [.var 0, .int 3]),
  .set 3 (.ite (.cmp .eq (.var 1) (.int 0)) (.bin .add (.int 1) (.call 12 [.var 0, .int 3])) (.ite (.cmp .eq (.var 1) (.int 1)) (.bin .add (.int 1) (.call 12 [.var 0, .blt .min2 [.bin .add (.var 2) (.int 3), .int 50]])) (.bin .add (.int 1) (.call 12 [.var 0, .int 1000000])))),
  .par [8, 9] [.lst [], .call 12 [.var 0, .int 1000]],
  .for_ (.nm 4) .rng [.call 12 [.var 0, .int 201]]
   [.set 9 (.bin .add (.var 9) (.ix (.lst [.int 0, .int 0, .int 0, .int 0, .int 0, .int 1, .int 2, .int 40]) (.call 12 [.var 0, .int 8]))),
    .ex (.app 8 (.tup [.var 9, .call 12 [.var 0, .int 10]]))],
  .set 5 (.call 14 [.var 3, .var 2, .var 8]),
  .ite (.cmp .ne (.told (.call 4 [.var 3, .var 2, .blt .tuple [.var 8]])) (.tup [.int 0, .var 5]))
   [.ret (.bl false)]
   [],
  .set 6 (.comp (.var 10) (.nm 10) .seq [.var 5] [.cmp .ne (.ix (.var 10) (.int 0)) (.str 3)] [10]),
  .set 7 (.bin .add (.blt .len [.var 6]) (.blt .sum [.comp (.ix (.var 10) (.int 1)) (.nm 10) .seq [.var 5] [.cmp .eq (.ix (.var 10) (.int 0)) (.str 3)] [10]])),
  .ite (.cmp .gt (.blt .len [.var 6]) (.int 70))
   [.ret (.bl true)]
   [],
  .ite (.cmp .ne (.told (.call 8 [.var 5])) (.tup [.int 0, .var 7]))
   [.ret (.bl false)]
   [],
  .ret (.cmp .eq (.told (.call 9 [.var 5])) (.tup [.int 0, .sl (.blt .tuple [.comp (.var 11) (.tp [.nm 11, .nm 12]) .seq [.var 8] [] [11, 12]]) .abs (.var 7)]))]⟩
def n15 : List Str := ["box", "pick", "depth", "rate", "turn", "due", "kept", "many", "lines", "now", "thing", "second", "line"]
/-- _law_some(box, second, many) -/
def d16 : Def := ⟨3, 1, [.ret (.blt .tuple [.comp (.tup [.var 1, .call 12 [.var 0, .int 10]]) (.nm 3) .rng [.var 2] [] [3]])]⟩
def n16 : List Str := ["box", "second", "many", "turn"]
/-- _law_deep(box) -/
def d17 : Def := ⟨1, 15, [.par [13, 14] [.bin .add (.int 5) (.call 12 [.var 0, .int 20]), .call 12 [.var 0, .int 900000]],
  .set 1 (.bin .add (.int 1) (.call 12 [.var 0, .bin .sub (.var 13) (.int 1)])),
  .set 2 (.comp (.bin .add (.int 1) (.call 12 [.var 0, .int 50])) (.nm 15) .rng [.int 3] [] [15]),
  .set 3 (.bin .add (.call 16 [.var 0, .var 14, .var 13]) (.tup [.tup [.str 3, .ix (.var 2) (.int 0)]])),
  .set 4 (.bin .add (.call 16 [.var 0, .bin .add (.var 14) (.int 1), .var 1]) (.tup [.tup [.str 3, .ix (.var 2) (.int 1)]])),
  .set 5 (.bin .add (.tup [.tup [.str 3, .ix (.var 2) (.int 2)]]) (.call 16 [.var 0, .bin .add (.var 14) (.int 3), .int 1])),
  .set 6 (.bin .add (.bin .add (.bin .add (.var 3) (.var 4)) (.call 16 [.var 0, .bin .add (.var 14) (.int 2), .var 1])) (.var 5)),
  .ite (.cmp .ne (.told (.call 8 [.var 6])) (.tup [.int 0, .bin .add (.bin .add (.bin .add (.var 13) (.bin .mul (.int 2) (.var 1))) (.int 1)) (.blt .sum [.var 2])]))
   [.ret (.bl false)]
   [],
  .set 7 (.bin .add (.bin .add (.bin .add (.bin .mul (.tup [.var 14]) (.bin .add (.var 13) (.ix (.var 2) (.int 0)))) (.bin .mul (.tup [.bin .add (.var 14) (.int 1)]) (.bin .add (.var 1) (.ix (.var 2) (.int 1))))) (.bin .mul (.tup [.bin .add (.var 14) (.int 2)]) (.bin .add (.var 1) (.ix (.var 2) (.int 2))))) (.tup [.bin .add (.var 14) (.int 3)])),
  .ite (.cmp .ne (.told (.call 9 [.var 6])) (.tup [.int 0, .var 7]))
   [.ret (.bl false)]
   [],
  .set 8 (.bin .add (.int 1) (.call 12 [.var 0, .bin .sub (.var 13) (.int 1)])),
  .set 8 (.ite (.cmp .ne (.var 8) (.var 1)) (.var 8) (.ite (.cmp .gt (.var 1) (.int 1)) (.bin .sub (.var 1) (.int 1)) (.bin .add (.var 1) (.int 1)))),
  .set 9 (.bin .add (.bin .add (.var 14) (.int 100)) (.call 12 [.var 0, .int 100])),
  .set 10 (.lst [.bin .add (.bin .add (.bin .add (.var 3) (.var 4)) (.call 16 [.var 0, .bin .add (.var 14) (.int 2), .var 8])) (.var 5), .bin .add (.var 3) (.call 16 [.var 0, .var 9, .bin .add (.var 13) (.int 1)])]),
  .ex (.app 10 (.bin .add (.bin .add (.bin .add (.var 3) (.call 16 [.var 0, .var 9, .bin .sub (.var 13) (.int 1)])) (.tup [.tup [.str 3, .int 1]])) (.call 16 [.var 0, .bin .add (.var 9) (.int 1), .int 1]))),
  .set 11 (.ix (.var 10) (.call 12 [.var 0, .int 3])),
  .set 12 (.fns [8, 9] (.call 12 [.var 0, .int 2])),
  .ite (.cmp .ne (.told (.callv 12 [.var 11])) (.tup [.int 1, .str 2]))
   [.ret (.bl false)]
   [],
  .ret (.cmp .eq (.told (.call 8 [.bin .add (.var 3) (.call 16 [.var 0, .var 9, .var 13])])) (.tup [.int 0, .bin .add (.bin .mul (.int 2) (.var 13)) (.ix (.var 2) (.int 0))]))]⟩
def n17 : List Str := ["box", "rate", "left", "first", "second", "last", "right", "seconds", "other", "far", "wrong", "one", "call", "depth", "start", "turn"]
/-- law(script) -/
def d18 : Def := ⟨1, 0, [.ret (.andL [.call 15 [.call 11 [.var 0, .int 0]], .call 17 [.call 11 [.var 0, .int 1]]])]⟩
def n18 : List Str := ["script"]
def toS (l : List String) : List Str := l.map Str.ofString
def st (i : Nat) : Stmt := PySem.Challenge.pw_evertold_k95_deep_buckets_read_back.main.body.getD i (.Pass ⟨0, 0, 0, 0⟩)
def e0 : Ld := ⟨"is_integer", d0, n0, toS ["thing"], st 7, false⟩
def e1 : Ld := ⟨"is_between", d1, n1, toS ["thing", "low", "high"], st 8, false⟩
def e2 : Ld := ⟨"check_log", d2, n2, toS ["log"], st 9, false⟩
def e3 : Ld := ⟨"check_timed", d3, n3, toS ["lines"], st 12, false⟩
def e4 : Ld := ⟨"through_bucket", d4, n4, toS ["rate", "depth", "lines"], st 13, false⟩
def e5 : Ld := ⟨"is_left", d5, n5, toS ["thing"], st 14, false⟩
def e6 : Ld := ⟨"check_by_bucket", d6, n6, toS ["written"], st 15, false⟩
def e7 : Ld := ⟨"is_written_by", d7, n7, toS ["rate", "depth", "written"], st 16, false⟩
def e8 : Ld := ⟨"many_told", d8, n8, toS ["written"], st 17, false⟩
def e9 : Ld := ⟨"seconds_told", d9, n9, toS ["written"], st 18, false⟩
def e10 : Ld := ⟨"_law_cell", d10, n10, toS ["script", "k"], st 20, false⟩
def e11 : Ld := ⟨"_law_stream", d11, n11, toS ["script", "k"], st 21, false⟩
def e12 : Ld := ⟨"_law_draw", d12, n12, toS ["box", "high"], st 22, false⟩
def e13 : Ld := ⟨"_law_read", d13, n13, toS ["told"], st 23, false⟩
def e14 : Ld := ⟨"_law_bucket", d14, n14, toS ["rate", "depth", "lines"], st 25, false⟩
def e15 : Ld := ⟨"_law_written", d15, n15, toS ["box"], st 26, true⟩
def e16 : Ld := ⟨"_law_some", d16, n16, toS ["box", "second", "many"], st 27, false⟩
def e17 : Ld := ⟨"_law_deep", d17, n17, toS ["box"], st 28, true⟩
def e18 : Ld := ⟨"law", d18, n18, toS ["script"], st 29, false⟩
def es : List Ld := ([e0, e1, e2, e3, e4, e5, e6, e7, e8, e9] : List Ld) ++ ([e10, e11, e12, e13, e14, e15, e16, e17, e18] : List Ld)
def L : LawD := { es := es, cons := ([("MOST_LINE", 9), ("MOST_LOG", 200), ("MOST_NUMBER", 1000000)] : List (Str × Int)), exs := ([("BadLog", false), ("OutOfRange", true)] : List (Str × Bool)), txt := toS ["", "range", "other", "left", "something else"], rd := 13, kr := 1, ko := 2, told := some ("_law_told", st 24) }
theorem o0 : LdOk L.nm e0 := ⟨⟨rfl, rfl, rfl, by decide +kernel, by decide +kernel, by decide +kernel, by decide +kernel⟩, rfl, rfl, by decide +kernel, fun _ _ _ _ _ _ us hl => match us, hl with | [_], _ => rfl⟩
theorem o1 : LdOk L.nm e1 := ⟨⟨rfl, rfl, rfl, by decide +kernel, by decide +kernel, by decide +kernel, by decide +kernel⟩, rfl, rfl, by decide +kernel, fun _ _ _ _ _ _ us hl => match us, hl with | [_, _, _], _ => rfl⟩
theorem o2 : LdOk L.nm e2 := ⟨⟨rfl, rfl, rfl, by decide +kernel, by decide +kernel, by decide +kernel, by decide +kernel⟩, rfl, rfl, by decide +kernel, fun _ _ _ _ _ _ us hl => match us, hl with | [_], _ => rfl⟩
theorem o3 : LdOk L.nm e3 := ⟨⟨rfl, rfl, rfl, by decide +kernel, by decide +kernel, by decide +kernel, by decide +kernel⟩, rfl, rfl, by decide +kernel, fun _ _ _ _ _ _ us hl => match us, hl with | [_], _ => rfl⟩
theorem o4 : LdOk L.nm e4 := ⟨⟨rfl, rfl, rfl, by decide +kernel, by decide +kernel, by decide +kernel, by decide +kernel⟩, rfl, rfl, by decide +kernel, fun _ _ _ _ _ _ us hl => match us, hl with | [_, _, _], _ => rfl⟩
theorem o5 : LdOk L.nm e5 := ⟨⟨rfl, rfl, rfl, by decide +kernel, by decide +kernel, by decide +kernel, by decide +kernel⟩, rfl, rfl, by decide +kernel, fun _ _ _ _ _ _ us hl => match us, hl with | [_], _ => rfl⟩
theorem o6 : LdOk L.nm e6 := ⟨⟨rfl, rfl, rfl, by decide +kernel, by decide +kernel, by decide +kernel, by decide +kernel⟩, rfl, rfl, by decide +kernel, fun _ _ _ _ _ _ us hl => match us, hl with | [_], _ => rfl⟩
theorem o7 : LdOk L.nm e7 := ⟨⟨rfl, rfl, rfl, by decide +kernel, by decide +kernel, by decide +kernel, by decide +kernel⟩, rfl, rfl, by decide +kernel, fun _ _ _ _ _ _ us hl => match us, hl with | [_, _, _], _ => rfl⟩
theorem o8 : LdOk L.nm e8 := ⟨⟨rfl, rfl, rfl, by decide +kernel, by decide +kernel, by decide +kernel, by decide +kernel⟩, rfl, rfl, by decide +kernel, fun _ _ _ _ _ _ us hl => match us, hl with | [_], _ => rfl⟩
theorem o9 : LdOk L.nm e9 := ⟨⟨rfl, rfl, rfl, by decide +kernel, by decide +kernel, by decide +kernel, by decide +kernel⟩, rfl, rfl, by decide +kernel, fun _ _ _ _ _ _ us hl => match us, hl with | [_], _ => rfl⟩
theorem o10 : LdOk L.nm e10 := ⟨⟨rfl, rfl, rfl, by decide +kernel, by decide +kernel, by decide +kernel, by decide +kernel⟩, rfl, rfl, by decide +kernel, fun _ _ _ _ _ _ us hl => match us, hl with | [_, _], _ => rfl⟩
theorem o11 : LdOk L.nm e11 := ⟨⟨rfl, rfl, rfl, by decide +kernel, by decide +kernel, by decide +kernel, by decide +kernel⟩, rfl, rfl, by decide +kernel, fun _ _ _ _ _ _ us hl => match us, hl with | [_, _], _ => rfl⟩
theorem o12 : LdOk L.nm e12 := ⟨⟨rfl, rfl, rfl, by decide +kernel, by decide +kernel, by decide +kernel, by decide +kernel⟩, rfl, rfl, by decide +kernel, fun _ _ _ _ _ _ us hl => match us, hl with | [_, _], _ => rfl⟩
theorem o13 : LdOk L.nm e13 := ⟨⟨rfl, rfl, rfl, by decide +kernel, by decide +kernel, by decide +kernel, by decide +kernel⟩, rfl, rfl, by decide +kernel, fun _ _ _ _ _ _ us hl => match us, hl with | [_], _ => rfl⟩
theorem o14 : LdOk L.nm e14 := ⟨⟨rfl, rfl, rfl, by decide +kernel, by decide +kernel, by decide +kernel, by decide +kernel⟩, rfl, rfl, by decide +kernel, fun _ _ _ _ _ _ us hl => match us, hl with | [_, _, _], _ => rfl⟩
theorem o15 : LdOk L.nm e15 := ⟨⟨rfl, rfl, rfl, by decide +kernel, by decide +kernel, by decide +kernel, by decide +kernel⟩, rfl, rfl, by decide +kernel, fun _ _ _ _ _ _ us hl => match us, hl with | [_], _ => rfl⟩
theorem o16 : LdOk L.nm e16 := ⟨⟨rfl, rfl, rfl, by decide +kernel, by decide +kernel, by decide +kernel, by decide +kernel⟩, rfl, rfl, by decide +kernel, fun _ _ _ _ _ _ us hl => match us, hl with | [_, _, _], _ => rfl⟩
theorem o17 : LdOk L.nm e17 := ⟨⟨rfl, rfl, rfl, by decide +kernel, by decide +kernel, by decide +kernel, by decide +kernel⟩, rfl, rfl, by decide +kernel, fun _ _ _ _ _ _ us hl => match us, hl with | [_], _ => rfl⟩
theorem o18 : LdOk L.nm e18 := ⟨⟨rfl, rfl, rfl, by decide +kernel, by decide +kernel, by decide +kernel, by decide +kernel⟩, rfl, rfl, by decide +kernel, fun _ _ _ _ _ _ us hl => match us, hl with | [_], _ => rfl⟩
theorem ok : ∀ e ∈ L.es, LdOk L.nm e := by
  intro e he
  have he : e ∈ es := he
  simp only [es, List.mem_append, List.mem_cons, List.not_mem_nil, or_false, or_assoc] at he
  rcases he with rfl | rfl | rfl | rfl | rfl | rfl | rfl | rfl | rfl | rfl | rfl | rfl | rfl | rfl | rfl | rfl | rfl | rfl | rfl
  · exact o0
  · exact o1
  · exact o2
  · exact o3
  · exact o4
  · exact o5
  · exact o6
  · exact o7
  · exact o8
  · exact o9
  · exact o10
  · exact o11
  · exact o12
  · exact o13
  · exact o14
  · exact o15
  · exact o16
  · exact o17
  · exact o18
theorem tol : ∀ x s, L.told = some (x, s) → TolOk L x s := by
  intro x s e
  cases e
  exact ⟨⟨rfl, rfl, rfl, by decide +kernel, by decide +kernel, by decide +kernel, by decide +kernel⟩, fun _ _ _ _ _ _ us hl => match us, hl with | [_], _ => rfl, ⟨_, _, _, _, _, _, _, _, _, _, _, _, _, _, _, _, _, _, _, _, _, _, _, _, _, _, _, _, _, _, _, rfl, by decide +kernel, by decide +kernel, by decide +kernel, by decide +kernel, by decide +kernel, rfl, by decide +kernel, rfl, rfl, rfl, rfl, rfl⟩⟩
theorem tok : L.txt.Nodup ∧ (∀ x ∈ L.txt, PyData.canLay0 (.str x) = true ∧ x.length ≤ 1000) ∧ L.txt.headD "" = "" := by decide +kernel
end K95
end Ev
/-! Pv: the evaluator's rows as rules for simp; lemmas of pure comprehensions. -/
namespace Ev
section
variable (T : Top) (C : Calls) (n : Nat) (ρ : Ev)
@[simp] theorem v_non : evE T C .non n ρ = .ok (.d .non) ρ := rfl
@[simp] theorem v_bl (b : Bool) : evE T C (.bl b) n ρ = .ok (.d (.bl b)) ρ := rfl
@[simp] theorem v_int (i : Int) : evE T C (.int i) n ρ = .ok (.d (.int i)) ρ := rfl
@[simp] theorem v_str (k : Nat) : evE T C (.str k) n ρ = .ok (.d (.str k)) ρ := rfl
@[simp] theorem v_var (i : Nat) : evE T C (.var i) n ρ = varS i ρ := rfl
@[simp] theorem v_con (k : Nat) : evE T C (.con k) n ρ = okd T.con[k]? ρ := rfl
@[simp] theorem v_bin (op : Bop) (a b : E) : evE T C (.bin op a b) n ρ = (evE T C a n ρ).bind fun x ρ1 => (evE T C b n ρ1).bind fun y ρ2 => oko (bin op (rs ρ2 x) (rs ρ2 y)) ρ2 := rfl
@[simp] theorem v_neg (a : E) : evE T C (.neg a) n ρ = (evE T C a n ρ).bind fun x ρ1 => R.opt (optInt x) fun i => .ok (.d (.int (-i))) ρ1 := rfl
@[simp] theorem v_and (es : List E) : evE T C (.andL es) n ρ = evAO T C false es n ρ := rfl
@[simp] theorem v_or (es : List E) : evE T C (.orL es) n ρ = evAO T C true es n ρ := rfl
@[simp] theorem v_not (a : E) : evE T C (.not_ a) n ρ = (asT (evE T C a n ρ)).bind fun b ρ1 => .ok (.d (.bl (!b))) ρ1 := rfl
@[simp] theorem v_cmp (op : Cop) (a b : E) : evE T C (.cmp op a b) n ρ = (evE T C a n ρ).bind fun x ρ1 => (evE T C b n ρ1).bind fun y ρ2 => okb (cmp op (rs ρ2 x) (rs ρ2 y)) ρ2 := rfl
@[simp] theorem v_chain (o1 o2 : Cop) (a b c : E) : evE T C (.chain o1 o2 a b c) n ρ = (evE T C a n ρ).bind fun x ρ1 => (evE T C b n ρ1).bind fun y ρ2 => R.opt (cmp o1 (rs ρ2 x) (rs ρ2 y)) fun k =>
      if k = true then (evE T C c n ρ2).bind fun z ρ3 => okb (cmp o2 (rs ρ3 y) (rs ρ3 z)) ρ3 else .ok (.d (.bl false)) ρ2 := rfl
@[simp] theorem v_ite (c a b : E) : evE T C (.ite c a b) n ρ = ifB (asT (evE T C c n ρ)) (evE T C a n) (evE T C b n) := rfl
@[simp] theorem v_tup (es : List E) : evE T C (.tup es) n ρ = (evL T C es n ρ).bind fun os ρ1 => R.opt (keeps ρ1 os) fun p => .ok (.d (.tup p.1)) p.2 := rfl
@[simp] theorem v_lst (es : List E) : evE T C (.lst es) n ρ = (evL T C es n ρ).bind fun os ρ1 => R.opt (keeps ρ1 os) fun p => .ok (.L p.1) p.2 := rfl
@[simp] theorem v_ix (a i : E) : evE T C (.ix a i) n ρ = (evE T C a n ρ).bind fun x ρ1 => (evE T C i n ρ1).bind fun y ρ2 => okd (index (rs ρ2 x) (rs ρ2 y)) ρ2 := rfl
@[simp] theorem v_sl (a lo hi : E) : evE T C (.sl a lo hi) n ρ = (evE T C a n ρ).bind fun x ρ1 => (if isAbs lo = true then .ok none ρ1 else asI (evE T C lo n ρ1)).bind fun l ρ2 =>
      (if isAbs hi = true then .ok none ρ2 else asI (evE T C hi n ρ2)).bind fun h ρ3 => oko (slice (rs ρ3 x) l h) ρ3 := rfl
@[simp] theorem v_call (f : Nat) (es : List E) : evE T C (.call f es) n ρ = (evL T C es n ρ).bind fun os ρ1 => callF C n f os ρ1 := rfl
@[simp] theorem v_blt (b : Blt) (es : List E) : evE T C (.blt b es) n ρ = (evL T C es n ρ).bind fun os ρ1 => oko (blt b (os.map (rs ρ1))) ρ1 := rfl
@[simp] theorem v_isi (a : E) (t : Ty) : evE T C (.isi a t) n ρ = (evE T C a n ρ).bind fun x ρ1 => okb (isTy t (rs ρ1 x)) ρ1 := rfl
@[simp] theorem v_app (i : Nat) (e : E) : evE T C (.app i e) n ρ = if isL ρ i = true then (evE T C e n ρ).bind fun x ρ1 => R.opt (keep ρ1 x) fun p => appS i p.1 p.2 else .stuck := rfl
@[simp] theorem v_pop (i : Nat) : evE T C (.pop i) n ρ = popS i ρ := rfl
@[simp] theorem v_told (b : E) (m : Nat) : evE T C (.told b) (m + 2) ρ = toldS T C m (evE T C b m ρ) := rfl
@[simp] theorem v_comp (elt : E) (tg : Tg) (k : Ik) (es ifs : List E) (own : List Nat) : evE T C (.comp elt tg k es ifs own) n ρ = (iterF k (evL T C es n ρ)).bind fun p ρ1 => compEnd own ρ1 p.2 (walkL (compTurn own ρ1 p.2 tg (evTs T C ifs n) (evE T C elt n)) p.1 [] (wipe ρ1 own)) := rfl
@[simp] theorem v_lnil : evL T C [] n ρ = .ok [] ρ := rfl
@[simp] theorem v_lcons (e : E) (es : List E) : evL T C (e :: es) n ρ = (evE T C e n ρ).bind fun o ρ1 => (evL T C es n ρ1).bind fun os ρ2 => .ok (o :: os) ρ2 := rfl
@[simp] theorem v_tnil : evTs T C [] n ρ = .ok true ρ := rfl
@[simp] theorem v_tcons (e : E) (es : List E) : evTs T C (e :: es) n ρ = ifB (asT (evE T C e n ρ)) (evTs T C es n) (fun ρ1 => .ok false ρ1) := rfl
@[simp] theorem v_ao1 (stop : Bool) (e : E) : evAO T C stop [e] n ρ = evE T C e n ρ := rfl
@[simp] theorem v_ao2 (stop : Bool) (e e' : E) (es : List E) : evAO T C stop (e :: e' :: es) n ρ = onB stop (evE T C e n ρ) (evAO T C stop (e' :: es) n) := rfl
@[simp] theorem v_ex (e : E) : evS T C (.ex e) n ρ = (evE T C e n ρ).bind fun _ ρ1 => .ok .nx ρ1 := rfl
@[simp] theorem v_ret (e : E) : evS T C (.ret e) n ρ = (evE T C e n ρ).bind fun o ρ1 => .ok (.ret o) ρ1 := rfl
@[simp] theorem v_set (i : Nat) (e : E) : evS T C (.set i e) n ρ = (evE T C e n ρ).bind fun o ρ1 => nxt (assign ρ1 i o) := rfl
@[simp] theorem v_setT (ts : List Tg) (e : E) : evS T C (.setT ts e) n ρ = (evE T C e n ρ).bind fun o ρ1 => match o with
    | .d x => nxt (bindT (.tp ts) x ρ1)
    | _ => .stuck := rfl
@[simp] theorem v_par (is : List Nat) (es : List E) : evS T C (.par is es) n ρ = (evL T C es n ρ).bind fun os ρ1 => R.grd ((walked os).all fun k => !is.contains k) (nxt (assigns ρ1 is os)) := rfl
@[simp] theorem v_setIx (i : Nat) (k e : E) : evS T C (.setIx i k e) n ρ = (evE T C e n ρ).bind fun o ρ1 => R.opt (keep ρ1 o) fun p => R.grd (isL p.2 i) ((evE T C k n p.2).bind fun y ρ2 => nxt (setAt ρ2 i y p.1)) := rfl
@[simp] theorem v_if (c : E) (a b : List S) : evS T C (.ite c a b) n ρ = ifB (asT (evE T C c n ρ)) (evB T C a n) (evB T C b n) := rfl
@[simp] theorem v_for (tg : Tg) (k : Ik) (es : List E) (b : List S) : evS T C (.for_ tg k es b) n ρ = (iterF k (evL T C es n ρ)).bind fun p ρ1 => R.grd (p.2.all fun i => !(slots tg ++ setss b).contains i) (forL p.2 ρ1 tg (evB T C b n) p.1 ρ1) := rfl
@[simp] theorem v_while (c : E) (b : List S) : evS T C (.while_ c b) n ρ = whileL (fun ρ => asT (evE T C c n ρ)) (evB T C b n) big ρ := rfl
@[simp] theorem v_raise (c : Nat) : evS T C (.raise c) n ρ = .exc c ρ := rfl
@[simp] theorem v_bnil : evB T C [] n ρ = .ok .nx ρ := rfl
@[simp] theorem v_bcons (s : S) (ss : List S) : evB T C (s :: ss) n ρ = (evS T C s n ρ).bind fun fl ρ1 => match fl with
    | .nx => evB T C ss n ρ1
    | fl => .ok fl ρ1 := rfl
end
section
variable (ρ : Ev)
@[simp] theorem ifB_t {α : Type} (f g : Ev → R α) : ifB (.ok true ρ) f g = f ρ := rfl
@[simp] theorem ifB_f {α : Type} (f g : Ev → R α) : ifB (.ok false ρ) f g = g ρ := rfl
theorem ifB_b {α : Type} (b : Bool) (f g : Ev → R α) : ifB (.ok b ρ) f g = if b = true then f ρ else g ρ := rfl
@[simp] theorem ifB_exc {α : Type} (c : Nat) (f g : Ev → R α) : ifB (.exc c ρ) f g = .exc c ρ := rfl
@[simp] theorem asT_d (x : D) : asT (.ok (.d x) ρ) = R.opt (truth (.d x)) fun b => .ok b ρ := rfl
@[simp] theorem asT_L (x : List D) : asT (.ok (.L x) ρ) = .ok (!x.isEmpty) ρ := rfl
@[simp] theorem asT_exc (c : Nat) : asT (.exc c ρ) = .exc c ρ := rfl
@[simp] theorem asI_d (i : Int) : asI (.ok (.d (.int i)) ρ) = .ok (some i) ρ := rfl
@[simp] theorem asI_exc (c : Nat) : asI (.exc c ρ) = .exc c ρ := rfl
@[simp] theorem onB_b (s b : Bool) (f : Ev → R O) : onB s (.ok (.d (.bl b)) ρ) f = if b = s then .ok (.d (.bl b)) ρ else f ρ := rfl
@[simp] theorem onB_exc (s : Bool) (c : Nat) (f : Ev → R O) : onB s (.exc c ρ) f = .exc c ρ := rfl
@[simp] theorem truth_bl (b : Bool) : truth (.d (.bl b)) = some b := rfl
@[simp] theorem rs_d (x : D) : rs ρ (.d x) = .d x := rfl
@[simp] theorem rs_L (x : List D) : rs ρ (.L x) = .L x := rfl
@[simp] theorem okb_some (b : Bool) : okb (some b) ρ = .ok (.d (.bl b)) ρ := rfl
@[simp] theorem oko_some (o : O) : oko (some o) ρ = .ok o ρ := rfl
@[simp] theorem okd_some (x : D) : okd (some x) ρ = .ok (.d x) ρ := rfl
@[simp] theorem keep_d (x : D) : keep ρ (.d x) = some (x, ρ) := rfl
@[simp] theorem keep_L (x : List D) : keep ρ (.L x) = some (.lst x, ρ) := rfl
@[simp] theorem keeps_nil : keeps ρ [] = some ([], ρ) := rfl
@[simp] theorem keeps_d (x : D) (os : List O) : keeps ρ (.d x :: os) = (keeps ρ os).map fun p => (x :: p.1, p.2) := by
  show (match keeps ρ os with | none => none | some (xs, ρ2) => some (x :: xs, ρ2)) = _
  cases keeps ρ os <;> rfl
@[simp] theorem keeps_L (x : List D) (os : List O) : keeps ρ (.L x :: os) = (keeps ρ os).map fun p => (.lst x :: p.1, p.2) := by
  show (match keeps ρ os with | none => none | some (xs, ρ2) => some (D.lst x :: xs, ρ2)) = _
  cases keeps ρ os <;> rfl
@[simp] theorem assign_d (i : Nat) (x : D) : assign ρ i (.d x) = store ρ i (.d x) := rfl
@[simp] theorem assign_L (i : Nat) (x : List D) : assign ρ i (.L x) = store ρ i (.L false x) := rfl
@[simp] theorem walked_nil : walked [] = [] := rfl
@[simp] theorem walked_d (x : D) (os : List O) : walked (.d x :: os) = walked os := rfl
@[simp] theorem walked_L (x : List D) (os : List O) : walked (.L x :: os) = walked os := rfl
@[simp] theorem walked_bor (i : Nat) (os : List O) : walked (.bor i :: os) = i :: walked os := rfl
@[simp] theorem give_d (x : D) : give ρ (.d x) = some (.d x, ρ) := rfl
@[simp] theorem give_L (x : List D) : give ρ (.L x) = some (.L x, ρ) := rfl
@[simp] theorem cmp_lt_i (i j : Int) : cmp .lt (.d (.int i)) (.d (.int j)) = some (decide (i < j)) := rfl
@[simp] theorem cmp_le_i (i j : Int) : cmp .le (.d (.int i)) (.d (.int j)) = some (decide (i ≤ j)) := rfl
@[simp] theorem cmp_gt_i (i j : Int) : cmp .gt (.d (.int i)) (.d (.int j)) = some (decide (j < i)) := rfl
@[simp] theorem cmp_ge_i (i j : Int) : cmp .ge (.d (.int i)) (.d (.int j)) = some (decide (j ≤ i)) := rfl
theorem lim_int (i : Int) (n : Nat) : lim (.int i) n = true := by cases n <;> simp [lim]
theorem lim_bl (i : Bool) (n : Nat) : lim (.bl i) n = true := by cases n <;> simp [lim]
theorem lim_str (i : Nat) (n : Nat) : lim (.str i) n = true := by cases n <;> simp [lim]
theorem lim_non (n : Nat) : lim .non n = true := by cases n <;> simp [lim]
@[simp] theorem same_ii (i j : Int) : same (.int i) (.int j) = some (i == j) := by simp [same, lim_int, eqb]
@[simp] theorem same_ss (i j : Nat) : same (.str i) (.str j) = some (i == j) := by simp [same, lim_str, eqb]
@[simp] theorem same_bb (i j : Bool) : same (.bl i) (.bl j) = some (i == j) := by simp [same, lim_bl, eqb]
@[simp] theorem cmp_eq_d (x y : D) : cmp .eq (.d x) (.d y) = same x y := rfl
@[simp] theorem cmp_ne_d (x y : D) : cmp .ne (.d x) (.d y) = (same x y).map (!·) := rfl
@[simp] theorem cmp_is_non (x : D) : cmp .is_ (.d x) (.d .non) = some (isNon x) := rfl
@[simp] theorem cmp_isnot_non (x : D) : cmp .isnot (.d x) (.d .non) = some (!isNon x) := rfl
@[simp] theorem cmp_is_bl (x : D) (c : Bool) : cmp .is_ (.d x) (.d (.bl c)) = some (isBl c x) := rfl
@[simp] theorem bin_add_i (i j : Int) : bin .add (.d (.int i)) (.d (.int j)) = some (.d (.int (i + j))) := rfl
@[simp] theorem bin_sub_i (i j : Int) : bin .sub (.d (.int i)) (.d (.int j)) = some (.d (.int (i - j))) := rfl
@[simp] theorem bin_mod_i (i j : Int) (h : 0 < j) : bin .mod (.d (.int i)) (.d (.int j)) = some (.d (.int (i % j))) := by simp [bin, modO, h]
@[simp] theorem bin_fdiv_i (i j : Int) (h : 0 < j) (h2 : j < 1073741824) : bin .fdiv (.d (.int i)) (.d (.int j)) = some (.d (.int (i / j))) := by simp [bin, fdivO, h, h2]
@[simp] theorem bin_mul_i (i j : Int) (h : (sml i || sml j) = true) : bin .mul (.d (.int i)) (.d (.int j)) = some (.d (.int (i * j))) := by simp [bin, mulO, h]
@[simp] theorem calm_ok {α : Type} (a : α) : (R.ok a ρ).calm = .ok a ρ := rfl
@[simp] theorem len_tup (xs : List D) : blt .len [.d (.tup xs)] = some (.d (.int xs.length)) := rfl
@[simp] theorem len_lst (xs : List D) : blt .len [.d (.lst xs)] = some (.d (.int xs.length)) := rfl
@[simp] theorem len_L (xs : List D) : blt .len [.L xs] = some (.d (.int xs.length)) := rfl
@[simp] theorem tuple_L (xs : List D) : blt .tuple [.L xs] = some (.d (.tup xs)) := rfl
@[simp] theorem tuple_tup (xs : List D) : blt .tuple [.d (.tup xs)] = some (.d (.tup xs)) := rfl
@[simp] theorem index_tup (xs : List D) (i : Int) : index (.d (.tup xs)) (.d (.int i)) = at_ xs i := rfl
@[simp] theorem index_lst (xs : List D) (i : Int) : index (.d (.lst xs)) (.d (.int i)) = at_ xs i := rfl
@[simp] theorem index_L (xs : List D) (i : Int) : index (.L xs) (.d (.int i)) = at_ xs i := rfl
@[simp] theorem at_nat (xs : List D) (i : Nat) : at_ xs (i : Int) = xs[i]? := by
  unfold at_ place
  rw [if_pos (by omega)]
  split
  · simp
  · next h => simp; omega
@[simp] theorem at_0 (xs : List D) : at_ xs 0 = xs[0]? := at_nat xs 0
@[simp] theorem at_1 (xs : List D) : at_ xs 1 = xs[1]? := at_nat xs 1
@[simp] theorem at_2 (xs : List D) : at_ xs 2 = xs[2]? := at_nat xs 2
@[simp] theorem isTy_d (t : Ty) (x : D) : isTy t (.d x) = some (match x, t with
    | .bl _, .int => true | .bl _, .bool => true | .int _, .int => true | .str _, .str => true | .tup _, .tuple => true | .lst _, .list => true | _, _ => false) := rfl
end
/-- a call with data alone -/
def arg (x : D) : Option W := some (.d x)
theorem handL_d (ρ : Ev) (xs : List D) : handL ρ (xs.map O.d) = some (xs.map arg) := by
  induction xs with
  | nil => rfl
  | cons x xs ih =>
    show ((handL ρ (xs.map O.d)).map (some (W.d x) :: ·)) = _
    rw [ih]; rfl
theorem walked_ds (xs : List D) : walked (xs.map O.d) = [] := by
  induction xs with
  | nil => rfl
  | cons x xs ih => exact ih
theorem handB_d (ρ : Ev) (xs : List D) : ∀ r : Ev, r.length = xs.length → handB ρ (xs.map O.d) r = some ρ := by
  induction xs with
  | nil => intro r h; cases r <;> rfl
  | cons x xs ih =>
    intro r h
    cases r with
    | nil => cases h
    | cons a r => exact ih r (by simpa using h)
/-- a call by data: what the def hands back, the slots untouched -/
theorem callF_d (T : Top) (ds : List Def) (m f : Nat) (xs : List D) (ρ : Ev) (y : D) (r : Ev) (h : call T ds m f (xs.map arg) = .ok (.d y) r) (hr : r.length = xs.length) :
    callF (calls T ds m) m f (xs.map O.d) ρ = .ok (.d y) ρ := by
  unfold callF
  rw [walked_ds, handL_d]
  show (match (call T ds m f (xs.map arg) : R O) with
    | .ok o ρ1 => if isBor o = true then R.stuck else R.opt (handB ρ (xs.map O.d) ρ1) fun ρ2 => .ok o ρ2
    | .exc c ρ1 => R.opt (handB ρ (xs.map O.d) ρ1) fun ρ2 => .exc c ρ2
    | .stuck => R.stuck) = _
  rw [h]
  simp [isBor, handB_d ρ xs r hr]
theorem outs_d (xs : List D) : ∀ ρ : Ev, xs.length ≤ ρ.length → outs xs.length (xs.map arg) ρ = some (List.replicate xs.length none) := by
  induction xs with
  | nil => intro ρ h; cases ρ <;> rfl
  | cons x xs ih =>
    intro ρ h
    cases ρ with
    | nil => cases h
    | cons a r =>
      show ((outs xs.length (xs.map arg) r).map ((none : Option W) :: ·)) = _
      rw [ih r (by simpa using h)]; rfl
end Ev
/-! Pw: how a def's run is told from its body's, by data. -/
namespace Ev
@[simp] theorem optInt_i (i : Int) : optInt (.d (.int i)) = some i := rfl
@[simp] theorem nxt_ok (ρ : Ev) : nxt (some ρ) = .ok .nx ρ := rfl
@[simp] theorem whileL_s (t : Ev → R Bool) (b : Ev → R Fl) (m : Nat) (ρ : Ev) : whileL t b (m + 1) ρ = ifB (t ρ) (fun ρ1 => (b ρ1).bind fun fl ρ2 => match fl with
      | .nx => whileL t b m ρ2
      | .cont => whileL t b m ρ2
      | .brk => .ok .nx ρ2
      | .ret o => .ok (.ret o) ρ2) (fun ρ1 => .ok .nx ρ1) := rfl
/-- what a body's run hands back -/
def fin (k : Nat) : R Fl → Option O
  | .ok (.ret (.d y)) ρ => if k ≤ ρ.length then some (.d y) else none
  | .ok (.ret (.L y)) ρ => if k ≤ ρ.length then some (.L y) else none
  | .ok .nx ρ => if k ≤ ρ.length then some (.d .non) else none
  | _ => none
@[simp] theorem fin_d (k : Nat) (y : D) (ρ : Ev) : fin k (.ok (.ret (.d y)) ρ) = if k ≤ ρ.length then some (.d y) else none := rfl
@[simp] theorem fin_L (k : Nat) (y : List D) (ρ : Ev) : fin k (.ok (.ret (.L y)) ρ) = if k ≤ ρ.length then some (.L y) else none := rfl
@[simp] theorem fin_nx (k : Nat) (ρ : Ev) : fin k (.ok .nx ρ) = if k ≤ ρ.length then some (.d .non) else none := rfl
theorem runD_fin (T : Top) (C : Calls) (d : Def) (n : Nat) (xs : List D) (o : O) (hl : xs.length = d.np) (h : fin xs.length (evB T C d.body n (xs.map arg ++ List.replicate d.nl none)) = some o) :
    runD T C d n (xs.map arg) = .ok o (List.replicate xs.length none) ∧ isBor o = false := by
  unfold runD
  rw [if_pos (by simpa using hl)]
  cases hb : evB T C d.body n (xs.map arg ++ List.replicate d.nl none) with
  | stuck => rw [hb] at h; cases h
  | exc c ρ => rw [hb] at h; cases h
  | ok fl ρ =>
    rw [hb] at h
    cases fl with
    | brk => cases h
    | cont => cases h
    | nx =>
      rw [fin_nx] at h
      split at h
      · next hk =>
        cases h
        simp [outs_d xs ρ hk, isBor]
      · cases h
    | ret r =>
      cases r with
      | bor i => cases h
      | M t kv => cases h
      | F f => cases h
      | d y =>
        rw [fin_d] at h
        split at h
        · next hk =>
          cases h
          simp [outs_d xs ρ hk, isBor]
        · cases h
      | L y =>
        rw [fin_L] at h
        split at h
        · next hk =>
          cases h
          simp [outs_d xs ρ hk, isBor]
        · cases h
/-- a call by data, from its body's run -/
theorem callF_fin (T : Top) (ds : List Def) (m f : Nat) (d : Def) (hd : ds[f]? = some d) (xs : List D) (ρ : Ev) (o : O) (hl : xs.length = d.np) (h : fin xs.length (evB T (calls T ds m) d.body m (xs.map arg ++ List.replicate d.nl none)) = some o) :
    callF (calls T ds (m + 1)) (m + 1) f (xs.map O.d) ρ = .ok o ρ := by
  obtain ⟨h1, h2⟩ := runD_fin T (calls T ds m) d m xs o hl h
  unfold callF
  rw [walked_ds, handL_d]
  have e : calls T ds (m + 1) (m + 1) f (xs.map arg) = .ok o (List.replicate xs.length none) := by
    show call T ds (m + 1) f (xs.map arg) = _
    rw [call_succ, hd]
    exact h1
  simp only [onceEach, if_true, R.opt_some]
  rw [e]
  simp [h2, handB_d]
/-- a call by data that raises -/
def exB (k : Nat) : R Fl → Option Nat
  | .exc c ρ => if k ≤ ρ.length then some c else none
  | _ => none
@[simp] theorem exB_exc (k c : Nat) (ρ : Ev) : exB k (.exc c ρ) = if k ≤ ρ.length then some c else none := rfl
/-- walks of comprehensions that leave the slots: each turn by itself -/
theorem walkL_map (turn : D → List D → Ev → R (List D)) (ρ : Ev) (f : D → List D) : ∀ (xs acc : List D), (∀ x ∈ xs, ∀ acc : List D, acc.length ≤ (acc.length + (xs.length - 1)) → turn x acc ρ = .ok (acc ++ f x) ρ) → walkL turn xs acc ρ = .ok (acc ++ xs.flatMap f) ρ
  | [], acc, _ => by simp [walkL]
  | x :: xs, acc, h => by
    show (turn x acc ρ).bind (walkL turn xs) = _
    rw [h x (by simp) acc (by simp)]
    show walkL turn xs (acc ++ f x) ρ = _
    rw [walkL_map turn ρ f xs (acc ++ f x) (fun y hy a ha => h y (List.mem_cons_of_mem _ hy) a (by simp))]
    simp
/-- a one-clause comprehension over data: what it holds -/
theorem comp_pure (own : List Nat) (ρ1 : Ev) (tg : Tg) (tests : Ev → R Bool) (elt : Ev → R O) (xs : List D) (f : D → List D)
    (hb : back ρ1 (wipe ρ1 own) own = ρ1) (hc : xs.length ≤ cap)
    (h : ∀ x ∈ xs, ∃ ρ2, bindT tg x (wipe ρ1 own) = some ρ2 ∧ wipe ρ2 own = wipe ρ1 own ∧ ((tests ρ2 = .ok false ρ2 ∧ f x = []) ∨ (tests ρ2 = .ok true ρ2 ∧ ∃ y, elt ρ2 = .ok (.d y) ρ2 ∧ f x = [y]))) :
    compEnd own ρ1 [] (walkL (compTurn own ρ1 [] tg tests elt) xs [] (wipe ρ1 own)) = .ok (.L (xs.flatMap f)) ρ1 := by
  have hl : ∀ (ys acc : List D), (∀ x ∈ ys, x ∈ xs) → acc.length + ys.length ≤ cap → walkL (compTurn own ρ1 [] tg tests elt) ys acc (wipe ρ1 own) = .ok (acc ++ ys.flatMap f) (wipe ρ1 own) := by
    intro ys
    induction ys with
    | nil => intro acc _ _; simp [walkL]
    | cons x ys ih =>
      intro acc hm hcap
      obtain ⟨ρ2, e1, e2, e3⟩ := h x (hm x (by simp))
      show (compTurn own ρ1 [] tg tests elt x acc (wipe ρ1 own)).bind (walkL _ ys) = _
      have hcap' : acc.length + (ys.length + 1) ≤ cap := by simpa using hcap
      have ht : compTurn own ρ1 [] tg tests elt x acc (wipe ρ1 own) = .ok (acc ++ f x) (wipe ρ1 own) := by
        have hlt : acc.length < cap := by omega
        unfold compTurn
        rcases e3 with ⟨t, fx⟩ | ⟨t, y, ey, fx⟩
        · simp [stands, e1, t, fx, e2]
        · simp only [stands, if_true, e1, R.opt_some, t, ifB_t, ey, R.bind_ok, keep_d, hlt, e2, fx]
      rw [ht]
      show walkL (compTurn own ρ1 [] tg tests elt) ys (acc ++ f x) (wipe ρ1 own) = _
      have hf : (f x).length ≤ 1 := by
        rcases e3 with ⟨t, fx⟩ | ⟨t, y, ey, fx⟩ <;> simp [fx]
      rw [ih (acc ++ f x) (fun z hz => hm z (List.mem_cons_of_mem _ hz)) (by simp; omega)]
      simp
  unfold compEnd
  rw [hl xs [] (fun x h => h) (by simpa using hc)]
  simp [stands, hb]
/-- all of them true -/
theorem bols_map (xs : List D) (p : D → Bool) : bolsOf (xs.flatMap fun x => [D.bl (p x)]) = some (xs.map p) := by
  induction xs with
  | nil => rfl
  | cons x xs ih =>
    show (bolsOf (xs.flatMap fun x => [D.bl (p x)])).map (p x :: ·) = _
    rw [ih]; rfl
theorem all_comp (xs : List D) (p : D → Bool) : blt .all [.L (xs.flatMap fun x => [D.bl (p x)])] = some (.d (.bl (xs.all p))) := by
  show ((itemsL (.L (xs.flatMap fun x => [D.bl (p x)]))).bind fun xs => (bolsOf xs).map fun bs => O.d (.bl (bs.all id))) = _
  show ((bolsOf (xs.flatMap fun x => [D.bl (p x)])).map fun bs => O.d (.bl (bs.all id))) = _
  rw [bols_map]
  simp [List.all_map]
theorem any_comp (xs : List D) (p : D → Bool) : blt .any [.L (xs.flatMap fun x => [D.bl (p x)])] = some (.d (.bl (xs.any p))) := by
  show ((bolsOf (xs.flatMap fun x => [D.bl (p x)])).map fun bs => O.d (.bl (bs.any id))) = _
  rw [bols_map]
  simp [List.any_map]
end Ev
/-! Pg0: plain rules for the evaluator that every law shares (1). -/
namespace Ev
@[simp] theorem iter_tup (ρ : Ev) (xs : List D) : iterF .seq (.ok [.d (.tup xs)] ρ) = .ok (xs, []) ρ := rfl
@[simp] theorem iter_lst (ρ : Ev) (xs : List D) : iterF .seq (.ok [.d (.lst xs)] ρ) = .ok (xs, []) ρ := rfl
@[simp] theorem iter_L (ρ : Ev) (xs : List D) : iterF .seq (.ok [.L xs] ρ) = .ok (xs, []) ρ := rfl
@[simp] theorem iter_enumT (ρ : Ev) (xs : List D) : iterF .enum (.ok [.d (.tup xs)] ρ) = .ok (enumFrom 0 xs, []) ρ := rfl
@[simp] theorem iter_enumL (ρ : Ev) (xs : List D) : iterF .enum (.ok [.d (.lst xs)] ρ) = .ok (enumFrom 0 xs, []) ρ := rfl
@[simp] theorem int_i (i : Int) : blt .int [.d (.int i)] = some (.d (.int i)) := rfl
@[simp] theorem int_b (b : Bool) : blt .int [.d (.bl b)] = some (.d (.int (if b then 1 else 0))) := rfl
@[simp] theorem abs_i (i : Int) : blt .abs [.d (.int i)] = some (.d (.int (if i < 0 then -i else i))) := rfl
@[simp] theorem v_comp2 (T : Top) (C : Calls) (n : Nat) (ρ : Ev) (elt : E) (t1 : Tg) (k1 : Ik) (e1 : List E) (t2 : Tg) (k2 : Ik) (e2 ifs : List E) (own : List Nat) : evE T C (.comp2 elt t1 k1 e1 t2 k2 e2 ifs own) n ρ = (iterF k1 (evL T C e1 n ρ)).bind fun p ρ1 => compEnd own ρ1 p.2 (walkL (compTurn2 own ρ1 p.2 t1 (fun ρ2 => iterF k2 (evL T C e2 n ρ2)) (slots t2)
      fun ρ3 ws2 => compTurn (slots t2) ρ3 ws2 t2 (evTs T C ifs n) (evE T C elt n)) p.1 [] (wipe ρ1 own)) := rfl
@[simp] theorem v_fns (T : Top) (C : Calls) (n : Nat) (ρ : Ev) (fs : List Nat) (a : E) : evE T C (.fns fs a) n ρ = (evE T C a n ρ).bind fun y ρ1 => fnS fs y ρ1 := rfl
@[simp] theorem v_callv (T : Top) (C : Calls) (n i : Nat) (ρ : Ev) (es : List E) : evE T C (.callv i es) n ρ = callvS C n i ρ (evL T C es n ρ) := rfl
@[simp] theorem v_aug (T : Top) (C : Calls) (n : Nat) (ρ : Ev) (i : Nat) (op : Bop) (e : E) : evS T C (.aug i op e) n ρ = match ρ[i]? with
    | some (some (.d (.int a))) => (evE T C e n ρ).bind fun o ρ1 => R.opt (optInt o) fun b => R.opt (augI op a b) fun z => nxt (store ρ1 i (.d (.int z)))
    | _ => .stuck := rfl
@[simp] theorem v_retN (T : Top) (C : Calls) (n : Nat) (ρ : Ev) : evS T C .retN n ρ = .ok (.ret (.d .non)) ρ := rfl
@[simp] theorem v_pass (T : Top) (C : Calls) (n : Nat) (ρ : Ev) : evS T C .pass n ρ = .ok .nx ρ := rfl
@[simp] theorem v_brk (T : Top) (C : Calls) (n : Nat) (ρ : Ev) : evS T C .brk n ρ = .ok .brk ρ := rfl
@[simp] theorem v_cont (T : Top) (C : Calls) (n : Nat) (ρ : Ev) : evS T C .cont n ρ = .ok .cont ρ := rfl
theorem evB_nx {T : Top} {C : Calls} {s : S} {n : Nat} {ρ ρ' : Ev} (h : evS T C s n ρ = .ok .nx ρ') (ss : List S) : evB T C (s :: ss) n ρ = evB T C ss n ρ' := by
  rw [v_bcons, h]; rfl
theorem evB_fl {T : Top} {C : Calls} {s : S} {n : Nat} {ρ ρ' : Ev} {o : O} (h : evS T C s n ρ = .ok (.ret o) ρ') (ss : List S) : evB T C (s :: ss) n ρ = .ok (.ret o) ρ' := by
  rw [v_bcons, h]; rfl
theorem evB_cont {T : Top} {C : Calls} {s : S} {n : Nat} {ρ ρ' : Ev} (h : evS T C s n ρ = .ok .cont ρ') (ss : List S) : evB T C (s :: ss) n ρ = .ok .cont ρ' := by
  rw [v_bcons, h]; rfl
theorem evB_exc {T : Top} {C : Calls} {s : S} {n : Nat} {ρ ρ' : Ev} {c : Nat} (h : evS T C s n ρ = .exc c ρ') (ss : List S) : evB T C (s :: ss) n ρ = .exc c ρ' := by
  rw [v_bcons, h]; rfl
/-! ### equality -/
mutual
theorem beq_refl : ∀ x : D, D.beq x x = true
  | .non => by simp [D.beq]
  | .bl b => by simp [D.beq]
  | .int i => by simp [D.beq]
  | .str s => by simp [D.beq]
  | .tup xs => by simp [D.beq, beqs_refl xs]
  | .lst xs => by simp [D.beq, beqs_refl xs]
theorem beqs_refl : ∀ xs : List D, D.beqs xs xs = true
  | [] => by simp [D.beqs]
  | x :: xs => by simp [D.beqs, beq_refl x, beqs_refl xs]
end
mutual
theorem eqb_refl : ∀ x : D, eqb x x = true
  | .non => by simp [eqb]
  | .bl b => by simp [eqb]
  | .int i => by simp [eqb]
  | .str s => by simp [eqb]
  | .tup xs => by simp [eqb, eqbs_refl xs]
  | .lst xs => by simp [eqb, eqbs_refl xs]
theorem eqbs_refl : ∀ xs : List D, eqbs xs xs = true
  | [] => by simp [eqbs]
  | x :: xs => by simp [eqbs, eqb_refl x, eqbs_refl xs]
end
theorem same_refl {x : D} (h : lim x 60 = true) : same x x = some true := by
  simp [same, limit, h, eqb_refl]
theorem limL_of {n : Nat} : ∀ xs : List D, (∀ x ∈ xs, lim x n = true) → limL xs n = true
  | [], _ => by simp [limL]
  | x :: xs, h => by
    simp only [limL, Bool.and_eq_true]
    exact ⟨h x (by simp), limL_of xs fun y hy => h y (List.mem_cons_of_mem _ hy)⟩
theorem lim_tup {n : Nat} {xs : List D} (h : ∀ x ∈ xs, lim x n = true) : lim (.tup xs) (n + 1) = true := by
  simp only [lim]
  exact limL_of xs h
theorem lim_lst {n : Nat} {xs : List D} (h : ∀ x ∈ xs, lim x n = true) : lim (.lst xs) (n + 1) = true := by
  simp only [lim]
  exact limL_of xs h
theorem eqbs_ints : ∀ xs ys : List Int, eqbs (xs.map D.int) (ys.map D.int) = decide (xs = ys)
  | [], [] => by simp [eqbs]
  | [], _ :: _ => by simp [eqbs]
  | _ :: _, [] => by simp [eqbs]
  | x :: xs, y :: ys => by
    simp [eqbs, eqb, eqbs_ints xs ys]
    rfl
theorem limL_ints : ∀ (xs : List Int) (n : Nat), limL (xs.map D.int) n = true
  | [], n => by simp [limL]
  | x :: xs, n => by simp [limL, lim_int, limL_ints xs n]
/-! ### ranges -/
theorem iter_rng (ρ : Ev) (a b : Int) (h : (inR a && inR b) = true) : iterF .rng (.ok [.d (.int a), .d (.int b)] ρ) = .ok (upTo a b, []) ρ := by
  simp only [iterF, R.bind_ok, List.map, rs_d, walk]
  rw [if_pos h]; rfl
theorem iter_rng1 (ρ : Ev) (b : Int) (h : inR b = true) : iterF .rng (.ok [.d (.int b)] ρ) = .ok (upTo 0 b, []) ρ := by
  simp only [iterF, R.bind_ok, List.map, rs_d, walk]
  rw [if_pos h]; rfl
theorem inR_sm (i : Int) (h0 : -100000000 ≤ i) (h1 : i ≤ 100000000) : inR i = true := by
  simp [inR]; omega
theorem inR_2 (a b : Int) (h0 : -100000000 ≤ a) (h1 : a ≤ 100000000) (h2 : -100000000 ≤ b) (h3 : b ≤ 100000000) : (inR a && inR b) = true := by
  rw [inR_sm a h0 h1, inR_sm b h2 h3]; rfl
theorem mem_upTo {lo hi : Int} {x : D} (h : x ∈ upTo lo hi) : ∃ k : Nat, lo + k < hi ∧ x = .int (lo + k) := by
  unfold upTo at h
  obtain ⟨k, hk, rfl⟩ := List.mem_map.mp h
  exact ⟨k, by have := List.mem_range.mp hk; omega, rfl⟩
theorem upTo_len (lo hi : Int) : (upTo lo hi).length = (hi - lo).toNat := by simp [upTo]
/-- the places below n, as a coded list -/
theorem upTo_nat (n : Nat) : upTo 0 n = (List.range n).map fun (k : Nat) => D.int k := by
  unfold upTo
  rw [show ((n : Int) - 0).toNat = n by omega]
  exact List.map_congr_left fun k _ => by congr 1; omega
theorem upTo_from (a n : Nat) : upTo a n = (List.range (n - a)).map fun (k : Nat) => D.int ((a + k : Nat) : Int) := by
  unfold upTo
  rw [show ((n : Int) - (a : Int)).toNat = n - a by omega]
  exact List.map_congr_left fun k _ => by congr 1
theorem enum_map {α : Type} (enc : α → D) : ∀ (as : List α) (k : Nat), enumFrom k (as.map enc) = (as.zipIdx k).map fun p => .tup [.int p.2, enc p.1]
  | [], k => rfl
  | a :: as, k => by
    show D.tup [.int k, enc a] :: enumFrom (k + 1) (as.map enc) = _
    rw [enum_map enc as (k + 1)]
    rfl
/-! ### comprehensions -/
theorem walk_enc {α : Type} (own : List Nat) (ρ1 : Ev) (ws : List Nat) (tg : Tg) (tests : Ev → R Bool) (elt : Ev → R O) (enc : α → D) (f : α → List D) (ρ : Ev) (hs : stands ρ1 ρ ws = true) : ∀ (ys : List α) (acc : List D),
    (∀ x ∈ ys, ∃ ρ2, bindT tg (enc x) ρ = some ρ2 ∧ wipe ρ2 own = ρ ∧ ((tests ρ2 = .ok false ρ2 ∧ f x = []) ∨ (tests ρ2 = .ok true ρ2 ∧ ∃ o y, elt ρ2 = .ok o ρ2 ∧ keep ρ2 o = some (y, ρ2) ∧ f x = [y]))) →
    acc.length + ys.length ≤ cap → walkL (compTurn own ρ1 ws tg tests elt) (ys.map enc) acc ρ = .ok (acc ++ ys.flatMap f) ρ
  | [], acc, _, _ => by simp [walkL]
  | x :: ys, acc, h, hcap => by
    obtain ⟨ρ2, e1, e2, e3⟩ := h x (by simp)
    show (compTurn own ρ1 ws tg tests elt (enc x) acc ρ).bind (walkL _ (ys.map enc)) = _
    have hcap' : acc.length + (ys.length + 1) ≤ cap := by simpa using hcap
    have ht : compTurn own ρ1 ws tg tests elt (enc x) acc ρ = .ok (acc ++ f x) ρ := by
      have hlt : acc.length < cap := by omega
      unfold compTurn
      rcases e3 with ⟨t, fx⟩ | ⟨t, o, y, ey, ek, fx⟩
      · simp only [hs, if_true, e1, R.opt_some, t, ifB_f, e2, fx, List.append_nil]
      · simp only [hs, if_true, e1, R.opt_some, t, ifB_t, ey, R.bind_ok, ek, hlt, e2, fx]
    rw [ht]
    show walkL (compTurn own ρ1 ws tg tests elt) (ys.map enc) (acc ++ f x) ρ = _
    have hf : (f x).length ≤ 1 := by
      rcases e3 with ⟨t, fx⟩ | ⟨t, o, y, ey, ek, fx⟩ <;> simp [fx]
    rw [walk_enc own ρ1 ws tg tests elt enc f ρ hs ys (acc ++ f x) (fun z hz => h z (List.mem_cons_of_mem _ hz)) (by simp; omega)]
    simp
/-- a comprehension of one clause over a coded list: g told of each that passes -/
theorem comp_enc {α : Type} (T : Top) (C : Calls) (n : Nat) (ρ : Ev) (elt : E) (tg : Tg) (k : Ik) (es ifs : List E) (own ws : List Nat) (as : List α) (enc : α → D) (p : α → Bool) (g : α → D)
    (he : iterF k (evL T C es n ρ) = .ok (as.map enc, ws) ρ) (hs : stands ρ (wipe ρ own) ws = true) (hb : back ρ (wipe ρ own) own = ρ) (hc : as.length ≤ cap)
    (h : ∀ x ∈ as, ∃ ρ2, bindT tg (enc x) (wipe ρ own) = some ρ2 ∧ wipe ρ2 own = wipe ρ own ∧ evTs T C ifs n ρ2 = .ok (p x) ρ2 ∧ (p x = true → ∃ o, evE T C elt n ρ2 = .ok o ρ2 ∧ keep ρ2 o = some (g x, ρ2))) :
    evE T C (.comp elt tg k es ifs own) n ρ = .ok (.L ((as.filter p).map g)) ρ := by
  rw [v_comp, he, R.bind_ok]
  unfold compEnd
  have e := walk_enc own ρ ws tg (evTs T C ifs n) (evE T C elt n) enc (fun x => if p x = true then [g x] else []) (wipe ρ own) hs as [] (fun x hx => by
    obtain ⟨ρ2, h1, h2, h3, h4⟩ := h x hx
    refine ⟨ρ2, h1, h2, ?_⟩
    by_cases c : p x = true
    · obtain ⟨o, h5, h6⟩ := h4 c
      exact .inr ⟨by rw [h3, c], o, g x, h5, h6, by rw [if_pos c]⟩
    · exact .inl ⟨by rw [h3]; simp at c; rw [c], by rw [if_neg c]⟩) (by simpa using hc)
  have f : (as.flatMap fun x => if p x = true then [g x] else []) = (as.filter p).map g := by
    clear e h hc he
    induction as with
    | nil => rfl
    | cons x xs ih => by_cases c : p x = true <;> simp [c, List.filter_cons, ih]
  rw [e, f]
  simp [hs, hb]
theorem comp_map {α : Type} (T : Top) (C : Calls) (n : Nat) (ρ : Ev) (elt : E) (tg : Tg) (k : Ik) (es : List E) (own ws : List Nat) (as : List α) (enc : α → D) (g : α → D)
    (he : iterF k (evL T C es n ρ) = .ok (as.map enc, ws) ρ) (hs : stands ρ (wipe ρ own) ws = true) (hb : back ρ (wipe ρ own) own = ρ) (hc : as.length ≤ cap)
    (h : ∀ x ∈ as, ∃ ρ2, bindT tg (enc x) (wipe ρ own) = some ρ2 ∧ wipe ρ2 own = wipe ρ own ∧ ∃ o, evE T C elt n ρ2 = .ok o ρ2 ∧ keep ρ2 o = some (g x, ρ2)) :
    evE T C (.comp elt tg k es [] own) n ρ = .ok (.L (as.map g)) ρ := by
  have e := comp_enc T C n ρ elt tg k es [] own ws as enc (fun _ => true) g he hs hb hc (fun x hx => by
    obtain ⟨ρ2, h1, h2, h3⟩ := h x hx
    exact ⟨ρ2, h1, h2, rfl, fun _ => h3⟩)
  rw [e, List.filter_eq_self.mpr (fun _ _ => rfl)]
theorem bols_enc {α : Type} (as : List α) (p : α → Bool) : bolsOf (as.map fun x => D.bl (p x)) = some (as.map p) := by
  induction as with
  | nil => rfl
  | cons x xs ih =>
    show (bolsOf (xs.map fun x => D.bl (p x))).map (p x :: ·) = _
    rw [ih]; rfl
theorem all_enc {α : Type} (as : List α) (p : α → Bool) : blt .all [.L (as.map fun x => D.bl (p x))] = some (.d (.bl (as.all p))) := by
  show ((bolsOf (as.map fun x => D.bl (p x))).map fun bs => O.d (.bl (bs.all id))) = _
  rw [bols_enc]
  simp [List.all_map]
theorem any_enc {α : Type} (as : List α) (p : α → Bool) : blt .any [.L (as.map fun x => D.bl (p x))] = some (.d (.bl (as.any p))) := by
  show ((bolsOf (as.map fun x => D.bl (p x))).map fun bs => O.d (.bl (bs.any id))) = _
  rw [bols_enc]
  simp [List.any_map]
theorem intsOf_ints : ∀ xs : List Int, intsOf (xs.map D.int) = some xs
  | [] => rfl
  | x :: xs => by simp [intsOf, intsOf_ints xs]
theorem sum_ints (xs : List Int) : blt .sum [.L (xs.map D.int)] = some (.d (.int xs.sum)) := by
  show ((itemsL (.L (xs.map D.int))).bind fun xs => (intsOf xs).bind fun ns => some (O.d (.int ns.sum))) = _
  simp [itemsL, intsOf_ints]
theorem all_ite (T : Top) (C : Calls) (k : Nat) (ρ : Ev) (ce : E) (res : List D) (b : List S) (hc : evE T C ce k ρ = .ok (.L res) ρ) (ha : blt .all [.L res] = some (.d (.bl true))) : evS T C (.ite (.not_ (.blt .all [ce])) b []) k ρ = .ok .nx ρ := by
  simp [hc, ha]
/-! ### loops -/
inductive Go (σ : Type) where
  | go (s : σ) | ret (o : O) (s : σ) | brk (s : σ)
def runL {α σ : Type} (step : σ → α → Go σ) : List α → σ → Go σ
  | [], s => .go s
  | a :: as, s => match step s a with
    | .go s => runL step as s
    | .ret o s => .ret o s
    | .brk s => .brk s
/-- a turn's end -/
def Ends {σ : Type} (st : σ → Ev) (r : R Fl) : Go σ → Prop
  | .go s => r = .ok .nx (st s) ∨ r = .ok .cont (st s)
  | .ret o s => r = .ok (.ret o) (st s)
  | .brk s => r = .ok .brk (st s)
def goR {σ : Type} (st : σ → Ev) : Go σ → R Fl
  | .go s => .ok .nx (st s)
  | .ret o s => .ok (.ret o) (st s)
  | .brk s => .ok .nx (st s)
theorem forL_run {α σ : Type} (ws : List Nat) (ρ0 : Ev) (tg : Tg) (body : Ev → R Fl) (enc : α → D) (st : σ → Ev) (step : σ → α → Go σ) (I : σ → Prop) (hs : ∀ s, I s → stands ρ0 (st s) ws = true) : ∀ (as : List α) (s : σ), I s →
    (∀ s a, I s → a ∈ as → ∃ ρ1, bindT tg (enc a) (st s) = some ρ1 ∧ Ends st (body ρ1) (step s a) ∧ ∀ s', step s a = .go s' → I s') →
    forL ws ρ0 tg body (as.map enc) (st s) = goR st (runL step as s) ∧ ∀ s', runL step as s = .go s' → I s'
  | [], s, hi, _ => ⟨by simp [forL, hs s hi, runL, goR], fun s' e => by cases e; exact hi⟩
  | a :: as, s, hi, h => by
    obtain ⟨ρ1, e1, e2, i2⟩ := h s a hi (by simp)
    have hst := hs s hi
    cases e : step s a with
    | go s2 =>
      rw [e] at e2
      obtain ⟨f1, f2⟩ := forL_run ws ρ0 tg body enc st step I hs as s2 (i2 s2 e) (fun s b hi hb => h s b hi (List.mem_cons_of_mem _ hb))
      have hr : runL step (a :: as) s = runL step as s2 := by
        show (match step s a with | .go s => runL step as s | .ret o s => .ret o s | .brk s => .brk s) = _
        rw [e]
      rw [hr]
      refine ⟨?_, f2⟩
      rw [← f1]
      rcases e2 with e2 | e2
      · simp [forL, hst, e1, e2]
      · simp [forL, hst, e1, e2]
    | ret o s2 =>
      rw [e] at e2
      have e2 : body ρ1 = .ok (.ret o) (st s2) := e2
      have hr : runL step (a :: as) s = .ret o s2 := by
        show (match step s a with | .go s => runL step as s | .ret o s => .ret o s | .brk s => .brk s) = _
        rw [e]
      rw [hr]
      exact ⟨by simp [forL, hst, e1, e2, goR], fun s' z => by cases z⟩
    | brk s2 =>
      rw [e] at e2
      have e2 : body ρ1 = .ok .brk (st s2) := e2
      have hr : runL step (a :: as) s = .brk s2 := by
        show (match step s a with | .go s => runL step as s | .ret o s => .ret o s | .brk s => .brk s) = _
        rw [e]
      rw [hr]
      exact ⟨by simp [forL, hst, e1, e2, goR], fun s' z => by cases z⟩
/-- a for loop that only goes on -/
theorem runL_go {α σ : Type} (f : σ → α → σ) : ∀ (as : List α) (s : σ), runL (fun s a => .go (f s a)) as s = .go (as.foldl f s)
  | [], s => rfl
  | a :: as, s => runL_go f as (f s a)
/-- a slot that holds data or nothing -/
abbrev dw (o : Option D) : Option W := o.map W.d
@[simp] theorem dw_some (x : D) : dw (some x) = some (.d x) := rfl
@[simp] theorem dw_none : dw none = none := rfl
theorem free_dw (ρ : Ev) (i : Nat) (o : Option D) (h : ρ[i]? = some (dw o)) : free ρ i = true := by
  unfold free
  rw [h]
  cases o <;> rfl
theorem store_dw (ρ : Ev) (i : Nat) (o : Option D) (w : W) (h : ρ[i]? = some (dw o)) : store ρ i w = some (ρ.set i (some w)) := by
  unfold store
  rw [free_dw ρ i o h]
  rfl
theorem forL_keep (ws : List Nat) (ρ0 : Ev) (tg : Tg) (body : Ev → R Fl) (Inv : Ev → Prop) (hs : ∀ ρ, Inv ρ → stands ρ0 ρ ws = true) : ∀ (xs : List D) (ρ : Ev), Inv ρ →
    (∀ x ∈ xs, ∀ ρ, Inv ρ → ∃ ρ1 ρ2, bindT tg x ρ = some ρ1 ∧ body ρ1 = .ok .nx ρ2 ∧ Inv ρ2) → ∃ ρ', forL ws ρ0 tg body xs ρ = .ok .nx ρ' ∧ Inv ρ'
  | [], ρ, hi, _ => ⟨ρ, by simp [forL, hs ρ hi], hi⟩
  | x :: xs, ρ, hi, h => by
    obtain ⟨ρ1, ρ2, e1, e2, i2⟩ := h x (by simp) ρ hi
    obtain ⟨ρ', e3, i3⟩ := forL_keep ws ρ0 tg body Inv hs xs ρ2 i2 (fun y hy => h y (List.mem_cons_of_mem _ hy))
    refine ⟨ρ', ?_, i3⟩
    simp only [forL, hs ρ hi, if_true, e1, R.opt_some, e2, R.bind_ok]
    exact e3
/-! ### walks that change a slot -/
inductive All2 {α β : Type} (Q : α → β → Prop) : List α → List β → Prop
  | nil : All2 Q [] []
  | cons {x y xs ys} : Q x y → All2 Q xs ys → All2 Q (x :: xs) (y :: ys)
theorem All2.len {α β : Type} {Q : α → β → Prop} {xs : List α} {ys : List β} (h : All2 Q xs ys) : ys.length = xs.length := by
  induction h with
  | nil => rfl
  | cons _ _ ih => simp [ih]
theorem walk_inv (turn : D → List D → Ev → R (List D)) (Inv : Ev → Prop) (Q : D → D → Prop) : ∀ (xs acc : List D) (ρ : Ev), Inv ρ → acc.length + xs.length ≤ cap →
    (∀ x ∈ xs, ∀ (acc : List D) (ρ : Ev), Inv ρ → acc.length < cap → ∃ y ρ', turn x acc ρ = .ok (acc ++ [y]) ρ' ∧ Inv ρ' ∧ Q x y) →
    ∃ ys ρ', walkL turn xs acc ρ = .ok (acc ++ ys) ρ' ∧ Inv ρ' ∧ All2 Q xs ys
  | [], acc, ρ, hi, _, _ => ⟨[], ρ, by simp [walkL], hi, .nil⟩
  | x :: xs, acc, ρ, hi, hc, h => by
    have hc' : acc.length + (xs.length + 1) ≤ cap := by simpa using hc
    obtain ⟨y, ρ1, e, i1, q⟩ := h x (by simp) acc ρ hi (by omega)
    obtain ⟨ys, ρ2, e2, i2, q2⟩ := walk_inv turn Inv Q xs (acc ++ [y]) ρ1 i1 (by rw [List.length_append]; simp; omega) (fun z hz => h z (List.mem_cons_of_mem _ hz))
    refine ⟨y :: ys, ρ2, ?_, i2, .cons q q2⟩
    show (turn x acc ρ).bind (walkL turn xs) = _
    rw [e]
    show walkL turn xs (acc ++ [y]) ρ1 = _
    rw [e2]
    simp
end Ev
/-! Pg1: plain rules that every law shares (2): calls, draws, what is read back. -/
namespace Ev
theorem callF_le (T : Top) (ds : List Def) {m k : Nat} (h : m ≤ k) (f : Nat) (os : List O) (ρ : Ev) : callF (calls T ds k) m f os ρ = callF (calls T ds m) m f os ρ := by
  unfold callF
  rw [calls_le T ds h]
/-- a def by what it computes of data, at every level from lv on -/
def Does (T : Top) (ds : List Def) (lv f : Nat) (xs : List D) (o : O) : Prop := ∀ m, lv ≤ m → ∀ ρ, callF (calls T ds m) m f (xs.map O.d) ρ = .ok o ρ
def Raises (T : Top) (ds : List Def) (lv f : Nat) (xs : List D) (c : Nat) : Prop := ∀ m, lv ≤ m → ∀ ρ, callF (calls T ds m) m f (xs.map O.d) ρ = .exc c ρ
theorem Does.of {T : Top} {ds : List Def} {lv f : Nat} (d : Def) (hd : ds[f]? = some d) (xs : List D) (o : O) (hl : xs.length = d.np)
    (h : ∀ k, lv ≤ k → fin xs.length (evB T (calls T ds k) d.body k (xs.map arg ++ List.replicate d.nl none)) = some o) : Does T ds (lv + 1) f xs o := by
  intro m hm ρ
  obtain ⟨k, rfl⟩ : ∃ k, m = k + 1 := ⟨m - 1, by omega⟩
  exact callF_fin T ds k f d hd xs ρ o hl (h k (by omega))
theorem Raises.of {T : Top} {ds : List Def} {lv f : Nat} (d : Def) (hd : ds[f]? = some d) (xs : List D) (c : Nat) (hl : xs.length = d.np)
    (h : ∀ k, lv ≤ k → exB xs.length (evB T (calls T ds k) d.body k (xs.map arg ++ List.replicate d.nl none)) = some c) : Raises T ds (lv + 1) f xs c := by
  intro m hm ρ
  obtain ⟨k, rfl⟩ : ∃ k, m = k + 1 := ⟨m - 1, by omega⟩
  have h := h k (by omega)
  have e : calls T ds (k + 1) (k + 1) f (xs.map arg) = .exc c (List.replicate xs.length none) := by
    show call T ds (k + 1) f (xs.map arg) = _
    rw [call_succ, hd]
    show runD T (calls T ds k) d k (xs.map arg) = _
    unfold runD
    rw [if_pos (by simpa using hl)]
    cases hb : evB T (calls T ds k) d.body k (xs.map arg ++ List.replicate d.nl none) with
    | stuck => rw [hb] at h; cases h
    | ok fl ρ => rw [hb] at h; cases h
    | exc c' ρ =>
      rw [hb, exB_exc] at h
      split at h
      · next hk =>
        cases h
        simp [outs_d xs ρ hk]
      · cases h
  unfold callF
  rw [walked_ds, handL_d]
  simp only [onceEach, if_true, R.opt_some]
  rw [e]
  simp [handB_d]
theorem Does.mono {T : Top} {ds : List Def} {lv lv' f : Nat} {xs : List D} {o : O} (h : Does T ds lv f xs o) (l : lv ≤ lv') : Does T ds lv' f xs o := fun m hm ρ => h m (by omega) ρ
/-- at a level below the calls' own -/
theorem Does.at {T : Top} {ds : List Def} {lv f : Nat} {xs : List D} {o : O} (h : Does T ds lv f xs o) {m k : Nat} (hm : lv ≤ m) (hk : m ≤ k) (ρ : Ev) : callF (calls T ds k) m f (xs.map O.d) ρ = .ok o ρ := by
  rw [callF_le T ds hk]
  exact h m hm ρ
theorem Raises.at {T : Top} {ds : List Def} {lv f : Nat} {xs : List D} {c : Nat} (h : Raises T ds lv f xs c) {m k : Nat} (hm : lv ≤ m) (hk : m ≤ k) (ρ : Ev) : callF (calls T ds k) m f (xs.map O.d) ρ = .exc c ρ := by
  rw [callF_le T ds hk]
  exact h m hm ρ
/-- a call with a slot's list that stays as it is, among data -/
theorem callF_gen (T : Top) (ds : List Def) (m f : Nat) (d : Def) (hd : ds[f]? = some d) (os : List O) (args r ρ ρ' ρ2 : Ev) (z : D) (hh : handL ρ os = some args) (ho : onceEach (walked os) = true) (hl : args.length = d.np)
    (h : evB T (calls T ds m) d.body m (args ++ List.replicate d.nl none) = .ok (.ret (.d z)) ρ') (hr : outs args.length args ρ' = some r) (hb : handB ρ os r = some ρ2) : callF (calls T ds (m + 1)) (m + 1) f os ρ = .ok (.d z) ρ2 := by
  have e : calls T ds (m + 1) (m + 1) f args = .ok (.d z) r := by
    show call T ds (m + 1) f _ = _
    rw [call_succ, hd]
    show runD T (calls T ds m) d m _ = _
    unfold runD
    rw [if_pos hl, h]
    simp [hr]
  unfold callF
  rw [if_pos ho, hh]
  simp only [R.opt_some]
  rw [e]
  simp [isBor, hb]
/-! ### draws -/
def drawD : Def := ⟨2, 1, [.ite (.cmp .gt (.ix (.var 0) (.int 0)) (.int 0))
   [.set 2 (.ix (.var 0) (.int 0)),
    .setIx 0 (.int 0) (.blt .int [.bin .fdiv (.var 2) (.var 1)]),
    .ret (.blt .int [.bin .mod (.var 2) (.var 1)])]
   [],
  .setIx 0 (.int 1) (.bin .mod (.bin .mul (.int 69621) (.ix (.var 0) (.int 1))) (.int 2147483647)),
  .ret (.blt .int [.bin .mod (.bin .fdiv (.ix (.var 0) (.int 1)) (.int 7)) (.var 1)])]⟩
theorem draw_ok {T : Top} {ds : List Def} {f : Nat} (hd : ds[f]? = some drawD) {m : Nat} (hm : 1 ≤ m) (a b hi : Int) (ha : 0 ≤ a) (hb : 0 ≤ b) (h0 : 0 < hi) (h1 : hi < 1073741824) (j : Nat) (p : Bool) (ρ : Ev) (hj : ρ[j]? = some (some (.L p [.int a, .int b]))) :
    ∃ a' b' r : Int, 0 ≤ a' ∧ 0 ≤ b' ∧ 0 ≤ r ∧ r < hi ∧ callF (calls T ds m) m f [.bor j, .d (.int hi)] ρ = .ok (.d (.int r)) (ρ.set j (some (.L p [.int a', .int b']))) := by
  obtain ⟨k, rfl⟩ : ∃ k, m = k + 1 := ⟨m - 1, by omega⟩
  have s : sml 69621 = true := by decide
  have hh : handL ρ [.bor j, .d (.int hi)] = some [some (.L true [.int a, .int b]), some (.d (.int hi))] := by simp [handL, hj]
  have go : ∀ (a' b' r : Int) (w : Option W), evB T (calls T ds k) drawD.body k ([some (.L true [.int a, .int b]), some (.d (.int hi))] ++ List.replicate drawD.nl none) = .ok (.ret (.d (.int r))) [some (.L true [.int a', .int b']), some (.d (.int hi)), w] →
      callF (calls T ds (k + 1)) (k + 1) f [.bor j, .d (.int hi)] ρ = .ok (.d (.int r)) (ρ.set j (some (.L p [.int a', .int b']))) := fun a' b' r w he =>
    callF_gen T ds k f drawD hd _ _ [some (.L true [.int a', .int b']), none] ρ _ _ _ hh rfl rfl he rfl (by simp [handB, hj])
  by_cases c : 0 < a
  · refine ⟨a / hi, b, a % hi, Int.ediv_nonneg ha (by omega), hb, Int.emod_nonneg _ (by omega), Int.emod_lt_of_pos _ h0, go _ _ _ (some (.d (.int a))) ?_⟩
    simp [drawD, varS, rs, index, ixSeq, items, c, store, free, h0, h1, isL, setAt, place, blt, intF]
  · refine ⟨a, (69621 * b) % 2147483647, ((69621 * b) % 2147483647) / 7 % hi, ha, Int.emod_nonneg _ (by omega), Int.emod_nonneg _ (by omega), Int.emod_lt_of_pos _ h0, go _ _ _ none ?_⟩
    simp [drawD, varS, rs, index, ixSeq, items, c, store, free, h0, h1, isL, setAt, place, blt, intF, s]
def cellD : Def := ⟨2, 0, [.ret (.ite (.cmp .lt (.var 1) (.blt .len [.var 0])) (.blt .abs [.blt .int [.ix (.var 0) (.var 1)]]) (.int 0))]⟩
def streamD (c : Nat) : Def := ⟨2, 0, [.ret (.lst [.call c [.var 0, .var 1], .bin .add (.int 1) (.bin .mod (.bin .mul (.int 48271) (.call c [.var 0, .var 1])) (.int 2147483647))])]⟩
theorem cell_ok {T : Top} {ds : List Def} {f : Nat} (hd : ds[f]? = some cellD) (ns : List Int) (k : Nat) : ∃ a : Int, 0 ≤ a ∧ Does T ds 1 f [.lst (ns.map D.int), .int k] (.d (.int a)) := by
  cases h : ns[k]? with
  | none =>
    have hk := List.getElem?_eq_none_iff.mp h
    refine ⟨0, by omega, .of cellD hd _ _ rfl fun k' _ => ?_⟩
    have g : ¬ ((k : Int) < (ns.length : Int)) := by omega
    simp [cellD, arg, varS, g]
  | some x =>
    obtain ⟨hk, _⟩ := List.getElem?_eq_some_iff.mp h
    refine ⟨if x < 0 then -x else x, by split <;> omega, .of cellD hd _ _ rfl fun k' _ => ?_⟩
    have g : ((k : Int) < (ns.length : Int)) := by omega
    simp [cellD, arg, varS, g, h]
theorem stream_ok {T : Top} {ds : List Def} {f c : Nat} (hc : ds[c]? = some cellD) (hd : ds[f]? = some (streamD c)) (ns : List Int) (k : Nat) : ∃ a b : Int, 0 ≤ a ∧ 0 ≤ b ∧ Does T ds 2 f [.lst (ns.map D.int), .int k] (.L [.int a, .int b]) := by
  obtain ⟨a, ha, e⟩ := cell_ok (T := T) hc ns k
  refine ⟨a, 1 + (48271 * a) % 2147483647, ha, ?_, .of (streamD c) hd _ _ rfl fun k' hk => ?_⟩
  · have := Int.emod_nonneg (48271 * a) (b := 2147483647) (by omega)
    omega
  · have e := e k' (by omega)
    simp only [List.map_cons, List.map_nil] at e
    have s : sml 48271 = true := by decide
    simp [streamD, arg, varS, e, s]
/-! ### what is read back -/
def readD (f sx : Nat) : Def := ⟨1, 1, [.ite (.orL [.cmp .is_ (.var 0) .non, .cmp .is_ (.var 0) (.bl true), .cmp .is_ (.var 0) (.bl false)])
   [.ret (.var 0)]
   [],
  .ite (.isi (.var 0) .int)
   [.ret (.blt .int [.var 0])]
   [],
  .ite (.isi (.var 0) .str)
   [.ret (.bin .add (.str 0) (.var 0))]
   [],
  .ite (.isi (.var 0) .tuple)
   [.ret (.blt .tuple [.comp (.call f [.var 1]) (.nm 1) .seq [.var 0] [] [1]])]
   [],
  .ret (.ite (.isi (.var 0) .list) (.comp (.call f [.var 1]) (.nm 1) .seq [.var 0] [] [1]) (.str sx))]⟩
/-- data without lists, no deeper than so -/
def rdy : Nat → D → Bool
  | 0, x => match x with | .tup _ => false | .lst _ => false | _ => true
  | n + 1, x => match x with | .tup xs => decide (xs.length ≤ 1000000) && xs.all (rdy n) | .lst _ => false | _ => true
theorem read_ok {T : Top} {ds : List Def} {f sx : Nat} (hd : ds[f]? = some (readD f sx)) : ∀ (n : Nat) (x : D), rdy n x = true → Does T ds (n + 1) f [x] (.d x) := by
  intro n
  induction n with
  | zero =>
    intro x h
    refine .of (readD f sx) hd _ _ rfl fun k hk => ?_
    cases x with
    | non => simp [readD, arg, varS, isNon]
    | bl b => cases b <;> simp [readD, arg, varS, isNon, isBl]
    | int i => simp [readD, arg, varS, isNon, isBl]
    | str j => simp [readD, arg, varS, isNon, isBl, bin, addO]
    | tup xs => simp [rdy] at h
    | lst xs => simp [rdy] at h
  | succ n ih =>
    intro x h
    refine .of (readD f sx) hd _ _ rfl fun k hk => ?_
    cases x with
    | non => simp [readD, arg, varS, isNon]
    | bl b => cases b <;> simp [readD, arg, varS, isNon, isBl]
    | int i => simp [readD, arg, varS, isNon, isBl]
    | str j => simp [readD, arg, varS, isNon, isBl, bin, addO]
    | tup xs =>
      simp only [rdy, Bool.and_eq_true, decide_eq_true_eq, List.all_eq_true] at h
      have hc : evE T (calls T ds k) (.comp (.call f [.var 1]) (.nm 1) .seq [.var 0] [] [1]) k [some (.d (.tup xs)), none] = .ok (.L (xs.map id)) [some (.d (.tup xs)), none] := by
        refine comp_map _ _ _ _ _ _ _ _ _ [] xs id id (by simp [varS]) rfl rfl (by have := h.1; show _ ≤ 16777216; omega) ?_
        intro y hy
        have e := ih y (h.2 y hy) k (by omega)
        refine ⟨[some (.d (.tup xs)), some (.d y)], rfl, rfl, .d y, ?_, rfl⟩
        simp only [v_call, v_lcons, v_lnil, v_var, varS, List.getElem?_cons_succ, List.getElem?_cons_zero, R.bind_ok]
        exact e _
      rw [List.map_id] at hc
      simp [readD, -v_comp, arg, varS, isNon, isBl, hc]
    | lst xs => simp [rdy] at h
theorem told_ok (T : Top) (C : Calls) (b : E) (m : Nat) (ρ ρ' : Ev) (x : D) (h : evE T C b m ρ = .ok (.d x) ρ') (hr : callF C (m + 1) T.read [.d x] ρ' = .ok (.d x) ρ') :
    evE T C (.told b) (m + 2) ρ = .ok (.d (.tup [.int 0, x])) ρ' := by
  rw [v_told, h]
  show (R.bind (R.calm (callF C (m + 1) T.read [.d x] ρ')) _) = _
  rw [hr]
  rfl
theorem told_exc (T : Top) (C : Calls) (b : E) (m : Nat) (ρ ρ' : Ev) (c : Nat) (h : evE T C b m ρ = .exc c ρ') (hc : c < T.ne) :
    evE T C (.told b) (m + 2) ρ = .ok (.d (.tup [.int 1, .str (T.word c)])) ρ' := by
  rw [v_told, h]
  show R.grd (decide (c < T.ne)) _ = _
  rw [decide_eq_true hc]
  rfl
/-- told, of what can be read -/
theorem told_at {T : Top} {ds : List Def} {sx : Nat} (hd : ds[T.read]? = some (readD T.read sx)) {k m : Nat} (hk : m + 2 ≤ k) {b : E} {ρ ρ' : Ev} {x : D} (n : Nat) (hn : n ≤ m) (h : evE T (calls T ds k) b m ρ = .ok (.d x) ρ') (hr : rdy n x = true) :
    evE T (calls T ds k) (.told b) (m + 2) ρ = .ok (.d (.tup [.int 0, x])) ρ' :=
  told_ok T _ b m ρ ρ' x h ((read_ok (T := T) hd n x hr).at (m := m + 1) (by omega) (by omega) ρ')
end Ev
/-! Pg2: loops that look for something. -/
namespace Ev
theorem forL_any {α σ : Type} (ws : List Nat) (ρ0 : Ev) (tg : Tg) (body : Ev → R Fl) (enc : α → D) (st : σ → Ev) (p : α → Bool) (o : O) (Q : Ev → Prop) (hs : ∀ s, stands ρ0 (st s) ws = true) : ∀ (as : List α) (s : σ),
    (∀ s a, a ∈ as → ∃ ρ1, bindT tg (enc a) (st s) = some ρ1 ∧ ((p a = true ∧ ∃ ρ2, body ρ1 = .ok (.ret o) ρ2 ∧ Q ρ2) ∨ (p a = false ∧ ∃ s', body ρ1 = .ok .nx (st s') ∨ body ρ1 = .ok .cont (st s')))) →
    (as.any p = true ∧ ∃ ρ2, forL ws ρ0 tg body (as.map enc) (st s) = .ok (.ret o) ρ2 ∧ Q ρ2) ∨ (as.any p = false ∧ ∃ s', forL ws ρ0 tg body (as.map enc) (st s) = .ok .nx (st s'))
  | [], s, _ => .inr ⟨rfl, s, by simp [forL, hs s]⟩
  | a :: as, s, h => by
    obtain ⟨ρ1, e1, e2⟩ := h s a (by simp)
    rcases e2 with ⟨pa, ρ2, e2, q⟩ | ⟨pa, s', e2⟩
    · exact .inl ⟨by simp [pa], ρ2, by simp [forL, hs s, e1, e2], q⟩
    · have hf : forL ws ρ0 tg body ((a :: as).map enc) (st s) = forL ws ρ0 tg body (as.map enc) (st s') := by
        rcases e2 with e2 | e2 <;> simp [forL, hs s, e1, e2]
      rw [hf]
      have ha : (a :: as).any p = as.any p := by simp [pa]
      rw [ha]
      exact forL_any ws ρ0 tg body enc st p o Q hs as s' (fun s b hb => h s b (List.mem_cons_of_mem _ hb))
/-- a loop whose turns change only what the loop itself holds -/
theorem forL_nx {α σ : Type} (ws : List Nat) (ρ0 : Ev) (tg : Tg) (body : Ev → R Fl) (enc : α → D) (st : σ → Ev) (hs : ∀ s, stands ρ0 (st s) ws = true) : ∀ (as : List α) (s : σ),
    (∀ s a, a ∈ as → ∃ ρ1, bindT tg (enc a) (st s) = some ρ1 ∧ ∃ s', body ρ1 = .ok .nx (st s') ∨ body ρ1 = .ok .cont (st s')) → ∃ s', forL ws ρ0 tg body (as.map enc) (st s) = .ok .nx (st s')
  | [], s, _ => ⟨s, by simp [forL, hs s]⟩
  | a :: as, s, h => by
    obtain ⟨ρ1, e1, s', e2⟩ := h s a (by simp)
    have hf : forL ws ρ0 tg body ((a :: as).map enc) (st s) = forL ws ρ0 tg body (as.map enc) (st s') := by
      rcases e2 with e2 | e2 <;> simp [forL, hs s, e1, e2]
    rw [hf]
    exact forL_nx ws ρ0 tg body enc st hs as s' (fun s b hb => h s b (List.mem_cons_of_mem _ hb))
theorem mem_zip {α : Type} {xs : List α} {x : α} {i : Nat} (h : (x, i) ∈ xs.zipIdx) : ∃ hi : i < xs.length, xs[i] = x := by
  have := List.mem_zipIdx_iff_getElem?.mp h
  obtain ⟨hi, e⟩ := List.getElem?_eq_some_iff.mp this
  exact ⟨hi, e⟩
end Ev
namespace Ev
/-- a comprehension whose turns change a slot -/
theorem comp_inv (T : Top) (C : Calls) (n : Nat) (ρ ρ1 : Ev) (elt : E) (tg : Tg) (k : Ik) (es : List E) (own ws : List Nat) (xs : List D) (Inv : Ev → Prop) (Q : D → D → Prop)
    (he : iterF k (evL T C es n ρ) = .ok (xs, ws) ρ1) (hi : Inv (wipe ρ1 own)) (hs : ∀ ρ, Inv ρ → stands ρ1 ρ ws = true) (hc : xs.length ≤ cap)
    (h : ∀ x ∈ xs, ∀ ρ, Inv ρ → ∃ ρ2 o ρ3 y ρ4, bindT tg x ρ = some ρ2 ∧ evE T C elt n ρ2 = .ok o ρ3 ∧ keep ρ3 o = some (y, ρ4) ∧ Inv (wipe ρ4 own) ∧ Q x y) :
    ∃ ys ρ', evE T C (.comp elt tg k es [] own) n ρ = .ok (.L ys) (back ρ1 ρ' own) ∧ Inv ρ' ∧ All2 Q xs ys := by
  obtain ⟨ys, ρ', e, i, q⟩ := walk_inv (compTurn own ρ1 ws tg (evTs T C [] n) (evE T C elt n)) Inv Q xs [] (wipe ρ1 own) hi (by simpa using hc) (by
    intro x hx acc ρ hi hcap
    obtain ⟨ρ2, o, ρ3, y, ρ4, h1, h2, h3, h4, h5⟩ := h x hx ρ hi
    refine ⟨y, wipe ρ4 own, ?_, h4, h5⟩
    unfold compTurn
    simp only [hs ρ hi, if_true, h1, R.opt_some, v_tnil, ifB_t, h2, R.bind_ok, h3, hcap])
  refine ⟨ys, ρ', ?_, i, q⟩
  rw [v_comp, he, R.bind_ok]
  unfold compEnd
  rw [e]
  simp [hs ρ' i]
/-- the box of draws, as a def's first slot -/
abbrev bx (a b : Int) : Option W := some (.L true [.int a, .int b])
theorem draw_e {T : Top} {ds : List Def} {f : Nat} (hd : ds[f]? = some drawD) {k : Nat} (hk : 1 ≤ k) (a b h : Int) (ha : 0 ≤ a) (hb : 0 ≤ b) (h0 : 0 < h) (h1 : h < 1073741824) (rest : Ev) (e : E) (he : ∀ w, evE T (calls T ds k) e k (w :: rest) = .ok (.d (.int h)) (w :: rest)) :
    ∃ a' b' r : Int, 0 ≤ a' ∧ 0 ≤ b' ∧ 0 ≤ r ∧ r < h ∧ evE T (calls T ds k) (.call f [.var 0, e]) k (bx a b :: rest) = .ok (.d (.int r)) (bx a' b' :: rest) := by
  obtain ⟨a', b', r, x1, x2, x3, x4, x5⟩ := draw_ok (T := T) hd hk a b h ha hb h0 h1 0 true (bx a b :: rest) rfl
  refine ⟨a', b', r, x1, x2, x3, x4, ?_⟩
  rw [v_call, v_lcons, v_var]
  show (R.bind (R.bind (R.ok (O.bor 0) (bx a b :: rest)) _) _) = _
  rw [R.bind_ok, v_lcons, he]
  exact x5
end Ev
namespace Ev
theorem slice_take (xs : List D) (c : Nat) (h : c ≤ xs.length) : slice (.d (.tup xs)) none (some (c : Int)) = some (.d (.tup (xs.take c))) := by
  have e : ¬ ((c : Int) < 0) := by omega
  simp [slice, cut, sIx, e, Nat.min_eq_left h]
theorem slice_drop (xs : List D) (c : Nat) (h : c ≤ xs.length) : slice (.d (.tup xs)) (some (c : Int)) none = some (.d (.tup (xs.drop c))) := by
  simp [slice, cut, sIx]
  rw [if_neg (by omega), Nat.min_eq_left h, List.take_of_length_le (by simp)]
theorem add_tup (xs ys : List D) (h : xs.length + ys.length ≤ cap) : bin .add (.d (.tup xs)) (.d (.tup ys)) = some (.d (.tup (xs ++ ys))) := by
  simp [bin, addO, h]
theorem add_L (xs ys : List D) (h : xs.length + ys.length ≤ cap) : bin .add (.L xs) (.L ys) = some (.L (xs ++ ys)) := by
  simp [bin, addO, h]
/-- one of a def's calls, told of data, by a slot's new list -/
theorem callF_L (T : Top) (ds : List Def) (m f : Nat) (d : Def) (hd : ds[f]? = some d) (xs ys : List D) (ρ ρ' : Ev) (z : D) (hl : d.np = 1)
    (h : evB T (calls T ds m) d.body m ([some (.L true xs)] ++ List.replicate d.nl none) = .ok (.ret (.d z)) (some (.L true ys) :: ρ')) : callF (calls T ds (m + 1)) (m + 1) f [.L xs] ρ = .ok (.d z) ρ :=
  callF_gen T ds m f d hd _ [some (.L true xs)] [some (.L true ys)] ρ (some (.L true ys) :: ρ') ρ z rfl rfl (by simp [hl]) h rfl rfl
end Ev
/-! P95a: the checks; buckets read back. -/
namespace Ev.K95
abbrev DO (lv f : Nat) (xs : List D) (o : O) : Prop := Does L.T L.ds lv f xs o
theorem con0 : L.T.con[0]? = some (.int 9) := rfl
theorem con1 : L.T.con[1]? = some (.int 200) := rfl
theorem con2 : L.T.con[2]? = some (.int 1000000) := rfl
def isI : D → Bool
  | .int _ => true
  | _ => false
theorem t0 (x : D) : DO 1 0 [x] (.d (.bl (isI x))) := .of d0 rfl _ _ rfl fun k hk => by
  cases x <;> simp [d0, arg, varS, isI]
theorem t1 (i lo hi : Int) : DO 2 1 [.int i, .int lo, .int hi] (.d (.bl (decide (lo ≤ i) && decide (i ≤ hi)))) := .of d1 rfl _ _ rfl fun k hk => by
  have e := t0 (.int i) k (by omega)
  simp only [List.map_cons, List.map_nil] at e
  simp [d1, arg, varS, e, isI]
  by_cases h : lo ≤ i <;> simp [h]
/-- check_log, of one line -/
theorem t2 (l : Int) (h0 : 0 ≤ l) (h9 : l ≤ 9) : DO 3 2 [.tup [.int l]] (.d .non) := .of d2 rfl _ _ rfl fun k hk => by
  have e := t1 l 0 9 k (by omega)
  simp only [List.map_cons, List.map_nil] at e
  have hc : evE L.T (calls L.T L.ds k) (.comp (.call 1 [.var 1, .int 0, .con 0]) (.nm 1) .seq [.var 0] [] [1]) k [some (.d (.tup [.int l])), none] = .ok (.L ([l].map fun _ => D.bl true)) [some (.d (.tup [.int l])), none] := by
    refine comp_map _ _ _ _ _ _ _ _ _ [] [l] D.int (fun _ => D.bl true) (by simp [varS]) rfl rfl (by show 1 ≤ 16777216; decide) ?_
    intro y hy
    obtain rfl := List.mem_singleton.mp hy
    refine ⟨[some (.d (.tup [.int y])), some (.d (.int y))], rfl, rfl, .d (.bl true), ?_, rfl⟩
    simp [varS, con0, e, h0, h9]
  have ha := all_enc [l] (fun _ => true)
  simp only [List.map_cons, List.map_nil] at hc ha
  simp [d2, -v_comp, arg, varS, con1, hc, ha]
/-! ### lines with seconds -/
abbrev encP (p : Int × Int) : D := .tup [.int p.1, .int p.2]
abbrev dPs (ps : List (Int × Int)) : D := .tup (ps.map encP)
structure Tm (ps : List (Int × Int)) : Prop where
  len : ps.length ≤ 200
  s0 : ∀ p ∈ ps, 0 ≤ p.1 ∧ p.1 ≤ 1000000
  l0 : ∀ p ∈ ps, 0 ≤ p.2 ∧ p.2 ≤ 9
  asc : ps.Pairwise fun p q => p.1 ≤ q.1
theorem upTo1 (n : Nat) : upTo 1 n = (List.range (n - 1)).map fun (k : Nat) => D.int ((1 + k : Nat) : Int) := upTo_from 1 n
theorem ixP (ps : List (Int × Int)) (k : Nat) (h : k < ps.length) : index (.d (dPs ps)) (.d (.int k)) = some (encP ps[k]) := by
  simp [h]
theorem t3 (ps : List (Int × Int)) (h : Tm ps) : DO 4 3 [dPs ps] (.d .non) := .of d3 rfl _ _ rfl fun k hk => by
  have hlen := h.len
  have hf : ∃ w, evS L.T (calls L.T L.ds k) (.for_ (.nm 1) .seq [.var 0]
   [.ite (.orL [.not_ (.isi (.var 1) .tuple), .cmp .ne (.blt .len [.var 1]) (.int 2), .not_ (.call 1 [.ix (.var 1) (.int 0), .int 0, .con 2])])
     [.raise 0]
     [],
    .ex (.call 2 [.sl (.var 1) (.int 1) .abs])]) k [some (.d (dPs ps)), none, none] = .ok .nx [some (.d (dPs ps)), dw w, none] := by
    obtain ⟨e, _⟩ := forL_run (α := Int × Int) (σ := Option D) [] [some (.d (dPs ps)), none, none] (.nm 1) (evB L.T (calls L.T L.ds k) [.ite (.orL [.not_ (.isi (.var 1) .tuple), .cmp .ne (.blt .len [.var 1]) (.int 2), .not_ (.call 1 [.ix (.var 1) (.int 0), .int 0, .con 2])])
     [.raise 0]
     [],
    .ex (.call 2 [.sl (.var 1) (.int 1) .abs])] k) encP (fun w => [some (.d (dPs ps)), dw w, none]) (fun _ a => .go (some (encP a))) (fun _ => True) (fun _ _ => rfl) ps none trivial (by
      intro s a _ ha
      refine ⟨[some (.d (dPs ps)), some (.d (encP a)), none], store_dw _ 1 s _ rfl, ?_, fun _ _ => trivial⟩
      have b := h.s0 a ha
      have c := h.l0 a ha
      have e1 := t1 a.1 0 1000000 k (by omega)
      have e2 := t2 a.2 c.1 c.2 k (by omega)
      simp only [List.map_cons, List.map_nil] at e1 e2
      have hs : slice (.d (encP a)) (some 1) none = some (.d (.tup [.int a.2])) := rfl
      refine Or.inl ?_
      simp [varS, e1, e2, b.1, b.2, con2, isAbs, hs])
    rw [runL_go] at e
    refine ⟨ps.foldl (fun _ a => some (encP a)) none, ?_⟩
    rw [v_for]
    simp only [v_lcons, v_lnil, v_var, varS, List.getElem?_cons_succ, List.getElem?_cons_zero, R.bind_ok, iter_tup, List.all_nil, R.grd_true]
    exact e
  obtain ⟨w, hf⟩ := hf
  have hc : evE L.T (calls L.T L.ds k) (.comp (.cmp .le (.ix (.ix (.var 0) (.bin .sub (.var 2) (.int 1))) (.int 0)) (.ix (.ix (.var 0) (.var 2)) (.int 0))) (.nm 2) .rng [.int 1, .blt .len [.var 0]] [] [2]) k [some (.d (dPs ps)), dw w, none]
      = .ok (.L ((List.range (ps.length - 1)).map fun _ => D.bl true)) [some (.d (dPs ps)), dw w, none] := by
    refine comp_map _ _ _ _ _ _ _ _ _ [] (List.range (ps.length - 1)) (fun (k : Nat) => D.int ((1 + k : Nat) : Int)) (fun _ => D.bl true) ?_ rfl rfl (by simp only [List.length_range]; show _ ≤ 16777216; omega) ?_
    · have := iter_rng [some (.d (dPs ps)), dw w, none] 1 ps.length (inR_2 _ _ (by omega) (by omega) (by omega) (by omega))
      simp only [v_lcons, v_lnil, v_int, v_blt, v_var, varS, List.getElem?_cons_succ, List.getElem?_cons_zero, R.bind_ok, List.map_cons, List.map_nil, rs_d, len_tup, List.length_map, oko_some, this, upTo1]
    · intro j hj
      have hj' := List.mem_range.mp hj
      have a1 := ixP ps j (by omega)
      have a2 := ixP ps (1 + j) (by omega)
      have as := (List.pairwise_iff_getElem.mp h.asc) j (1 + j) (by omega) (by omega) (by omega)
      refine ⟨[some (.d (dPs ps)), dw w, some (.d (.int ((1 + j : Nat) : Int)))], rfl, rfl, .d (.bl true), ?_, rfl⟩
      simp only [v_cmp, v_ix, v_var, v_bin, v_int, varS, List.getElem?_cons_succ, List.getElem?_cons_zero, R.bind_ok, rs_d, bin_sub_i, oko_some, show ((1 + j : Nat) : Int) - 1 = (j : Int) by omega, a1, a2, okd_some, index_tup, at_0, cmp_le_i, as, decide_true, okb_some]
  have ha := all_enc (List.range (ps.length - 1)) (fun _ => true)
  have hall : (List.range (ps.length - 1)).all (fun _ => true) = true := by simp
  rw [hall] at ha
  have h3 := all_ite L.T (calls L.T L.ds k) k _ _ _ [.raise 0] hc ha
  have h1 : evS L.T (calls L.T L.ds k) (.ite (.orL [.not_ (.isi (.var 0) .tuple), .cmp .gt (.blt .len [.var 0]) (.con 1)]) [.raise 0] []) k [some (.d (dPs ps)), none, none] = .ok .nx [some (.d (dPs ps)), none, none] := by
    have g : ¬ ((200 : Int) < (ps.length : Int)) := by omega
    simp [varS, con1, g]
  show fin 1 (evB L.T (calls L.T L.ds k) d3.body k [some (.d (dPs ps)), none, none]) = _
  unfold d3
  dsimp only
  rw [evB_nx h1, evB_nx hf, evB_nx h3]
  rfl
/-! ### what is written -/
inductive Wt where
  | kept (s l : Int) | left (n : Int)
deriving DecidableEq, Inhabited
def Wt.d : Wt → D
  | .kept s l => .tup [.int s, .int l]
  | .left n => .tup [.str 3, .int n]
def Wt.isL : Wt → Bool
  | .kept _ _ => false
  | .left _ => true
def Wt.ok : Wt → Prop
  | .kept _ _ => True
  | .left n => 1 ≤ n ∧ n ≤ 200
abbrev dW (ws : List Wt) : D := .tup (ws.map Wt.d)
theorem same_is (i : Int) (k : Nat) : same (.int i) (.str k) = some false := by simp [same, lim_int, lim_str, eqb]
/-- is_left -/
theorem t5 (w : Wt) (h : w.ok) : DO 2 5 [w.d] (.d (.bl w.isL)) := .of d5 rfl _ _ rfl fun k hk => by
  cases w with
  | kept s l => simp [d5, arg, varS, Wt.d, Wt.isL, same_is]
  | left n =>
    obtain ⟨h1, h2⟩ := h
    have e := t0 (.int n) k (by omega)
    simp only [List.map_cons, List.map_nil] at e
    have g : (0 : Int) < n := by omega
    simp [d5, arg, varS, Wt.d, Wt.isL, e, isI, con1, g, h2]
def mn (d x : Int) : Int := if x < d then x else d
/-- one thing that is written, by a bucket -/
def fillB (r d m : Int) (la : Option Int) (s : Int) : Int := match la with
  | none => m
  | some t => mn d (m + r * (s - t))
def wb (r d : Int) : List Wt → Int → Option Int → Bool
  | [], _, _ => true
  | .left _ :: ws, m, la => if m > 0 then false else wb r d ws m la
  | .kept s _ :: ws, m, la => if fillB r d m la s < 1 then false else wb r d ws (fillB r d m la s - 1) (some s)
def laD : Option Int → D
  | none => .non
  | some t => .int t
/-- the slots of is_written_by -/
structure WS where
  th : Option D
  m : Int
  la : Option Int
def wSt (r d : Int) (ws : List Wt) (s : WS) : Ev := [some (.d (.int r)), some (.d (.int d)), some (.d (dW ws)), dw s.th, some (.d (.int s.m)), some (.d (laD s.la))]
def wStep (r d : Int) (s : WS) (w : Wt) : Go WS := match w with
  | .left _ => if s.m > 0 then .ret (.d (.bl false)) ⟨some w.d, s.m, s.la⟩ else .go ⟨some w.d, s.m, s.la⟩
  | .kept t _ => if fillB r d s.m s.la t < 1 then .ret (.d (.bl false)) ⟨some w.d, fillB r d s.m s.la t, s.la⟩ else .go ⟨some w.d, fillB r d s.m s.la t - 1, some t⟩
theorem wb_run (r d : Int) : ∀ (ws : List Wt) (th : Option D) (m : Int) (la : Option Int), (wb r d ws m la = true ∧ ∃ s, runL (wStep r d) ws ⟨th, m, la⟩ = .go s) ∨ (wb r d ws m la = false ∧ ∃ s, runL (wStep r d) ws ⟨th, m, la⟩ = .ret (.d (.bl false)) s)
  | [], th, m, la => .inl ⟨rfl, _, rfl⟩
  | .left n :: ws, th, m, la => by
    unfold wb runL wStep
    dsimp only
    by_cases c : m > 0
    · rw [if_pos c, if_pos c]
      exact .inr ⟨rfl, _, rfl⟩
    · rw [if_neg c, if_neg c]
      exact wb_run r d ws _ m la
  | .kept s l :: ws, th, m, la => by
    unfold wb runL wStep
    dsimp only
    by_cases c : fillB r d m la s < 1
    · rw [if_pos c, if_pos c]
      exact .inr ⟨rfl, _, rfl⟩
    · rw [if_neg c, if_neg c]
      exact wb_run r d ws _ _ _
def bodyW7 : List S := [.ite (.call 5 [.var 3])
     [.ite (.cmp .gt (.var 4) (.int 0))
       [.ret (.bl false)]
       [],
      .cont]
     [],
    .ite (.cmp .isnot (.var 5) .non)
     [.set 4 (.blt .min2 [.var 1, .bin .add (.var 4) (.bin .mul (.var 0) (.bin .sub (.ix (.var 3) (.int 0)) (.var 5)))])]
     [],
    .ite (.cmp .lt (.var 4) (.int 1))
     [.ret (.bl false)]
     [],
    .par [4, 5] [.bin .sub (.var 4) (.int 1), .ix (.var 3) (.int 0)]]
@[simp] theorem min2_i (i j : Int) : blt .min2 [.d (.int i), .d (.int j)] = some (.d (.int (mn i j))) := rfl
theorem sml_of (i : Int) (h0 : -1000000000 ≤ i) (h1 : i ≤ 1000000000) : sml i = true := by simp [sml]; omega
theorem w_turn (k : Nat) (hk : 2 ≤ k) (r d : Int) (h0 : 0 ≤ r) (h1 : r ≤ 1000000) (ws : List Wt) (s : WS) (w : Wt) (hw : w.ok) :
    Ends (wSt r d ws) (evB L.T (calls L.T L.ds k) bodyW7 k (wSt r d ws { s with th := some w.d })) (wStep r d s w) := by
  obtain ⟨th, m, la⟩ := s
  have e5 := t5 w hw k (by omega)
  simp only [List.map_cons, List.map_nil] at e5
  have sr : (sml r || true) = true := by simp
  have sr' : sml r = true := sml_of r (by omega) (by omega)
  cases w with
  | left n =>
    have e5 : ∀ ρ, callF (calls L.T L.ds k) k 5 [O.d (Wt.left n).d] ρ = .ok (.d (.bl true)) ρ := e5
    unfold wStep
    dsimp only
    by_cases c : m > 0
    · rw [if_pos c]
      have c' : 0 < m := c
      show _ = _
      simp [bodyW7, wSt, varS, e5, c']
    · rw [if_neg c]
      have c' : ¬ 0 < m := c
      refine .inr ?_
      simp [bodyW7, wSt, varS, e5, c']
  | kept t l =>
    have e5 : ∀ ρ, callF (calls L.T L.ds k) k 5 [O.d (Wt.kept t l).d] ρ = .ok (.d (.bl false)) ρ := e5
    have i0 : index (.d (Wt.kept t l).d) (.d (.int 0)) = some (.int t) := rfl
    unfold wStep
    dsimp only
    cases la with
    | none =>
      have hf : fillB r d m none t = m := rfl
      rw [hf]
      by_cases c : m < 1
      · rw [if_pos c]
        show _ = _
        simp [bodyW7, wSt, varS, e5, c, laD, isNon]
      · rw [if_neg c]
        refine .inl ?_
        simp [bodyW7, wSt, varS, e5, c, laD, isNon, i0, assigns, store, free]
    | some la =>
      have hm : (sml r || sml (t - la)) = true := by rw [sr']; rfl
      have hf : fillB r d m (some la) t = mn d (m + r * (t - la)) := rfl
      rw [hf]
      by_cases c : mn d (m + r * (t - la)) < 1
      · rw [if_pos c]
        show _ = _
        simp [bodyW7, wSt, varS, e5, c, laD, isNon, i0, assigns, store, free, bin_mul_i _ _ hm]
      · rw [if_neg c]
        refine .inl ?_
        simp [bodyW7, wSt, varS, e5, c, laD, isNon, i0, assigns, store, free, bin_mul_i _ _ hm]
/-- is_written_by -/
theorem t7 (r d : Int) (h0 : 0 ≤ r) (h1 : r ≤ 1000000) (ws : List Wt) (hw : ∀ w ∈ ws, w.ok) : DO 3 7 [.int r, .int d, dW ws] (.d (.bl (wb r d ws d none))) := .of d7 rfl _ _ rfl fun k hk => by
  obtain ⟨e, _⟩ := forL_run [] (wSt r d ws ⟨none, d, none⟩) (.nm 3) (evB L.T (calls L.T L.ds k) bodyW7 k) Wt.d (wSt r d ws) (wStep r d) (fun _ => True) (fun _ _ => rfl) ws ⟨none, d, none⟩ trivial (by
    intro s a _ ha
    refine ⟨wSt r d ws { s with th := some a.d }, ?_, w_turn k (by omega) r d h0 h1 ws s a (hw a ha), fun _ _ => trivial⟩
    exact store_dw _ 3 s.th _ rfl)
  have hp : evS L.T (calls L.T L.ds k) (.par [4, 5] [.var 1, .non]) k [some (.d (.int r)), some (.d (.int d)), some (.d (dW ws)), none, none, none] = .ok .nx (wSt r d ws ⟨none, d, none⟩) := by
    simp [varS, assigns, store, free, wSt, laD]
  have hf : evS L.T (calls L.T L.ds k) (.for_ (.nm 3) .seq [.var 2] bodyW7) k (wSt r d ws ⟨none, d, none⟩) = goR (wSt r d ws) (runL (wStep r d) ws ⟨none, d, none⟩) := by
    rw [v_for]
    simp only [wSt, v_lcons, v_lnil, v_var, varS, List.getElem?_cons_succ, List.getElem?_cons_zero, R.bind_ok, iter_tup, List.all_nil, R.grd_true]
    exact e
  show fin 3 (evB L.T (calls L.T L.ds k) [.par [4, 5] [.var 1, .non], .for_ (.nm 3) .seq [.var 2] bodyW7, .ret (.bl true)] k [some (.d (.int r)), some (.d (.int d)), some (.d (dW ws)), none, none, none]) = _
  rw [evB_nx hp]
  rcases wb_run r d ws none d none with ⟨w1, s, w2⟩ | ⟨w1, s, w2⟩
  · rw [w2] at hf
    rw [evB_nx hf, w1]
    rfl
  · rw [w2] at hf
    rw [evB_fl hf, w1]
    rfl
end Ev.K95
/-! P95b: check_by_bucket, seconds_told, many_told. -/
namespace Ev.K95
def kp : List Wt → List (Int × Int)
  | [] => []
  | .kept s l :: ws => (s, l) :: kp ws
  | .left _ :: ws => kp ws
theorem kp_d (ws : List Wt) : (ws.filter fun w => !w.isL).map Wt.d = (kp ws).map encP := by
  induction ws with
  | nil => rfl
  | cons w ws ih =>
    cases w with
    | kept s l =>
      show Wt.d (.kept s l) :: (ws.filter fun w => !w.isL).map Wt.d = encP (s, l) :: (kp ws).map encP
      rw [ih]; rfl
    | left n => exact ih
structure Wd (ws : List Wt) : Prop where
  len : ws.length ≤ 200
  ok : ∀ w ∈ ws, w.ok
  tm : Tm (kp ws)
  shape : ∀ i (h : i < ws.length), ws[i].isL = true → i ≠ 0 ∧ i ≠ ws.length - 1 ∧ ∃ h' : i - 1 < ws.length, ws[i - 1].isL = false
def some_ (ws : List Wt) : Bool := (List.range (kp ws).length).any fun i => (List.range (1 + i)).any fun j => wb ((1 + j : Nat) : Int) ((1 + i : Nat) : Int) ws ((1 + i : Nat) : Int) none
theorem kp_le (ws : List Wt) : (kp ws).length ≤ ws.length := by
  induction ws with
  | nil => simp [kp]
  | cons w ws ih => cases w <;> simp [kp] <;> omega
theorem ixW (ws : List Wt) (k : Nat) (h : k < ws.length) : index (.d (dW ws)) (.d (.int k)) = some ws[k].d := by
  simp [h]
abbrev s6 (ws : List Wt) (a b : Option D) : Ev := [some (.d (dW ws)), none, none, dw a, dw b, none]
abbrev s6' (ws : List Wt) (c a b e : Option D) : Ev := [some (.d (dW ws)), some (.L false ((kp ws).map encP)), dw c, dw a, dw b, dw e]
section
variable (ws : List Wt) (k : Nat) (hk : 4 ≤ k) (h : Wd ws)
include hk h
theorem keptC (w1 w2 w3 w5 : Option W) (b : Option D) : evE L.T (calls L.T L.ds k) (.comp (.var 4) (.nm 4) .seq [.var 0] [.not_ (.call 5 [.var 4])] [4]) k [some (.d (dW ws)), w1, w2, w3, dw b, w5]
    = .ok (.L ((kp ws).map encP)) [some (.d (dW ws)), w1, w2, w3, dw b, w5] := by
  rw [← kp_d]
  refine comp_enc _ _ _ _ _ _ _ _ _ _ [] ws Wt.d (fun w => !w.isL) Wt.d (by simp [varS]) rfl rfl (by have := h.len; show _ ≤ 16777216; omega) ?_
  intro w hw
  have e5 := t5 w (h.ok w hw) k (by omega)
  simp only [List.map_cons, List.map_nil] at e5
  refine ⟨[some (.d (dW ws)), w1, w2, w3, some (.d w.d), w5], rfl, rfl, ?_, fun _ => ⟨.d w.d, rfl, rfl⟩⟩
  simp only [v_tcons, v_tnil, v_not, v_call, v_lcons, v_lnil, v_var, varS, List.getElem?_cons_succ, List.getElem?_cons_zero, R.bind_ok, e5, asT_d, truth_bl, R.opt_some]
  cases w.isL <;> rfl
theorem c6_1 : evS L.T (calls L.T L.ds k) (.ite (.orL [.not_ (.isi (.var 0) .tuple), .cmp .gt (.blt .len [.var 0]) (.con 1)]) [.raise 0] []) k (s6 ws none none) = .ok .nx (s6 ws none none) := by
  have g : ¬ ((200 : Int) < (ws.length : Int)) := by have := h.len; omega
  simp [varS, con1, g]
theorem c6_2 : evS L.T (calls L.T L.ds k) (.ex (.call 3 [.blt .tuple [.comp (.var 4) (.nm 4) .seq [.var 0] [.not_ (.call 5 [.var 4])] [4]]])) k (s6 ws none none) = .ok .nx (s6 ws none none) := by
  have e3 := t3 (kp ws) h.tm k (by omega)
  simp only [List.map_cons, List.map_nil] at e3
  have hc : evE L.T (calls L.T L.ds k) (.comp (.var 4) (.nm 4) .seq [.var 0] [.not_ (.call 5 [.var 4])] [4]) k (s6 ws none none) = .ok (.L ((kp ws).map encP)) (s6 ws none none) := keptC ws k hk h none none none none none
  simp only [v_ex, v_call, v_lcons, v_lnil, v_blt, hc, R.bind_ok, List.map_cons, List.map_nil, rs_L, tuple_L, oko_some, e3]
def body6 : List S := [.ite (.andL [.call 5 [.var 4], .orL [.cmp .eq (.var 3) (.int 0), .cmp .eq (.var 3) (.bin .sub (.blt .len [.var 0]) (.int 1)), .call 5 [.ix (.var 0) (.bin .sub (.var 3) (.int 1))]]])
     [.raise 0]
     []]
theorem c6_3 : ∃ a b, evS L.T (calls L.T L.ds k) (.for_ (.tp [.nm 3, .nm 4]) .enum [.var 0] body6) k (s6 ws none none) = .ok .nx (s6 ws a b) := by
  have hl := h.len
  obtain ⟨s, e⟩ := forL_nx (α := Wt × Nat) (σ := Option D × Option D) [] (s6 ws none none) (.tp [.nm 3, .nm 4]) (evB L.T (calls L.T L.ds k) body6 k) (fun p => .tup [.int p.2, p.1.d]) (fun s => s6 ws s.1 s.2) (fun _ => rfl) ws.zipIdx (none, none) (by
    rintro ⟨a, b⟩ ⟨w, i⟩ hm
    obtain ⟨hi, rfl⟩ := mem_zip hm
    refine ⟨s6 ws (some (.int i)) (some ws[i].d), ?_, (some (.int i), some ws[i].d), .inl ?_⟩
    · show bindTs [.nm 3, .nm 4] [.int i, ws[i].d] (s6 ws a b) = _
      simp only [bindTs, bindT]
      rw [store_dw _ 3 a _ rfl, Option.bind_some]
      show (store [some (.d (dW ws)), none, none, some (.d (.int i)), dw b, none] 4 _).bind _ = _
      rw [store_dw _ 4 b _ rfl]
      rfl
    · have e5 := t5 ws[i] (h.ok _ (List.getElem_mem hi)) k (by omega)
      simp only [List.map_cons, List.map_nil] at e5
      cases hL : ws[i].isL with
      | false =>
        rw [hL] at e5
        simp [body6, varS, e5]
      | true =>
        rw [hL] at e5
        obtain ⟨h1, h2, h', h3⟩ := h.shape i hi hL
        have e6 := t5 ws[i - 1] (h.ok _ (List.getElem_mem h')) k (by omega)
        rw [h3] at e6
        simp only [List.map_cons, List.map_nil] at e6
        have ix := ixW ws (i - 1) h'
        rw [show ((i - 1 : Nat) : Int) = (i : Int) - 1 by omega] at ix
        have g1 : ((i : Int) == 0) = false := by simp; omega
        have g2 : ((i : Int) == (ws.length : Int) - 1) = false := by simp; omega
        simp only [body6, v_bcons, v_bnil, v_if, v_and, v_or, v_ao2, v_ao1, v_call, v_cmp, v_bin, v_blt, v_ix, v_lcons, v_lnil, v_int, v_var, varS, dw_some, List.getElem?_cons_succ, List.getElem?_cons_zero, R.bind_ok, e5, onB_b, rs_d, cmp_eq_d, same_ii, g1, g2, okb_some, Bool.false_eq_true, if_false, Bool.true_eq_false, List.map_cons, List.map_nil, len_tup, List.length_map, oko_some, bin_sub_i, ix, okd_some, e6, asT_d, truth_bl, R.opt_some, ifB_f])
  refine ⟨s.1, s.2, ?_⟩
  rw [v_for]
  simp only [v_lcons, v_lnil, v_var, varS, List.getElem?_cons_succ, List.getElem?_cons_zero, R.bind_ok, iter_enumT, enum_map, List.all_nil, R.grd_true]
  exact e
theorem c6_4 (a b : Option D) : evS L.T (calls L.T L.ds k) (.set 1 (.comp (.var 4) (.nm 4) .seq [.var 0] [.not_ (.call 5 [.var 4])] [4])) k (s6 ws a b) = .ok .nx (s6' ws none a b none) := by
  have hc := keptC ws k hk h none none (dw a) none b
  rw [v_set, hc]
  rfl
def bodyI : List S := [.ite (.call 7 [.var 5, .var 2, .var 0])
       [.retN]
       []]
theorem c6_5i (a b : Option D) (e : Option D) (d : Nat) (hd : d ≤ 200) :
    ((List.range d).any (fun j => wb ((1 + j : Nat) : Int) (d : Int) ws (d : Int) none) = true ∧ ∃ ρ2, evS L.T (calls L.T L.ds k) (.for_ (.nm 5) .rng [.int 1, .bin .add (.var 2) (.int 1)] bodyI) k (s6' ws (some (.int d)) a b e) = .ok (.ret (.d .non)) ρ2 ∧ 1 ≤ ρ2.length) ∨
    ((List.range d).any (fun j => wb ((1 + j : Nat) : Int) (d : Int) ws (d : Int) none) = false ∧ ∃ e', evS L.T (calls L.T L.ds k) (.for_ (.nm 5) .rng [.int 1, .bin .add (.var 2) (.int 1)] bodyI) k (s6' ws (some (.int d)) a b e) = .ok .nx (s6' ws (some (.int d)) a b e')) := by
  have hi : iterF .rng (evL L.T (calls L.T L.ds k) [.int 1, .bin .add (.var 2) (.int 1)] k (s6' ws (some (.int d)) a b e)) = .ok ((List.range d).map fun (j : Nat) => D.int ((1 + j : Nat) : Int), []) (s6' ws (some (.int d)) a b e) := by
    have := iter_rng (s6' ws (some (.int d)) a b e) 1 ((d : Int) + 1) (inR_2 _ _ (by omega) (by omega) (by omega) (by omega))
    simp only [v_lcons, v_lnil, v_int, v_bin, v_var, varS, List.getElem?_cons_succ, List.getElem?_cons_zero, dw_some, R.bind_ok, rs_d, bin_add_i, oko_some, this]
    rw [show ((d : Int) + 1) = ((d + 1 : Nat) : Int) by omega, upTo1]
    rfl
  have r := forL_any (α := Nat) (σ := Option D) [] (s6' ws (some (.int d)) a b e) (.nm 5) (evB L.T (calls L.T L.ds k) bodyI k) (fun (j : Nat) => D.int ((1 + j : Nat) : Int)) (fun e => s6' ws (some (.int d)) a b e) (fun j => wb ((1 + j : Nat) : Int) (d : Int) ws (d : Int) none) (.d .non) (fun ρ => 1 ≤ ρ.length) (fun _ => rfl) (List.range d) e (by
    intro s j hj
    have hj' := List.mem_range.mp hj
    refine ⟨s6' ws (some (.int d)) a b (some (.int ((1 + j : Nat) : Int))), store_dw _ 5 s _ rfl, ?_⟩
    have e7 := t7 ((1 + j : Nat) : Int) d (by omega) (by omega) ws h.ok k (by omega)
    simp only [List.map_cons, List.map_nil] at e7
    cases hw : wb ((1 + j : Nat) : Int) (d : Int) ws (d : Int) none with
    | true =>
      rw [hw] at e7
      refine .inl ⟨rfl, s6' ws (some (.int d)) a b (some (.int ((1 + j : Nat) : Int))), ?_, by simp⟩
      simp only [bodyI, v_bcons, v_bnil, v_if, v_call, v_lcons, v_lnil, v_var, varS, dw_some, List.getElem?_cons_succ, List.getElem?_cons_zero, R.bind_ok, e7, asT_d, truth_bl, R.opt_some, ifB_t, v_retN]
    | false =>
      rw [hw] at e7
      refine .inr ⟨rfl, some (.int ((1 + j : Nat) : Int)), .inl ?_⟩
      simp only [bodyI, v_bcons, v_bnil, v_if, v_call, v_lcons, v_lnil, v_var, varS, dw_some, List.getElem?_cons_succ, List.getElem?_cons_zero, R.bind_ok, e7, asT_d, truth_bl, R.opt_some, ifB_f])
  rw [v_for, hi]
  exact r
theorem c6_5 (a b : Option D) :
    (some_ ws = true ∧ ∃ ρ2, evS L.T (calls L.T L.ds k) (.for_ (.nm 2) .rng [.int 1, .bin .add (.blt .len [.var 1]) (.int 1)] [.for_ (.nm 5) .rng [.int 1, .bin .add (.var 2) (.int 1)] bodyI]) k (s6' ws none a b none) = .ok (.ret (.d .non)) ρ2 ∧ 1 ≤ ρ2.length) ∨
    (some_ ws = false ∧ ∃ c e, evS L.T (calls L.T L.ds k) (.for_ (.nm 2) .rng [.int 1, .bin .add (.blt .len [.var 1]) (.int 1)] [.for_ (.nm 5) .rng [.int 1, .bin .add (.var 2) (.int 1)] bodyI]) k (s6' ws none a b none) = .ok .nx (s6' ws c a b e)) := by
  have hn : (kp ws).length ≤ 200 := Nat.le_trans (kp_le ws) h.len
  have hi : iterF .rng (evL L.T (calls L.T L.ds k) [.int 1, .bin .add (.blt .len [.var 1]) (.int 1)] k (s6' ws none a b none)) = .ok ((List.range (kp ws).length).map fun (j : Nat) => D.int ((1 + j : Nat) : Int), []) (s6' ws none a b none) := by
    have := iter_rng (s6' ws none a b none) 1 (((kp ws).length : Int) + 1) (inR_2 _ _ (by omega) (by omega) (by omega) (by omega))
    simp only [v_lcons, v_lnil, v_int, v_bin, v_blt, v_var, varS, List.getElem?_cons_succ, List.getElem?_cons_zero, R.bind_ok, List.map_cons, List.map_nil, rs, len_L, List.length_map, oko_some, bin_add_i, this]
    rw [show (((kp ws).length : Int) + 1) = (((kp ws).length + 1 : Nat) : Int) by omega, upTo1]
    rfl
  have r := forL_any (α := Nat) (σ := Option D × Option D) [] (s6' ws none a b none) (.nm 2) (evB L.T (calls L.T L.ds k) [.for_ (.nm 5) .rng [.int 1, .bin .add (.var 2) (.int 1)] bodyI] k) (fun (j : Nat) => D.int ((1 + j : Nat) : Int)) (fun s => s6' ws s.1 a b s.2)
    (fun i => (List.range (1 + i)).any fun j => wb ((1 + j : Nat) : Int) ((1 + i : Nat) : Int) ws ((1 + i : Nat) : Int) none) (.d .non) (fun ρ => 1 ≤ ρ.length) (fun _ => rfl) (List.range (kp ws).length) (none, none) (by
    rintro ⟨c, e⟩ i hi
    have hi' := List.mem_range.mp hi
    refine ⟨s6' ws (some (.int ((1 + i : Nat) : Int))) a b e, store_dw _ 2 c _ rfl, ?_⟩
    rcases c6_5i ws k hk h a b e (1 + i) (by omega) with ⟨r1, ρ2, r2, r3⟩ | ⟨r1, e', r2⟩
    · exact .inl ⟨r1, ρ2, evB_fl r2 _, r3⟩
    · exact .inr ⟨r1, (some (.int ((1 + i : Nat) : Int)), e'), .inl (by rw [evB_nx r2]; rfl)⟩)
  rw [v_for, hi]
  rcases r with ⟨r1, ρ2, r2, r3⟩ | ⟨r1, s, r2⟩
  · exact .inl ⟨r1, ρ2, r2, r3⟩
  · exact .inr ⟨r1, s.1, s.2, r2⟩
end
/-- check_by_bucket -/
theorem t6_ok (ws : List Wt) (h : Wd ws) (hs : some_ ws = true ∨ (kp ws).length = 0) : DO 5 6 [dW ws] (.d .non) := .of d6 rfl _ _ rfl fun k hk => by
  have e1 := c6_1 ws k hk h
  have e2 := c6_2 ws k hk h
  obtain ⟨a, b, e3⟩ := c6_3 ws k hk h
  have e4 := c6_4 ws k hk h a b
  show fin 1 (evB L.T (calls L.T L.ds k) [_, _, .for_ (.tp [.nm 3, .nm 4]) .enum [.var 0] body6, _, .for_ (.nm 2) .rng [.int 1, .bin .add (.blt .len [.var 1]) (.int 1)] [.for_ (.nm 5) .rng [.int 1, .bin .add (.var 2) (.int 1)] bodyI], _] k (s6 ws none none)) = _
  rw [evB_nx e1, evB_nx e2, evB_nx e3, evB_nx e4]
  rcases c6_5 ws k hk h a b with ⟨r1, ρ2, r2, r3⟩ | ⟨r1, c, e, r2⟩
  · rw [evB_fl r2, fin_d, if_pos (by simpa using r3)]
  · have h0 : (kp ws).length = 0 := by
      rcases hs with hs | hs
      · rw [hs] at r1; cases r1
      · exact hs
    rw [evB_nx r2]
    have e5 : evS L.T (calls L.T L.ds k) (.ite (.cmp .gt (.blt .len [.var 1]) (.int 0)) [.raise 0] []) k (s6' ws c a b e) = .ok .nx (s6' ws c a b e) := by
      simp [varS, rs, h0]
    rw [evB_nx e5]
    rfl
theorem t6_bad (ws : List Wt) (h : Wd ws) (hs : some_ ws = false) (h0 : 0 < (kp ws).length) : Raises L.T L.ds 5 6 [dW ws] 0 := .of d6 rfl _ _ rfl fun k hk => by
  have e1 := c6_1 ws k hk h
  have e2 := c6_2 ws k hk h
  obtain ⟨a, b, e3⟩ := c6_3 ws k hk h
  have e4 := c6_4 ws k hk h a b
  show exB 1 (evB L.T (calls L.T L.ds k) [_, _, .for_ (.tp [.nm 3, .nm 4]) .enum [.var 0] body6, _, .for_ (.nm 2) .rng [.int 1, .bin .add (.blt .len [.var 1]) (.int 1)] [.for_ (.nm 5) .rng [.int 1, .bin .add (.var 2) (.int 1)] bodyI], _] k (s6 ws none none)) = _
  rw [evB_nx e1, evB_nx e2, evB_nx e3, evB_nx e4]
  rcases c6_5 ws k hk h a b with ⟨r1, ρ2, r2, r3⟩ | ⟨r1, c, e, r2⟩
  · rw [hs] at r1; cases r1
  · rw [evB_nx r2]
    have g : (0 : Int) < ((kp ws).length : Int) := by omega
    have e5 : evS L.T (calls L.T L.ds k) (.ite (.cmp .gt (.blt .len [.var 1]) (.int 0)) [.raise 0] []) k (s6' ws c a b e) = .exc 0 (s6' ws c a b e) := by
      simp [varS, rs, g, h0]
    rw [evB_exc e5]
    rfl
/-! ### seconds told -/
def exS (acc : List Int) : Wt → List Int
  | .kept s _ => acc ++ [s]
  | .left n => acc ++ List.replicate n.toNat (acc.getLastD 0)
def ex (ws : List Wt) : List Int := ws.foldl exS []
def body9 : List S := [.set 1 (.bin .add (.var 1) (.ite (.call 5 [.var 2]) (.bin .mul (.lst [.ix (.var 1) (.neg (.int 1))]) (.ix (.var 2) (.int 1))) (.lst [.ix (.var 2) (.int 0)])))]
abbrev s9 (ws : List Wt) (acc : List Int) (a : Option D) : Ev := [some (.d (dW ws)), some (.L false (acc.map D.int)), dw a]
theorem at_last (xs : List D) (x : D) : at_ (xs ++ [x]) (-1) = some x := by
  have h : ((((xs ++ [x]).length : Nat) : Int) + (-1)).toNat = xs.length := by simp; omega
  unfold at_ place
  rw [if_neg (by omega), if_pos (by simp; omega)]
  show (xs ++ [x])[((((xs ++ [x]).length : Nat) : Int) + (-1)).toNat]? = _
  rw [h]
  simp
theorem rep1 (n : Nat) (x : Int) : (List.replicate n [D.int x]).flatten = (List.replicate n x).map D.int := by
  induction n with
  | zero => rfl
  | succ n ih =>
    rw [List.replicate_succ, List.flatten_cons, ih, List.replicate_succ]
    rfl
theorem t9_turn (ws : List Wt) (k : Nat) (hk : 2 ≤ k) (w : Wt) (hw : w.ok) (acc : List Int) (hc : acc.length ≤ 100000) (hn : w.isL = true → acc ≠ []) :
    evB L.T (calls L.T L.ds k) body9 k (s9 ws acc (some w.d)) = .ok .nx (s9 ws (exS acc w) (some w.d)) := by
  have e5 := t5 w hw k (by omega)
  simp only [List.map_cons, List.map_nil] at e5
  cases w with
  | kept s l =>
    have e5 : ∀ ρ, callF (calls L.T L.ds k) k 5 [O.d (Wt.kept s l).d] ρ = .ok (.d (.bl false)) ρ := e5
    have i0 : index (.d (Wt.kept s l).d) (.d (.int 0)) = some (.int s) := rfl
    have ad : bin .add (.L (acc.map D.int)) (.L [.int s]) = some (.L ((acc ++ [s]).map D.int)) := by
      show (if _ ≤ cap then _ else _) = _
      rw [if_pos (by simp; show _ ≤ 16777216; omega)]
      simp
    simp only [body9, v_bcons, v_bnil, v_set, v_bin, v_ite, v_call, v_lst, v_ix, v_lcons, v_lnil, v_int, v_var, varS, dw_some, List.getElem?_cons_succ, List.getElem?_cons_zero, R.bind_ok, e5, asT_d, truth_bl, R.opt_some, ifB_f, rs_d, i0, okd_some, keeps_d, keeps_nil, Option.map_some, rs, ad, oko_some, assign_L]
    rfl
  | left n =>
    obtain ⟨n1, n2⟩ := hw
    have e5 : ∀ ρ, callF (calls L.T L.ds k) k 5 [O.d (Wt.left n).d] ρ = .ok (.d (.bl true)) ρ := e5
    have i1 : index (.d (Wt.left n).d) (.d (.int 1)) = some (.int n) := rfl
    obtain ⟨pre, x, rfl⟩ : ∃ pre x, acc = pre ++ [x] := by
      rcases List.eq_nil_or_concat acc with rfl | ⟨p, x, rfl⟩
      · exact absurd rfl (hn rfl)
      · exact ⟨p, x, by simp⟩
    have il : index (.L ((pre ++ [x]).map D.int)) (.d (.int (-1))) = some (.int x) := by
      rw [List.map_append]
      exact at_last _ _
    have mu : bin .mul (.L [.int x]) (.d (.int n)) = some (.L ((List.replicate n.toNat x).map D.int)) := by
      show (if _ then _ else _) = _
      rw [if_pos (by
        refine ⟨by omega, by omega, ?_⟩
        simp only [List.length_singleton, Nat.one_mul]
        show _ ≤ 16777216
        omega), rep1]
    have ad : bin .add (.L ((pre ++ [x]).map D.int)) (.L ((List.replicate n.toNat x).map D.int)) = some (.L ((pre ++ [x] ++ List.replicate n.toNat x).map D.int)) := by
      show (if _ ≤ cap then _ else _) = _
      rw [if_pos (by
        simp only [List.length_map, List.length_replicate]
        show _ ≤ 16777216
        omega)]
      simp
    have hx : exS (pre ++ [x]) (.left n) = pre ++ [x] ++ List.replicate n.toNat x := by simp [exS]
    rw [hx]
    simp only [body9, v_bcons, v_bnil, v_set, v_bin, v_ite, v_call, v_lst, v_ix, v_neg, v_lcons, v_lnil, v_int, v_var, varS, dw_some, List.getElem?_cons_succ, List.getElem?_cons_zero, R.bind_ok, e5, asT_d, truth_bl, R.opt_some, ifB_t, rs_d, i1, okd_some, optInt_i, rs, il, keeps_d, keeps_nil, Option.map_some, mu, oko_some, ad, assign_L]
    rfl
theorem exS_ne (acc : List Int) (w : Wt) (hw : w.ok) (h : w.isL = true → acc ≠ []) : exS acc w ≠ [] := by
  cases w with
  | kept s l => simp [exS]
  | left n =>
    have := h rfl
    simp [exS, this]
theorem exS_len (acc : List Int) (w : Wt) (hw : w.ok) : (exS acc w).length ≤ acc.length + 200 := by
  cases w with
  | kept s l => simp [exS]
  | left n =>
    obtain ⟨n1, n2⟩ := hw
    simp [exS]; omega
theorem t9_loop (ws : List Wt) (k : Nat) (hk : 2 ≤ k) (ρ0 : Ev) : ∀ (us : List Wt) (acc : List Int) (a : Option D), (∀ w ∈ us, w.ok) → acc.length + 200 * us.length ≤ 100000 → (acc = [] → ∀ w, us.head? = some w → w.isL = false) →
    ∃ a', forL [] ρ0 (.nm 2) (evB L.T (calls L.T L.ds k) body9 k) (us.map Wt.d) (s9 ws acc a) = .ok .nx (s9 ws (us.foldl exS acc) a')
  | [], acc, a, _, _, _ => ⟨a, rfl⟩
  | w :: us, acc, a, ok, hl, hd => by
    have hw := ok w (by simp)
    have hn : w.isL = true → acc ≠ [] := fun e z => by
      have := hd z w rfl
      rw [this] at e; cases e
    have hl' : acc.length + (200 * us.length + 200) ≤ 100000 := by simp only [List.length_cons] at hl; omega
    have e := t9_turn ws k hk w hw acc (by omega) hn
    have hne := exS_ne acc w hw hn
    have hle := exS_len acc w hw
    obtain ⟨a', e2⟩ := t9_loop ws k hk ρ0 us (exS acc w) (some w.d) (fun z hz => ok z (List.mem_cons_of_mem _ hz)) (by omega) (fun z => absurd z hne)
    refine ⟨a', ?_⟩
    have hb : bindT (.nm 2) w.d (s9 ws acc a) = some (s9 ws acc (some w.d)) := store_dw _ 2 a _ rfl
    show forL [] ρ0 (.nm 2) _ (w.d :: us.map Wt.d) _ = _
    simp only [forL, stands, if_true, hb, R.opt_some, e, R.bind_ok]
    exact e2
theorem head_kept (ws : List Wt) (h : Wd ws) : ∀ w, ws.head? = some w → w.isL = false := by
  intro w hw
  cases hL : w.isL with
  | false => rfl
  | true =>
    cases ws with
    | nil => cases hw
    | cons x xs =>
      have : x = w := by simpa using hw
      subst this
      exact absurd rfl (h.shape 0 (by simp) hL).1
theorem t9_ok (ws : List Wt) (h : Wd ws) (hs : some_ ws = true ∨ (kp ws).length = 0) : DO 6 9 [dW ws] (.d (.tup ((ex ws).map D.int))) := .of d9 rfl _ _ rfl fun k hk => by
  have e6 := t6_ok ws h hs k (by omega)
  simp only [List.map_cons, List.map_nil] at e6
  have hl := h.len
  obtain ⟨a', e⟩ := t9_loop ws k (by omega) (s9 ws [] none) ws [] none h.ok (by simp only [List.length_nil]; omega) (fun _ => head_kept ws h)
  have e1 : evS L.T (calls L.T L.ds k) (.ex (.call 6 [.var 0])) k [some (.d (dW ws)), none, none] = .ok .nx [some (.d (dW ws)), none, none] := by
    simp only [v_ex, v_call, v_lcons, v_lnil, v_var, varS, List.getElem?_cons_succ, List.getElem?_cons_zero, R.bind_ok, e6]
  have e2 : evS L.T (calls L.T L.ds k) (.set 1 (.lst [])) k [some (.d (dW ws)), none, none] = .ok .nx (s9 ws [] none) := rfl
  have e3 : evS L.T (calls L.T L.ds k) (.for_ (.nm 2) .seq [.var 0] body9) k (s9 ws [] none) = .ok .nx (s9 ws (ex ws) a') := by
    rw [v_for]
    simp only [v_lcons, v_lnil, v_var, varS, List.getElem?_cons_succ, List.getElem?_cons_zero, R.bind_ok, iter_tup, List.all_nil, R.grd_true]
    exact e
  show fin 1 (evB L.T (calls L.T L.ds k) [_, _, .for_ (.nm 2) .seq [.var 0] body9, _] k [some (.d (dW ws)), none, none]) = _
  rw [evB_nx e1, evB_nx e2, evB_nx e3]
  rfl
theorem t9_bad (ws : List Wt) (h : Wd ws) (hs : some_ ws = false) (h0 : 0 < (kp ws).length) : Raises L.T L.ds 6 9 [dW ws] 0 := .of d9 rfl _ _ rfl fun k hk => by
  have e6 := t6_bad ws h hs h0 k (by omega)
  simp only [List.map_cons, List.map_nil] at e6
  have e1 : evS L.T (calls L.T L.ds k) (.ex (.call 6 [.var 0])) k [some (.d (dW ws)), none, none] = .exc 0 [some (.d (dW ws)), none, none] := by
    simp only [v_ex, v_call, v_lcons, v_lnil, v_var, varS, List.getElem?_cons_succ, List.getElem?_cons_zero, R.bind_ok, e6, R.bind_exc]
  show exB 1 (evB L.T (calls L.T L.ds k) (_ :: _) k [some (.d (dW ws)), none, none]) = _
  rw [evB_exc e1]
  rfl
theorem t8_ok (ws : List Wt) (h : Wd ws) (hs : some_ ws = true ∨ (kp ws).length = 0) : DO 7 8 [dW ws] (.d (.int (ex ws).length)) := .of d8 rfl _ _ rfl fun k hk => by
  have e := t9_ok ws h hs k (by omega)
  simp only [List.map_cons, List.map_nil] at e
  simp [d8, arg, varS, e]
theorem t8_bad (ws : List Wt) (h : Wd ws) (hs : some_ ws = false) (h0 : 0 < (kp ws).length) : Raises L.T L.ds 7 8 [dW ws] 0 := .of d8 rfl _ _ rfl fun k hk => by
  have e := t9_bad ws h hs h0 k (by omega)
  simp only [List.map_cons, List.map_nil] at e
  simp [d8, arg, varS, e]
end Ev.K95
/-! P95c: buckets, plainly. -/
namespace Ev.K95
structure BS where
  found : List Wt
  many : Int
  lost : Int
  last : Int
def bkS (r d : Int) (st : BS) (p : Int × Int) : BS :=
  let m := if st.found = [] then d else mn d (st.many + r * (p.1 - st.last))
  if 0 < m then ⟨st.found ++ (if 0 < st.lost then [.left st.lost, .kept p.1 p.2] else [.kept p.1 p.2]), m - 1, 0, p.1⟩ else ⟨st.found, m, st.lost + 1, p.1⟩
def bk0 (d : Int) : BS := ⟨[], d, 0, 0⟩
def bk (r d : Int) (ps : List (Int × Int)) : BS := ps.foldl (bkS r d) (bk0 d)
theorem mn_le (d x : Int) : mn d x ≤ d ∧ mn d x ≤ x := by unfold mn; split <;> omega
theorem mn_eq (d x : Int) : mn d x = d ∨ mn d x = x := by unfold mn; split <;> omega
theorem mul_ge {r a : Int} (hr : 0 ≤ r) (ha : 1 ≤ a) : r ≤ r * a := by
  have := Int.mul_le_mul_of_nonneg_left ha hr
  omega
theorem mul_nn {r a : Int} (hr : 0 ≤ r) (ha : 0 ≤ a) : 0 ≤ r * a := Int.mul_nonneg hr ha
theorem wb_app_left {r d n m : Int} {la : Option Int} (ws : List Wt) (h : m ≤ 0) : wb r d (.left n :: ws) m la = wb r d ws m la := by
  show (if m > 0 then false else _) = _
  rw [if_neg (by omega)]
theorem wb_kept {r d m s l : Int} {la : Option Int} (ws : List Wt) (h : 1 ≤ fillB r d m la s) : wb r d (.kept s l :: ws) m la = wb r d ws (fillB r d m la s - 1) (some s) := by
  show (if fillB r d m la s < 1 then false else _) = _
  rw [if_neg (by omega)]
theorem ex_app (ws us : List Wt) : ex (ws ++ us) = us.foldl exS (ex ws) := by unfold ex; rw [List.foldl_append]
theorem kp_app (ws us : List Wt) : kp (ws ++ us) = kp ws ++ kp us := by
  induction ws with
  | nil => rfl
  | cons w ws ih => cases w <;> simp [kp, ih]
/-- no left at the head, none behind a left; the last is kept -/
def shp : Bool → List Wt → Bool
  | b, [] => !b
  | b, .left _ :: ws => !b && shp true ws
  | _, .kept _ _ :: ws => shp false ws
theorem shp_app : ∀ (ws us : List Wt) (b : Bool), shp b ws = true → ws ≠ [] → shp b (ws ++ us) = shp false us
  | [], us, b, _, h => absurd rfl h
  | .kept s l :: ws, us, b, h, _ => by
    show shp false (ws ++ us) = _
    cases ws with
    | nil => rfl
    | cons w ws => exact shp_app (w :: ws) us false h (by simp)
  | .left n :: ws, us, b, h, _ => by
    have h : (!b && shp true ws) = true := h
    simp only [Bool.and_eq_true] at h
    show (!b && shp true (ws ++ us)) = _
    cases ws with
    | nil => simp [shp] at h
    | cons w ws => rw [h.1, Bool.true_and]; exact shp_app (w :: ws) us true h.2 (by simp)
structure BInv (r d : Int) (pre : List (Int × Int)) (st : BS) : Prop where
  m0 : 0 ≤ st.many
  m1 : st.many ≤ d
  l0 : 0 ≤ st.lost
  lm : 0 < st.lost → st.many = 0
  ne : st.found = [] ↔ pre = []
  nl : st.found = [] → st.lost = 0
  run : st.found ≠ [] → ∀ rest, wb r d (st.found ++ rest) d none = wb r d rest st.many (some st.last)
  exq : ex st.found ++ List.replicate st.lost.toNat st.last = pre.map Prod.fst
  lst : st.found ≠ [] → (ex st.found).getLastD 0 = st.last
  mem : st.found ≠ [] → ∃ p ∈ pre, p.1 = st.last
  top : ∀ p ∈ pre, p.1 ≤ st.last
  shape : st.found ≠ [] → shp true st.found = true
  sub : (kp st.found).Sublist pre
  ok : ∀ w ∈ st.found, w.ok
  len : (st.found.length : Int) + st.lost ≤ pre.length
theorem shp_kept_true : ∀ ws : List Wt, True := fun _ => trivial
theorem binv0 (r d : Int) (hd : 1 ≤ d) : BInv r d [] (bk0 d) :=
  ⟨by show 0 ≤ d; omega, by show d ≤ d; omega, by show (0 : Int) ≤ 0; omega, fun h => by have h : (0 : Int) < 0 := h; omega, by simp [bk0], fun _ => rfl, fun h => absurd rfl h, rfl, fun h => absurd rfl h, fun h => absurd rfl h, fun p h => (by cases h), fun h => absurd rfl h, List.nil_sublist _, fun w h => (by cases h), by simp [bk0]⟩
theorem binvS {r d : Int} (hr : 1 ≤ r) (hd : 1 ≤ d) {pre : List (Int × Int)} {st : BS} (h : BInv r d pre st) (p : Int × Int) (hp : ∀ q ∈ pre, q.1 ≤ p.1) (hl : pre.length < 200) : BInv r d (pre ++ [p]) (bkS r d st p) := by
  obtain ⟨s, l⟩ := p
  have hp : ∀ q ∈ pre, q.1 ≤ s := hp
  by_cases hf : st.found = []
  · -- the first line
    have hpre := h.ne.mp hf
    have e : bkS r d st (s, l) = ⟨[.kept s l], d - 1, 0, s⟩ := by
      have h0 := h.nl hf
      unfold bkS
      simp only [hf, if_true]
      rw [if_pos (by omega), h0]
      simp
    rw [e, hpre]
    refine ⟨by show 0 ≤ d - 1; omega, by show d - 1 ≤ d; omega, by show (0 : Int) ≤ 0; omega, fun z => by have z : (0 : Int) < 0 := z; omega, by simp, fun z => (by cases z), fun _ rest => ?_, rfl, fun _ => rfl, fun _ => ⟨(s, l), by simp, rfl⟩, fun q hq => ?_, fun _ => rfl, by simp [kp], fun w hw => ?_, by simp⟩
    · exact wb_kept rest hd
    · have : q = (s, l) := by simpa using hq
      rw [this]; exact Int.le_refl _
    · have : w = .kept s l := by simpa using hw
      rw [this]; trivial
  · have hrun := h.run hf
    have hlst := h.lst hf
    obtain ⟨q, hq, hq1⟩ := h.mem hf
    have hsl : st.last ≤ s := by rw [← hq1]; exact hp q hq
    have hm0 := h.m0
    have hm1 := h.m1
    have hdt : 0 ≤ r * (s - st.last) := mul_nn (by omega) (by omega)
    have hfill : fillB r d st.many (some st.last) s = mn d (st.many + r * (s - st.last)) := rfl
    by_cases c : 0 < mn d (st.many + r * (s - st.last))
    · have e : bkS r d st (s, l) = ⟨st.found ++ (if 0 < st.lost then [.left st.lost, .kept s l] else [.kept s l]), mn d (st.many + r * (s - st.last)) - 1, 0, s⟩ := by
        unfold bkS
        simp only [if_neg hf]
        rw [if_pos c]
      rw [e]
      have hml := mn_le d (st.many + r * (s - st.last))
      have htop : ∀ q ∈ pre ++ [(s, l)], q.1 ≤ s := fun q hq => by
        rcases List.mem_append.mp hq with hq | hq
        · exact hp q hq
        · have : q = (s, l) := by simpa using hq
          rw [this]; exact Int.le_refl _
      have hlen := h.len
      have hl0 := h.l0
      by_cases cl : 0 < st.lost
      · have hz := h.lm cl
        simp only [if_pos cl]
        have hex : ex (st.found ++ [.left st.lost, .kept s l]) = pre.map Prod.fst ++ [s] := by
          rw [ex_app, ← h.exq]
          show ex st.found ++ List.replicate st.lost.toNat ((ex st.found).getLastD 0) ++ [s] = _
          rw [hlst]
        refine ⟨by show 0 ≤ mn d _ - 1; omega, by show mn d _ - 1 ≤ d; omega, by show (0 : Int) ≤ 0; omega, fun z => by have z : (0 : Int) < 0 := z; omega, by simp, fun z => by simp at z, fun _ rest => ?_, ?_, fun _ => ?_, fun _ => ⟨(s, l), by simp, rfl⟩, htop, fun _ => ?_, ?_, fun w hw => ?_, by simp; omega⟩
        · show wb r d (st.found ++ [.left st.lost, .kept s l] ++ rest) d none = wb r d rest (mn d _ - 1) (some s)
          rw [List.append_assoc, hrun]
          show wb r d (.left st.lost :: .kept s l :: rest) st.many (some st.last) = _
          rw [wb_app_left _ (by omega), wb_kept _ (by rw [hfill]; omega), hfill]
        · show ex (st.found ++ [.left st.lost, .kept s l]) ++ List.replicate (0 : Int).toNat s = (pre ++ [(s, l)]).map Prod.fst
          rw [hex]; simp
        · show (ex (st.found ++ [.left st.lost, .kept s l])).getLastD 0 = s
          rw [hex]; simp
        · show shp true (st.found ++ [.left st.lost, .kept s l]) = true
          rw [shp_app _ _ _ (h.shape hf) hf]; rfl
        · show (kp (st.found ++ [.left st.lost, .kept s l])).Sublist _
          rw [kp_app]
          exact List.Sublist.append h.sub (List.Sublist.refl _)
        · rcases List.mem_append.mp hw with hw | hw
          · exact h.ok w hw
          · simp only [List.mem_cons, List.not_mem_nil, or_false] at hw
            rcases hw with rfl | rfl
            · show 1 ≤ st.lost ∧ st.lost ≤ 200
              omega
            · trivial
      · have hz : st.lost = 0 := by omega
        simp only [if_neg cl]
        have hex : ex (st.found ++ [.kept s l]) = pre.map Prod.fst ++ [s] := by
          rw [ex_app, ← h.exq, hz]
          show ex st.found ++ [s] = ex st.found ++ [] ++ [s]
          simp
        refine ⟨by show 0 ≤ mn d _ - 1; omega, by show mn d _ - 1 ≤ d; omega, by show (0 : Int) ≤ 0; omega, fun z => by have z : (0 : Int) < 0 := z; omega, by simp, fun z => by simp at z, fun _ rest => ?_, ?_, fun _ => ?_, fun _ => ⟨(s, l), by simp, rfl⟩, htop, fun _ => ?_, ?_, fun w hw => ?_, by simp; omega⟩
        · show wb r d (st.found ++ [.kept s l] ++ rest) d none = wb r d rest (mn d _ - 1) (some s)
          rw [List.append_assoc, hrun]
          show wb r d (.kept s l :: rest) st.many (some st.last) = _
          rw [wb_kept _ (by rw [hfill]; omega), hfill]
        · show ex (st.found ++ [.kept s l]) ++ List.replicate (0 : Int).toNat s = (pre ++ [(s, l)]).map Prod.fst
          rw [hex]; simp
        · show (ex (st.found ++ [.kept s l])).getLastD 0 = s
          rw [hex]; simp
        · show shp true (st.found ++ [.kept s l]) = true
          rw [shp_app _ _ _ (h.shape hf) hf]; rfl
        · show (kp (st.found ++ [.kept s l])).Sublist _
          rw [kp_app]
          exact List.Sublist.append h.sub (List.Sublist.refl _)
        · rcases List.mem_append.mp hw with hw | hw
          · exact h.ok w hw
          · have : w = .kept s l := by simpa using hw
            rw [this]; trivial
    · -- a line is lost: the same second, nothing in the bucket
      have hx : mn d (st.many + r * (s - st.last)) = st.many + r * (s - st.last) := by
        rcases mn_eq d (st.many + r * (s - st.last)) with z | z
        · omega
        · exact z
      have hsl2 : s = st.last := by
        by_cases z : 1 ≤ s - st.last
        · have := mul_ge (r := r) (by omega) z
          omega
        · omega
      have hm : st.many = 0 := by omega
      have hmn : mn d (st.many + r * (s - st.last)) = 0 := by omega
      have e : bkS r d st (s, l) = ⟨st.found, 0, st.lost + 1, s⟩ := by
        unfold bkS
        simp only [if_neg hf]
        rw [if_neg c, hmn]
      rw [e, hsl2]
      have hl0 := h.l0
      have hlen := h.len
      refine ⟨by show (0 : Int) ≤ 0; omega, by show 0 ≤ d; omega, by show 0 ≤ st.lost + 1; omega, fun _ => rfl, by simp [hf], fun z => absurd z hf, fun _ rest => ?_, ?_, fun _ => hlst, fun _ => ⟨(st.last, l), by simp, rfl⟩, fun q hq => ?_, h.shape, h.sub.trans (List.sublist_append_left _ _), h.ok, by simp; omega⟩
      · rw [hrun, hm]
      · show ex st.found ++ List.replicate (st.lost + 1).toNat st.last = _
        rw [show (st.lost + 1).toNat = st.lost.toNat + 1 by omega, List.replicate_succ', ← List.append_assoc, h.exq]
        simp
      · rcases List.mem_append.mp hq with hq | hq
        · exact h.top q hq
        · have : q = (st.last, l) := by simpa using hq
          rw [this]; exact Int.le_refl _
theorem bk_app (r d : Int) (ps : List (Int × Int)) (p : Int × Int) : bk r d (ps ++ [p]) = bkS r d (bk r d ps) p := by
  unfold bk
  rw [List.foldl_append]; rfl
theorem binv (r d : Int) (hr : 1 ≤ r) (hd : 1 ≤ d) : ∀ (n : Nat) (ps : List (Int × Int)), ps.length = n → n ≤ 200 → ps.Pairwise (fun p q => p.1 ≤ q.1) → BInv r d ps (bk r d ps)
  | 0, ps, h, _, _ => by
    rw [List.length_eq_zero_iff.mp h]
    exact binv0 r d hd
  | n + 1, ps, h, hn, ha => by
    rcases List.eq_nil_or_concat ps with rfl | ⟨qs, p, rfl⟩
    · cases h
    · rw [List.concat_eq_append] at h ha ⊢
      rw [bk_app]
      have hl : qs.length = n := by simpa using h
      have ha2 := List.pairwise_append.mp ha
      exact binvS hr hd (binv r d hr hd n qs hl (by omega) ha2.1) p (fun q hq => ha2.2.2 q hq p (by simp)) (by omega)
end Ev.K95
/-! P95d: what a bucket wrote is read back; what two buckets would be needed for is not. -/
namespace Ev.K95
theorem shp_ix : ∀ (ws : List Wt) (b : Bool), shp b ws = true → ∀ i (h : i < ws.length), ws[i].isL = true → (i = 0 → b = false) ∧ i ≠ ws.length - 1 ∧ (i ≠ 0 → ∃ h' : i - 1 < ws.length, ws[i - 1].isL = false)
  | [], b, _, i, h, _ => by simp at h
  | .left n :: ws, b, hs, i, h, hL => by
    have hs : (!b && shp true ws) = true := hs
    simp only [Bool.and_eq_true, Bool.not_eq_true'] at hs
    cases i with
    | zero =>
      refine ⟨fun _ => hs.1, ?_, fun z => absurd rfl z⟩
      cases ws with
      | nil => simp [shp] at hs
      | cons w ws => simp
    | succ j =>
      have hj : j < ws.length := by simpa using h
      obtain ⟨a, b', c⟩ := shp_ix ws true hs.2 j hj (by simpa using hL)
      have hj0 : j ≠ 0 := fun z => by have := a z; cases this
      refine ⟨fun z => by omega, by simp; omega, fun _ => ?_⟩
      obtain ⟨h', e⟩ := c hj0
      refine ⟨by simp; omega, ?_⟩
      obtain ⟨j', rfl⟩ : ∃ j', j = j' + 1 := ⟨j - 1, by omega⟩
      simpa using e
  | .kept s l :: ws, b, hs, i, h, hL => by
    have hs : shp false ws = true := hs
    cases i with
    | zero => cases hL
    | succ j =>
      have hj : j < ws.length := by simpa using h
      obtain ⟨a, b', c⟩ := shp_ix ws false hs j hj (by simpa using hL)
      refine ⟨fun z => by omega, by simp; omega, fun _ => ?_⟩
      by_cases hj0 : j = 0
      · subst hj0
        exact ⟨by simp, rfl⟩
      · obtain ⟨h', e⟩ := c hj0
        refine ⟨by simp; omega, ?_⟩
        obtain ⟨j', rfl⟩ : ∃ j', j = j' + 1 := ⟨j - 1, by omega⟩
        simpa using e
theorem wd_of {ws : List Wt} (hl : ws.length ≤ 200) (ok : ∀ w ∈ ws, w.ok) (tm : Tm (kp ws)) (hs : ws = [] ∨ shp true ws = true) : Wd ws := by
  refine ⟨hl, ok, tm, fun i h hL => ?_⟩
  rcases hs with rfl | hs
  · simp at h
  · obtain ⟨a, b, c⟩ := shp_ix ws true hs i h hL
    have h0 : i ≠ 0 := fun z => by have := a z; cases this
    exact ⟨h0, b, c h0⟩
theorem bk_wd {r d : Int} (hr : 1 ≤ r) (hd : 1 ≤ d) {ps : List (Int × Int)} (h : Tm ps) : Wd (bk r d ps).found := by
  have b := binv r d hr hd ps.length ps rfl h.len h.asc
  have hl := h.len
  have h1 := b.len
  have h2 := b.l0
  refine wd_of (by omega) b.ok ⟨Nat.le_trans b.sub.length_le h.len, fun p hp => h.s0 p (b.sub.subset hp), fun p hp => h.l0 p (b.sub.subset hp), h.asc.sublist b.sub⟩ ?_
  by_cases hf : (bk r d ps).found = []
  · exact .inl hf
  · exact .inr (b.shape hf)
/-! ### a smaller bucket -/
def SecOk (la : Option Int) (ws : List Wt) : Prop := (∀ t, la = some t → ∀ p ∈ kp ws, t ≤ p.1) ∧ (kp ws).Pairwise fun p q => p.1 ≤ q.1
theorem SecOk.kept {la : Option Int} {s l : Int} {ws : List Wt} (h : SecOk la (.kept s l :: ws)) : (∀ t, la = some t → t ≤ s) ∧ SecOk (some s) ws := by
  obtain ⟨h1, h2⟩ := h
  have h2 : ((s, l) :: kp ws).Pairwise fun p q => p.1 ≤ q.1 := h2
  cases h2 with
  | cons a b => exact ⟨fun t e => h1 t e (s, l) (by simp [kp]), fun t e p hp => by cases e; exact a p hp, b⟩
theorem SecOk.left {la : Option Int} {n : Int} {ws : List Wt} (h : SecOk la (.left n :: ws)) : SecOk la ws := h
theorem fill_le {r d m : Int} {la : Option Int} {s : Int} (hm : m ≤ d) : fillB r d m la s ≤ d := by
  cases la with
  | none => exact hm
  | some t => exact (mn_le d _).1
theorem fill_ge {r d m : Int} {la : Option Int} {s : Int} (hr : 0 ≤ r) (hm : m ≤ d) (h : ∀ t, la = some t → t ≤ s) : m ≤ fillB r d m la s := by
  cases la with
  | none => exact Int.le_refl _
  | some t =>
    have := mul_nn (r := r) (a := s - t) hr (by have := h t rfl; omega)
    show m ≤ mn d (m + r * (s - t))
    rcases mn_eq d (m + r * (s - t)) with z | z <;> omega
theorem fill_same {r d m : Int} {la : Option Int} {s : Int} (hd : 0 ≤ d) (h0 : 0 ≤ m) (hm : m ≤ d) (h : ∀ t, la = some t → t ≤ s) : fillB (if r < d then r else d) d m la s = fillB r d m la s := by
  by_cases c : r < d
  · rw [if_pos c]
  · rw [if_neg c]
    cases la with
    | none => rfl
    | some t =>
      have ht := h t rfl
      show mn d (m + d * (s - t)) = mn d (m + r * (s - t))
      by_cases z : 1 ≤ s - t
      · have a := mul_ge hd z
        have b := mul_ge (r := r) (by omega) z
        have e1 : mn d (m + d * (s - t)) = d := by unfold mn; rw [if_neg (by omega)]
        have e2 : mn d (m + r * (s - t)) = d := by unfold mn; rw [if_neg (by omega)]
        rw [e1, e2]
      · have : s - t = 0 := by omega
        rw [this, Int.mul_zero, Int.mul_zero]
theorem wb_same (r d : Int) (hr : 0 ≤ r) (hd : 0 ≤ d) : ∀ (ws : List Wt) (m : Int) (la : Option Int), 0 ≤ m → m ≤ d → SecOk la ws → wb (if r < d then r else d) d ws m la = wb r d ws m la
  | [], m, la, _, _, _ => rfl
  | .left n :: ws, m, la, h0, h1, h => by
    have ih := wb_same r d hr hd ws m la h0 h1 h.left
    show (if m > 0 then false else wb _ d ws m la) = (if m > 0 then false else wb r d ws m la)
    rw [ih]
  | .kept s l :: ws, m, la, h0, h1, h => by
    obtain ⟨a, b⟩ := h.kept
    have e := fill_same (r := r) hd h0 h1 a
    have u := fill_le (r := r) (la := la) (s := s) h1
    show (if fillB (if r < d then r else d) d m la s < 1 then false else wb _ d ws (fillB (if r < d then r else d) d m la s - 1) (some s)) = (if fillB r d m la s < 1 then false else wb r d ws (fillB r d m la s - 1) (some s))
    rw [e]
    by_cases c : fillB r d m la s < 1
    · rw [if_pos c, if_pos c]
    · rw [if_neg c, if_neg c]
      exact wb_same r d hr hd ws _ _ (by omega) (by omega) b
theorem wb_nol (r d : Int) (hr : 0 ≤ r) : ∀ (ws : List Wt) (m : Int) (la : Option Int), m ≤ d → ((kp ws).length : Int) < m → SecOk la ws → wb r d ws m la = true → ∀ w ∈ ws, w.isL = false
  | [], m, la, _, _, _, _, w, hw => by cases hw
  | .left n :: ws, m, la, _, hl, h, hb, w, hw => by
    have hb : (if m > 0 then false else wb r d ws m la) = true := hb
    rw [if_pos (by omega)] at hb
    cases hb
  | .kept s l :: ws, m, la, h1, hl, h, hb, w, hw => by
    obtain ⟨a, b⟩ := h.kept
    have hl : ((kp ws).length : Int) + 1 < m := by
      have : ((kp (.kept s l :: ws)).length : Int) = (kp ws).length + 1 := by simp [kp]
      omega
    have g := fill_ge (r := r) hr h1 a
    have u := fill_le (r := r) (la := la) (s := s) h1
    rw [wb_kept _ (by omega)] at hb
    rcases List.mem_cons.mp hw with rfl | hw
    · rfl
    · exact wb_nol r d hr ws _ _ (by omega) (by omega) b hb w hw
theorem wb_allk (r d : Int) (hr : 0 ≤ r) : ∀ (ws : List Wt) (m : Int) (la : Option Int), (∀ w ∈ ws, w.isL = false) → ((kp ws).length : Int) ≤ m → m ≤ d → SecOk la ws → wb r d ws m la = true
  | [], m, la, _, _, _, _ => rfl
  | .left n :: ws, m, la, h, _, _, _ => by
    have := h (.left n) (by simp)
    cases this
  | .kept s l :: ws, m, la, h, hl, h1, hs => by
    obtain ⟨a, b⟩ := hs.kept
    have hl : ((kp ws).length : Int) + 1 ≤ m := by
      have : ((kp (.kept s l :: ws)).length : Int) = (kp ws).length + 1 := by simp [kp]
      omega
    have g := fill_ge (r := r) hr h1 a
    have u := fill_le (r := r) (la := la) (s := s) h1
    rw [wb_kept _ (by omega)]
    exact wb_allk r d hr ws _ _ (fun w hw => h w (List.mem_cons_of_mem _ hw)) (by omega) (by omega) b
theorem some_at {ws : List Wt} {r d : Int} (hr : 1 ≤ r) (hd : r ≤ d) (hn : d ≤ (kp ws).length) (h : wb r d ws d none = true) : some_ ws = true := by
  unfold some_
  rw [List.any_eq_true]
  refine ⟨(d - 1).toNat, List.mem_range.mpr (by omega), ?_⟩
  rw [List.any_eq_true]
  refine ⟨(r - 1).toNat, List.mem_range.mpr (by omega), ?_⟩
  rw [show ((1 + (r - 1).toNat : Nat) : Int) = r by omega, show ((1 + (d - 1).toNat : Nat) : Int) = d by omega]
  exact h
/-- what one bucket wrote, a small one wrote -/
theorem some_of {ws : List Wt} {r d : Int} (hr : 1 ≤ r) (hd : 1 ≤ d) (ha : (kp ws).Pairwise fun p q => p.1 ≤ q.1) (h : wb r d ws d none = true) : some_ ws = true ∨ (kp ws).length = 0 := by
  have hs : SecOk none ws := ⟨fun t e => (by cases e), ha⟩
  by_cases h0 : (kp ws).length = 0
  · exact .inr h0
  · left
    by_cases c : d ≤ (kp ws).length
    · refine some_at (r := if r < d then r else d) (d := d) ?_ ?_ c ?_
      · split <;> omega
      · split <;> omega
      · rw [wb_same r d (by omega) (by omega) ws d none (by omega) (Int.le_refl _) hs]
        exact h
    · have hn := wb_nol r d (by omega) ws d none (Int.le_refl _) (by omega) hs h
      exact some_at (r := 1) (d := (kp ws).length) (by omega) (by omega) (Int.le_refl _) (wb_allk 1 _ (by omega) ws _ none hn (Int.le_refl _) (Int.le_refl _) hs)
theorem some_no {ws : List Wt} (h : ∀ r d : Int, 1 ≤ r → r ≤ d → wb r d ws d none = false) : some_ ws = false := by
  unfold some_
  rw [List.any_eq_false]
  intro i _
  rw [Bool.not_eq_true, List.any_eq_false]
  intro j hj
  have := List.mem_range.mp hj
  rw [h _ _ (by omega) (by omega)]
  simp
/-- what is left out -/
def lfs : List Wt → List Int
  | [] => []
  | .kept _ _ :: ws => lfs ws
  | .left n :: ws => n :: lfs ws
theorem ex_len : ∀ (ws : List Wt) (acc : List Int), (∀ w ∈ ws, w.ok) → ((ws.foldl exS acc).length : Int) = acc.length + (kp ws).length + (lfs ws).sum
  | [], acc, _ => by simp [kp, lfs]
  | .kept s l :: ws, acc, h => by
    have ih := ex_len ws (exS acc (.kept s l)) (fun w hw => h w (List.mem_cons_of_mem _ hw))
    rw [List.foldl_cons, ih]
    simp [exS, kp, lfs]; omega
  | .left n :: ws, acc, h => by
    have ih := ex_len ws (exS acc (.left n)) (fun w hw => h w (List.mem_cons_of_mem _ hw))
    have hn : 1 ≤ n ∧ n ≤ 200 := h (.left n) (by simp)
    rw [List.foldl_cons, ih]
    simp [exS, kp, lfs]; omega
theorem bk_some {r d : Int} (hr : 1 ≤ r) (hd : 1 ≤ d) {ps : List (Int × Int)} (h : Tm ps) : some_ (bk r d ps).found = true ∨ (kp (bk r d ps).found).length = 0 := by
  have b := binv r d hr hd ps.length ps rfl h.len h.asc
  by_cases hf : (bk r d ps).found = []
  · right
    rw [hf]; rfl
  · refine some_of hr hd (h.asc.sublist b.sub) ?_
    have := b.run hf []
    rw [List.append_nil] at this
    rw [this]; rfl
theorem bk_ex {r d : Int} (hr : 1 ≤ r) (hd : 1 ≤ d) {ps : List (Int × Int)} (h : Tm ps) : ex (bk r d ps).found = (ps.map Prod.fst).take (ex (bk r d ps).found).length := by
  have b := binv r d hr hd ps.length ps rfl h.len h.asc
  rw [← b.exq, List.take_left]
/-! ### rows of one second -/
def As (s : Int) (ls : List Int) : List Wt := ls.map fun l => .kept s l
theorem mn_self {d m : Int} (h : m ≤ d) : mn d m = m := by unfold mn; split <;> omega
theorem wb_As (r d s : Int) : ∀ (ls : List Int) (m : Int) (rest : List Wt), 0 ≤ m → m ≤ d → wb r d (As s ls ++ rest) m (some s) = (decide ((ls.length : Int) ≤ m) && wb r d rest (m - ls.length) (some s))
  | [], m, rest, h0, _ => by simp [As, h0]
  | l :: ls, m, rest, h0, h1 => by
    have hf : fillB r d m (some s) s = m := by
      show mn d (m + r * (s - s)) = m
      rw [Int.sub_self, Int.mul_zero, Int.add_zero, mn_self h1]
    by_cases c : m < 1
    · have e : wb r d (As s (l :: ls) ++ rest) m (some s) = false := by
        show (if fillB r d m (some s) s < 1 then false else _) = false
        rw [hf, if_pos c]
      rw [e, decide_eq_false (by simp only [List.length_cons]; omega), Bool.false_and]
    · have e : wb r d (As s (l :: ls) ++ rest) m (some s) = wb r d (As s ls ++ rest) (m - 1) (some s) := by
        show wb r d (.kept s l :: (As s ls ++ rest)) m (some s) = _
        rw [wb_kept _ (by omega), hf]
      rw [e, wb_As r d s ls (m - 1) rest (by omega) (by omega)]
      congr 1
      · simp only [List.length_cons, decide_eq_decide]; omega
      · congr 1; simp only [List.length_cons]; omega
theorem wb_As0 (r d s : Int) (hd : 1 ≤ d) (ls : List Int) (hl : ls ≠ []) (rest : List Wt) : wb r d (As s ls ++ rest) d none = (decide ((ls.length : Int) ≤ d) && wb r d rest (d - ls.length) (some s)) := by
  cases ls with
  | nil => exact absurd rfl hl
  | cons l ls =>
    have e : wb r d (As s (l :: ls) ++ rest) d none = wb r d (As s ls ++ rest) (d - 1) (some s) := by
      show wb r d (.kept s l :: (As s ls ++ rest)) d none = _
      rw [wb_kept (la := none) _ (show 1 ≤ fillB r d d none s from hd)]; rfl
    rw [e, wb_As r d s ls (d - 1) rest (by omega) (by omega)]
    congr 1
    · simp only [List.length_cons, decide_eq_decide]; omega
    · congr 1; simp only [List.length_cons]; omega
theorem wb_As1 (r d s t : Int) (ls : List Int) (hl : ls ≠ []) (rest : List Wt) : wb r d (As s ls ++ rest) 0 (some t) = (decide ((ls.length : Int) ≤ mn d (r * (s - t))) && wb r d rest (mn d (r * (s - t)) - ls.length) (some s)) := by
  cases ls with
  | nil => exact absurd rfl hl
  | cons l ls =>
    have hf : fillB r d 0 (some t) s = mn d (r * (s - t)) := by
      show mn d (0 + r * (s - t)) = _
      rw [Int.zero_add]
    by_cases c : mn d (r * (s - t)) < 1
    · have e : wb r d (As s (l :: ls) ++ rest) 0 (some t) = false := by
        show (if fillB r d 0 (some t) s < 1 then false else _) = false
        rw [hf, if_pos c]
      rw [e, decide_eq_false (by simp only [List.length_cons]; omega), Bool.false_and]
    · have e : wb r d (As s (l :: ls) ++ rest) 0 (some t) = wb r d (As s ls ++ rest) (mn d (r * (s - t)) - 1) (some s) := by
        show wb r d (.kept s l :: (As s ls ++ rest)) 0 (some t) = _
        rw [wb_kept _ (by omega), hf]
      have := (mn_le d (r * (s - t))).1
      rw [e, wb_As r d s ls _ rest (by omega) (by omega)]
      congr 1
      · simp only [List.length_cons, decide_eq_decide]; omega
      · congr 1; simp only [List.length_cons]; omega
theorem wb_left (r d n m : Int) (la : Option Int) (rest : List Wt) : wb r d (.left n :: rest) m la = (decide (m ≤ 0) && wb r d rest m la) := by
  show (if m > 0 then false else wb r d rest m la) = _
  by_cases c : m > 0
  · rw [if_pos c, decide_eq_false (by omega)]; rfl
  · rw [if_neg c, decide_eq_true (by omega)]; rfl
/-- a row and what is left out behind it -/
theorem W0 (r d s n : Int) (hd : 1 ≤ d) (ls : List Int) (hl : ls ≠ []) (rest : List Wt) : wb r d (As s ls ++ .left n :: rest) d none = (decide (d = ls.length) && wb r d rest 0 (some s)) := by
  rw [wb_As0 r d s hd ls hl, wb_left]
  by_cases c : d = ls.length
  · rw [decide_eq_true (by omega : (ls.length : Int) ≤ d), decide_eq_true (by omega : d - ls.length ≤ 0), decide_eq_true c, show d - (ls.length : Int) = 0 by omega]
    rfl
  · rw [decide_eq_false c, Bool.false_and]
    by_cases c2 : (ls.length : Int) ≤ d
    · rw [decide_eq_false (by omega : ¬ d - (ls.length : Int) ≤ 0), Bool.false_and, Bool.and_false]
    · rw [decide_eq_false c2, Bool.false_and]
theorem W1 (r d s t n : Int) (ls : List Int) (hl : ls ≠ []) (rest : List Wt) : wb r d (As s ls ++ .left n :: rest) 0 (some t) = (decide (mn d (r * (s - t)) = ls.length) && wb r d rest 0 (some s)) := by
  rw [wb_As1 r d s t ls hl, wb_left]
  by_cases c : mn d (r * (s - t)) = ls.length
  · rw [decide_eq_true (by omega : (ls.length : Int) ≤ mn d (r * (s - t))), decide_eq_true (by omega : mn d (r * (s - t)) - ls.length ≤ 0), decide_eq_true c, show mn d (r * (s - t)) - (ls.length : Int) = 0 by omega]
    rfl
  · rw [decide_eq_false c, Bool.false_and]
    by_cases c2 : (ls.length : Int) ≤ mn d (r * (s - t))
    · rw [decide_eq_false (by omega : ¬ mn d (r * (s - t)) - (ls.length : Int) ≤ 0), Bool.false_and, Bool.and_false]
    · rw [decide_eq_false c2, Bool.false_and]
theorem W2 (r d s t : Int) (ls : List Int) (hl : ls ≠ []) : wb r d (As s ls) 0 (some t) = decide ((ls.length : Int) ≤ mn d (r * (s - t))) := by
  have := wb_As1 r d s t ls hl []
  rw [List.append_nil] at this
  rw [this]
  simp [wb]
theorem shp_As (s : Int) : ∀ (ls : List Int) (b : Bool) (rest : List Wt), ls ≠ [] → shp b (As s ls ++ rest) = shp false rest
  | [], _, _, h => absurd rfl h
  | [l], b, rest, _ => rfl
  | l :: l' :: ls, b, rest, _ => shp_As s (l' :: ls) false rest (by simp)
theorem kp_As (s : Int) (ls : List Int) : kp (As s ls) = ls.map fun l => (s, l) := by
  induction ls with
  | nil => rfl
  | cons l ls ih =>
    show (s, l) :: kp (As s ls) = _
    rw [ih]; rfl
theorem exA (s : Int) : ∀ (ls acc : List Int), (As s ls).foldl exS acc = acc ++ List.replicate ls.length s
  | [], acc => by simp [As]
  | l :: ls, acc => by
    show (As s ls).foldl exS (acc ++ [s]) = _
    rw [exA s ls (acc ++ [s])]
    simp [List.replicate_succ]
theorem lastD_rep (s : Int) (k : Nat) (acc : List Int) (hk : k ≠ 0) : (acc ++ List.replicate k s).getLastD 0 = s := by
  obtain ⟨k, rfl⟩ : ∃ j, k = j + 1 := ⟨k - 1, by omega⟩
  rw [List.replicate_succ', ← List.append_assoc]
  simp
theorem exAL (s n : Int) (ls acc : List Int) (hl : ls ≠ []) (hn : 0 ≤ n) : (As s ls ++ [Wt.left n]).foldl exS acc = acc ++ List.replicate (ls.length + n.toNat) s := by
  rw [List.foldl_append, exA]
  show acc ++ List.replicate ls.length s ++ List.replicate n.toNat ((acc ++ List.replicate ls.length s).getLastD 0) = _
  rw [lastD_rep s ls.length acc (by simpa using hl), List.append_assoc, List.replicate_append_replicate]
theorem pw_As (s : Int) (ls : List Int) : (ls.map fun l => (s, l)).Pairwise fun p q => p.1 ≤ q.1 := by
  rw [List.pairwise_map]
  exact List.pairwise_of_forall fun _ _ => Int.le_refl _
end Ev.K95
/-! P95e: the two buckets, as they run. -/
namespace Ev
theorem cmp_ne_nil (xs : List D) (h : lim (.lst xs) 60 = true) : cmp .ne (.L xs) (.L []) = some (!xs.isEmpty) := by
  show (same (.lst xs) (.lst [])).map (!·) = _
  have h2 : lim (.lst []) 60 = true := rfl
  unfold same limit
  rw [h, h2]
  cases xs <;> simp [eqb, eqbs]
theorem set_same {ρ : Ev} {j : Nat} {w : Option W} (h : ρ[j]? = some w) : ρ.set j w = ρ := by
  obtain ⟨hj, e⟩ := List.getElem?_eq_some_iff.mp h
  rw [← e, List.set_getElem_self]
namespace K95
theorem lim_Wt (w : Wt) (n : Nat) (h : 1 ≤ n) : lim w.d n = true := by
  obtain ⟨n, rfl⟩ : ∃ j, n = j + 1 := ⟨n - 1, by omega⟩
  cases w <;> simp [Wt.d, lim, limL, lim_int, lim_str]
theorem lim_found (ws : List Wt) : lim (.lst (ws.map Wt.d)) 60 = true := lim_lst (n := 59) fun x hx => by
  obtain ⟨w, _, rfl⟩ := List.mem_map.mp hx
  exact lim_Wt w 59 (by omega)
def bodyB : List S := [.set 4 (.ite (.cmp .ne (.var 3) (.lst [])) (.blt .min2 [.var 1, .bin .add (.var 4) (.bin .mul (.var 0) (.bin .sub (.var 7) (.var 6)))]) (.var 1)),
    .set 6 (.var 7),
    .ite (.cmp .gt (.var 4) (.int 0))
     [.ite (.cmp .gt (.var 5) (.int 0))
       [.ex (.app 3 (.tup [.str 3, .var 5]))]
       [],
      .ex (.app 3 (.tup [.var 7, .var 8])),
      .par [4, 5] [.bin .sub (.var 4) (.int 1), .int 0]]
     [.set 5 (.bin .add (.var 5) (.int 1))]]
abbrev bSt (r d : Int) (w2 : Option W) (st : BS) (a b : Option D) : Ev := [some (.d (.int r)), some (.d (.int d)), w2, some (.L false (st.found.map Wt.d)), some (.d (.int st.many)), some (.d (.int st.lost)), some (.d (.int st.last)), dw a, dw b]
theorem b_tail (k : Nat) (C : Calls) (r d : Int) (w2 : Option W) (fo : List Wt) (m lo la s l : Int) (hl : fo.length ≤ 1000) :
    evB L.T C [.ite (.cmp .gt (.var 4) (.int 0))
     [.ite (.cmp .gt (.var 5) (.int 0))
       [.ex (.app 3 (.tup [.str 3, .var 5]))]
       [],
      .ex (.app 3 (.tup [.var 7, .var 8])),
      .par [4, 5] [.bin .sub (.var 4) (.int 1), .int 0]]
     [.set 5 (.bin .add (.var 5) (.int 1))]] k (bSt r d w2 ⟨fo, m, lo, la⟩ (some (.int s)) (some (.int l)))
      = .ok .nx (bSt r d w2 (if 0 < m then ⟨fo ++ (if 0 < lo then [.left lo, .kept s l] else [.kept s l]), m - 1, 0, la⟩ else ⟨fo, m, lo + 1, la⟩) (some (.int s)) (some (.int l))) := by
  have c1 : fo.length < cap := by show _ < 16777216; omega
  have c2 : fo.length + 1 < cap := by show _ < 16777216; omega
  by_cases hm : 0 < m
  · by_cases hlo : 0 < lo
    · simp [varS, rs, hm, hlo, isL, appS, c1, c2, assigns, store, free, Wt.d]
    · simp [varS, rs, hm, hlo, isL, appS, c1, assigns, store, free, Wt.d]
  · simp [varS, rs, hm, store, free]
theorem b_turn (k : Nat) (C : Calls) (r d : Int) (h0 : 0 ≤ r) (h1 : r ≤ 1000000) (w2 : Option W) (st : BS) (hl : st.found.length ≤ 1000) (s l : Int) :
    evB L.T C bodyB k (bSt r d w2 st (some (.int s)) (some (.int l))) = .ok .nx (bSt r d w2 (bkS r d st (s, l)) (some (.int s)) (some (.int l))) := by
  obtain ⟨fo, m, lo, la⟩ := st
  have cn := cmp_ne_nil (fo.map Wt.d) (lim_found fo)
  have sr : sml r = true := sml_of r (by omega) (by omega)
  have hm : (sml r || sml (s - la)) = true := by rw [sr]; rfl
  have e1 : evS L.T C (.set 4 (.ite (.cmp .ne (.var 3) (.lst [])) (.blt .min2 [.var 1, .bin .add (.var 4) (.bin .mul (.var 0) (.bin .sub (.var 7) (.var 6)))]) (.var 1))) k (bSt r d w2 ⟨fo, m, lo, la⟩ (some (.int s)) (some (.int l)))
      = .ok .nx (bSt r d w2 ⟨fo, if fo = [] then d else mn d (m + r * (s - la)), lo, la⟩ (some (.int s)) (some (.int l))) := by
    cases fo with
    | nil =>
      simp only [List.map_nil, List.isEmpty_nil, Bool.not_true] at cn
      simp [varS, rs, cn, store, free]
    | cons w fo =>
      simp only [List.map_cons, List.isEmpty_cons, Bool.not_false] at cn
      simp [varS, rs, cn, store, free, bin_mul_i _ _ hm]
  have e2 : ∀ m', evS L.T C (.set 6 (.var 7)) k (bSt r d w2 ⟨fo, m', lo, la⟩ (some (.int s)) (some (.int l))) = .ok .nx (bSt r d w2 ⟨fo, m', lo, s⟩ (some (.int s)) (some (.int l))) := fun m' => rfl
  unfold bodyB
  rw [evB_nx e1, evB_nx (e2 _), b_tail k C r d w2 fo _ lo s s l hl]
  rfl
theorem bkS_len (r d : Int) (st : BS) (p : Int × Int) : (bkS r d st p).found.length ≤ st.found.length + 2 := by
  unfold bkS
  dsimp only
  generalize (if st.found = [] then d else mn d (st.many + r * (p.1 - st.last))) = m
  by_cases c : 0 < m
  · rw [if_pos c]
    dsimp only
    split <;> simp
  · rw [if_neg c]
    simp
theorem bkS_last (r d : Int) (st : BS) (p : Int × Int) : (bkS r d st p).last = p.1 := by
  unfold bkS
  dsimp only
  generalize (if st.found = [] then d else mn d (st.many + r * (p.1 - st.last))) = m
  by_cases c : 0 < m
  · rw [if_pos c]
  · rw [if_neg c]
theorem b_loop (k : Nat) (C : Calls) (r d : Int) (h0 : 0 ≤ r) (h1 : r ≤ 1000000) (xs : List D) (ρ0 : Ev) (hρ : ρ0[2]? = some (some (.L true xs))) : ∀ (ps : List (Int × Int)) (st : BS) (a b : Option D), st.found.length + 2 * ps.length ≤ 1000 →
    ∃ a' b', forL [2] ρ0 (.tp [.nm 7, .nm 8]) (evB L.T C bodyB k) (ps.map encP) (bSt r d (some (.L true xs)) st a b) = .ok .nx (bSt r d (some (.L true xs)) (ps.foldl (bkS r d) st) a' b')
  | [], st, a, b, _ => ⟨a, b, by simp [forL, stands, hρ, beqs_refl]⟩
  | (s, l) :: ps, st, a, b, hl => by
    have hl' : st.found.length + (2 * ps.length + 2) ≤ 1000 := by simp only [List.length_cons] at hl; omega
    have e := b_turn k C r d h0 h1 (some (.L true xs)) st (by omega) s l
    have hb : bindT (.tp [.nm 7, .nm 8]) (encP (s, l)) (bSt r d (some (.L true xs)) st a b) = some (bSt r d (some (.L true xs)) st (some (.int s)) (some (.int l))) := by
      show bindTs [.nm 7, .nm 8] [.int s, .int l] _ = _
      simp only [bindTs, bindT]
      rw [store_dw _ 7 a _ rfl, Option.bind_some]
      show (store (bSt r d (some (.L true xs)) st (some (.int s)) b) 8 _).bind _ = _
      rw [store_dw _ 8 b _ rfl]
      rfl
    have hle := bkS_len r d st (s, l)
    obtain ⟨a', b', e2⟩ := b_loop k C r d h0 h1 xs ρ0 hρ ps (bkS r d st (s, l)) (some (.int s)) (some (.int l)) (by omega)
    refine ⟨a', b', ?_⟩
    have hst : stands ρ0 (bSt r d (some (.L true xs)) st a b) [2] = true := by simp [stands, hρ, beqs_refl]
    show forL [2] ρ0 _ _ (encP (s, l) :: ps.map encP) _ = _
    simp only [forL, hst, if_true, hb, R.opt_some, e, R.bind_ok]
    exact e2
/-- _law_bucket -/
theorem t14 {m : Nat} (hm : 1 ≤ m) (r d : Int) (h0 : 0 ≤ r) (h1 : r ≤ 1000000) (ps : List (Int × Int)) (hl : ps.length ≤ 200) (j : Nat) (p : Bool) (ρ : Ev) (hj : ρ[j]? = some (some (.L p (ps.map encP)))) :
    callF (calls L.T L.ds m) m 14 [.d (.int r), .d (.int d), .bor j] ρ = .ok (.d (dW (bk r d ps).found)) ρ := by
  obtain ⟨k, rfl⟩ : ∃ k, m = k + 1 := ⟨m - 1, by omega⟩
  have hh : handL ρ [.d (.int r), .d (.int d), .bor j] = some [some (.d (.int r)), some (.d (.int d)), some (.L true (ps.map encP))] := by simp [handL, hj]
  obtain ⟨a, b, e⟩ := b_loop k (calls L.T L.ds k) r d h0 h1 (ps.map encP) (bSt r d (some (.L true (ps.map encP))) (bk0 d) none none) rfl ps (bk0 d) none none (by simp [bk0]; omega)
  refine callF_gen L.T L.ds k 14 d14 rfl _ _ [none, none, some (.L true (ps.map encP))] ρ (bSt r d (some (.L true (ps.map encP))) (bk r d ps) a b) ρ _ hh rfl rfl ?_ rfl (by
    show handB ρ [.bor j] [some (.L true (ps.map encP))] = _
    simp [handB, hj, set_same hj])
  have e1 : evS L.T (calls L.T L.ds k) (.par [3, 4, 5, 6] [.lst [], .var 1, .int 0, .int 0]) k [some (.d (.int r)), some (.d (.int d)), some (.L true (ps.map encP)), none, none, none, none, none, none] = .ok .nx (bSt r d (some (.L true (ps.map encP))) (bk0 d) none none) := by
    simp [varS, assigns, store, free, bk0]
  have e2 : evS L.T (calls L.T L.ds k) (.for_ (.tp [.nm 7, .nm 8]) .seq [.var 2] bodyB) k (bSt r d (some (.L true (ps.map encP))) (bk0 d) none none) = .ok .nx (bSt r d (some (.L true (ps.map encP))) (bk r d ps) a b) := by
    rw [v_for]
    have hi : iterF .seq (evL L.T (calls L.T L.ds k) [.var 2] k (bSt r d (some (.L true (ps.map encP))) (bk0 d) none none)) = .ok (ps.map encP, [2]) (bSt r d (some (.L true (ps.map encP))) (bk0 d) none none) := by
      simp [varS, iterF, rs, walk, items]
    rw [hi]
    exact e
  show evB L.T (calls L.T L.ds k) [_, .for_ (.tp [.nm 7, .nm 8]) .seq [.var 2] bodyB, _] k [some (.d (.int r)), some (.d (.int d)), some (.L true (ps.map encP)), none, none, none, none, none, none] = _
  rw [evB_nx e1, evB_nx e2]
  rfl
/-! ### the program's bucket -/
def bodyP : List S := [.ite (.cmp .gt (.var 6) (.int 0))
     [.set 4 (.blt .min2 [.var 1, .bin .add (.var 4) (.bin .mul (.var 0) (.bin .sub (.var 7) (.ix (.ix (.var 2) (.bin .sub (.var 6) (.int 1))) (.int 0))))])]
     [],
    .ite (.cmp .ge (.var 4) (.int 1))
     [.ite (.cmp .gt (.var 5) (.int 0))
       [.ex (.app 3 (.tup [.str 3, .var 5]))]
       [],
      .ex (.app 3 (.tup [.var 7, .var 8])),
      .par [4, 5] [.bin .sub (.var 4) (.int 1), .int 0]]
     [.aug 5 .add (.int 1)]]
abbrev pSt (r d : Int) (ps : List (Int × Int)) (fo : List Wt) (m lo : Int) (i a b : Option D) : Ev := [some (.d (.int r)), some (.d (.int d)), some (.d (dPs ps)), some (.L false (fo.map Wt.d)), some (.d (.int m)), some (.d (.int lo)), dw i, dw a, dw b]
theorem p_tail (k : Nat) (C : Calls) (r d : Int) (ps : List (Int × Int)) (fo : List Wt) (m lo s l : Int) (i : Option D) (hl : fo.length ≤ 1000) :
    evB L.T C [.ite (.cmp .ge (.var 4) (.int 1))
     [.ite (.cmp .gt (.var 5) (.int 0))
       [.ex (.app 3 (.tup [.str 3, .var 5]))]
       [],
      .ex (.app 3 (.tup [.var 7, .var 8])),
      .par [4, 5] [.bin .sub (.var 4) (.int 1), .int 0]]
     [.aug 5 .add (.int 1)]] k (pSt r d ps fo m lo i (some (.int s)) (some (.int l)))
      = .ok .nx (if 0 < m then pSt r d ps (fo ++ (if 0 < lo then [.left lo, .kept s l] else [.kept s l])) (m - 1) 0 i (some (.int s)) (some (.int l)) else pSt r d ps fo m (lo + 1) i (some (.int s)) (some (.int l))) := by
  have c1 : fo.length < cap := by show _ < 16777216; omega
  have c2 : fo.length + 1 < cap := by show _ < 16777216; omega
  by_cases hm : 0 < m
  · have hm' : 1 ≤ m := hm
    by_cases hlo : 0 < lo
    · simp [varS, rs, hm, hm', hlo, isL, appS, c1, c2, assigns, store, free, Wt.d]
    · simp [varS, rs, hm, hm', hlo, isL, appS, c1, assigns, store, free, Wt.d]
  · have hm' : ¬ 1 ≤ m := hm
    simp [varS, rs, hm, hm', store, free, augI]
theorem p_turn (k : Nat) (C : Calls) (r d : Int) (h0 : 0 ≤ r) (h1 : r ≤ 1000000) (hd : 1 ≤ d) (ps pre rest : List (Int × Int)) (s l : Int) (he : ps = pre ++ (s, l) :: rest) (ha : ps.Pairwise fun p q => p.1 ≤ q.1) (hr : 1 ≤ r) (hl : (bk r d pre).found.length ≤ 1000) (hp : pre.length ≤ 200) :
    evB L.T C bodyP k (pSt r d ps (bk r d pre).found (bk r d pre).many (bk r d pre).lost (some (.int pre.length)) (some (.int s)) (some (.int l)))
      = .ok .nx (pSt r d ps (bk r d (pre ++ [(s, l)])).found (bk r d (pre ++ [(s, l)])).many (bk r d (pre ++ [(s, l)])).lost (some (.int pre.length)) (some (.int s)) (some (.int l))) := by
  have ha2 := List.pairwise_append.mp (he ▸ ha)
  have bi := binv r d hr hd pre.length pre rfl hp ha2.1
  rw [bk_app]
  unfold bodyP
  rcases List.eq_nil_or_concat pre with rfl | ⟨pre', q, rfl⟩
  · have e1 : evS L.T C (.ite (.cmp .gt (.var 6) (.int 0)) [.set 4 (.blt .min2 [.var 1, .bin .add (.var 4) (.bin .mul (.var 0) (.bin .sub (.var 7) (.ix (.ix (.var 2) (.bin .sub (.var 6) (.int 1))) (.int 0))))])] []) k
        (pSt r d ps (bk r d []).found (bk r d []).many (bk r d []).lost (some (.int (([] : List (Int × Int)).length : Nat))) (some (.int s)) (some (.int l))) = .ok .nx (pSt r d ps (bk r d []).found (bk r d []).many (bk r d []).lost (some (.int (([] : List (Int × Int)).length : Nat))) (some (.int s)) (some (.int l))) := by
      simp [varS]
    rw [evB_nx e1, p_tail k C r d ps _ _ _ s l _ hl]
    show _ = R.ok Fl.nx (pSt r d ps (bkS r d (bk0 d) (s, l)).found (bkS r d (bk0 d) (s, l)).many (bkS r d (bk0 d) (s, l)).lost _ _ _)
    have hz : bkS r d (bk0 d) (s, l) = ⟨[.kept s l], d - 1, 0, s⟩ := by
      unfold bkS bk0
      simp only [if_true]
      rw [if_pos (by omega)]
      simp
    rw [hz]
    have hm0 : 0 < (bk r d []).many := by show 0 < d; omega
    rw [if_pos hm0, if_neg (show ¬ 0 < (bk r d []).lost by show ¬ (0 : Int) < 0; omega)]
    rfl
  · rw [List.concat_eq_append] at *
    have hf : (bk r d (pre' ++ [q])).found ≠ [] := fun z => by
      have := bi.ne.mp z
      simp at this
    have hlast : (bk r d (pre' ++ [q])).last = q.1 := by
      rw [bk_app, bkS_last]
    have ix : index (.d (dPs ps)) (.d (.int (pre'.length : Nat))) = some (encP q) := by
      rw [he]
      simp
    have hs : sml r = true := sml_of r (by omega) (by omega)
    have hm : (sml r || sml (s - q.1)) = true := by rw [hs]; rfl
    have g : (0 : Int) < ((pre' ++ [q]).length : Nat) := by rw [List.length_append]; simp only [List.length_singleton]; omega
    have g2 : (((pre' ++ [q]).length : Nat) : Int) - 1 = (pre'.length : Nat) := by simp
    generalize hB : bk r d (pre' ++ [q]) = B at *
    have e1 : evS L.T C (.ite (.cmp .gt (.var 6) (.int 0)) [.set 4 (.blt .min2 [.var 1, .bin .add (.var 4) (.bin .mul (.var 0) (.bin .sub (.var 7) (.ix (.ix (.var 2) (.bin .sub (.var 6) (.int 1))) (.int 0))))])] []) k
        (pSt r d ps B.found B.many B.lost (some (.int ((pre' ++ [q]).length : Nat))) (some (.int s)) (some (.int l))) = .ok .nx (pSt r d ps B.found (mn d (B.many + r * (s - q.1))) B.lost (some (.int ((pre' ++ [q]).length : Nat))) (some (.int s)) (some (.int l))) := by
      generalize (pre' ++ [q]).length = i at *
      simp only [v_if, v_cmp, v_var, v_int, varS, dw_some, List.getElem?_cons_succ, List.getElem?_cons_zero, R.bind_ok, rs_d, cmp_gt_i, g, decide_true, okb_some, asT_d, truth_bl, R.opt_some, ifB_t, v_bcons, v_bnil, v_set, v_blt, v_lcons, v_lnil, v_bin, v_ix, bin_sub_i, oko_some, g2, ix, okd_some, index_tup, at_0, bin_mul_i _ _ hm, bin_add_i, List.map_cons, List.map_nil, min2_i, assign_d, store, free, if_true, nxt_ok, List.set_cons_succ, List.set_cons_zero]
      rfl
    rw [evB_nx e1, p_tail k C r d ps _ _ _ s l _ hl]
    unfold bkS
    simp only [if_neg hf, hlast]
    by_cases c : 0 < mn d (B.many + r * (s - q.1))
    · rw [if_pos c, if_pos c]
    · rw [if_neg c, if_neg c]
theorem p_loop (k : Nat) (C : Calls) (r d : Int) (hr : 1 ≤ r) (h1 : r ≤ 1000000) (hd : 1 ≤ d) (ps : List (Int × Int)) (hl : ps.length ≤ 200) (ha : ps.Pairwise fun p q => p.1 ≤ q.1) (ρ0 : Ev) : ∀ (rest pre : List (Int × Int)) (i a b : Option D), ps = pre ++ rest →
    ∃ i' a' b', forL [] ρ0 (.tp [.nm 6, .tp [.nm 7, .nm 8]]) (evB L.T C bodyP k) (enumFrom pre.length (rest.map encP)) (pSt r d ps (bk r d pre).found (bk r d pre).many (bk r d pre).lost i a b) = .ok .nx (pSt r d ps (bk r d ps).found (bk r d ps).many (bk r d ps).lost i' a' b')
  | [], pre, i, a, b, he => by
    rw [List.append_nil] at he
    subst he
    exact ⟨i, a, b, rfl⟩
  | (s, l) :: rest, pre, i, a, b, he => by
    have hpl : pre.length + (rest.length + 1) ≤ 200 := by rw [he] at hl; simpa using hl
    have ha2 := List.pairwise_append.mp (he ▸ ha)
    have bi := binv r d hr hd pre.length pre rfl (by omega) ha2.1
    have bl := bi.len
    have b0 := bi.l0
    have e := p_turn k C r d (by omega) h1 hd ps pre rest s l he ha hr (by omega) (by omega)
    obtain ⟨i', a', b', e2⟩ := p_loop k C r d hr h1 hd ps hl ha ρ0 rest (pre ++ [(s, l)]) (some (.int pre.length)) (some (.int s)) (some (.int l)) (by rw [he]; simp)
    refine ⟨i', a', b', ?_⟩
    have hb : bindT (.tp [.nm 6, .tp [.nm 7, .nm 8]]) (.tup [.int pre.length, encP (s, l)]) (pSt r d ps (bk r d pre).found (bk r d pre).many (bk r d pre).lost i a b) = some (pSt r d ps (bk r d pre).found (bk r d pre).many (bk r d pre).lost (some (.int pre.length)) (some (.int s)) (some (.int l))) := by
      show bindTs [.nm 6, .tp [.nm 7, .nm 8]] [.int pre.length, encP (s, l)] _ = _
      simp only [bindTs, bindT]
      rw [store_dw _ 6 i _ rfl, Option.bind_some]
      show ((store (pSt r d ps (bk r d pre).found (bk r d pre).many (bk r d pre).lost (some (.int pre.length)) a b) 7 _).bind _).bind _ = _
      rw [store_dw _ 7 a _ rfl, Option.bind_some]
      show ((store (pSt r d ps (bk r d pre).found (bk r d pre).many (bk r d pre).lost (some (.int pre.length)) (some (.int s)) b) 8 _).bind _).bind _ = _
      rw [store_dw _ 8 b _ rfl]
      rfl
    show forL [] ρ0 _ _ (.tup [.int pre.length, encP (s, l)] :: enumFrom (pre.length + 1) (rest.map encP)) _ = _
    rw [List.length_append] at e2
    simp only [forL, stands, if_true, hb, R.opt_some, e, R.bind_ok]
    exact e2
/-- through_bucket -/
theorem t4 (r d : Int) (hr : 1 ≤ r) (h1 : r ≤ 1000000) (hd : 1 ≤ d) (hd1 : d ≤ 1000000) (ps : List (Int × Int)) (h : Tm ps) : DO 5 4 [.int r, .int d, dPs ps] (.d (dW (bk r d ps).found)) := .of d4 rfl _ _ rfl fun k hk => by
  have e1 := t1 r 1 1000000 k (by omega)
  have e2 := t1 d 1 1000000 k (by omega)
  have e3 := t3 ps h k (by omega)
  simp only [List.map_cons, List.map_nil] at e1 e2 e3
  obtain ⟨i, a, b, e⟩ := p_loop k (calls L.T L.ds k) r d hr h1 hd ps h.len h.asc (pSt r d ps [] d 0 none none none) ps [] none none none rfl
  have f1 : evS L.T (calls L.T L.ds k) (.ite (.orL [.not_ (.call 1 [.var 0, .int 1, .con 2]), .not_ (.call 1 [.var 1, .int 1, .con 2])]) [.raise 1] []) k [some (.d (.int r)), some (.d (.int d)), some (.d (dPs ps)), none, none, none, none, none, none] = .ok .nx [some (.d (.int r)), some (.d (.int d)), some (.d (dPs ps)), none, none, none, none, none, none] := by
    simp [varS, con2, e1, e2, hr, h1, hd, hd1]
  have f2 : evS L.T (calls L.T L.ds k) (.ex (.call 3 [.var 2])) k [some (.d (.int r)), some (.d (.int d)), some (.d (dPs ps)), none, none, none, none, none, none] = .ok .nx [some (.d (.int r)), some (.d (.int d)), some (.d (dPs ps)), none, none, none, none, none, none] := by
    simp only [v_ex, v_call, v_lcons, v_lnil, v_var, varS, List.getElem?_cons_succ, List.getElem?_cons_zero, R.bind_ok, e3]
  have f3 : evS L.T (calls L.T L.ds k) (.par [3, 4, 5] [.lst [], .var 1, .int 0]) k [some (.d (.int r)), some (.d (.int d)), some (.d (dPs ps)), none, none, none, none, none, none] = .ok .nx (pSt r d ps [] d 0 none none none) := by
    simp [varS, assigns, store, free]
  have f4 : evS L.T (calls L.T L.ds k) (.for_ (.tp [.nm 6, .tp [.nm 7, .nm 8]]) .enum [.var 2] bodyP) k (pSt r d ps [] d 0 none none none) = .ok .nx (pSt r d ps (bk r d ps).found (bk r d ps).many (bk r d ps).lost i a b) := by
    rw [v_for]
    simp only [v_lcons, v_lnil, v_var, varS, List.getElem?_cons_succ, List.getElem?_cons_zero, R.bind_ok, iter_enumT, List.all_nil, R.grd_true]
    exact e
  show fin 3 (evB L.T (calls L.T L.ds k) [_, _, _, .for_ (.tp [.nm 6, .tp [.nm 7, .nm 8]]) .enum [.var 2] bodyP, _] k [some (.d (.int r)), some (.d (.int d)), some (.d (dPs ps)), none, none, none, none, none, none]) = _
  rw [evB_nx f1, evB_nx f2, evB_nx f3, evB_nx f4]
  rfl
end K95
end Ev
/-! P95f: _law_some, _law_written. -/
namespace Ev.K95
theorem bk_big {T : Top} : True := trivial
theorem dr (k : Nat) (hk : 1 ≤ k) (a b h : Int) (ha : 0 ≤ a) (hb : 0 ≤ b) (h0 : 0 < h) (h1 : h < 1073741824) (rest : Ev) (e : E) (he : ∀ w, evE L.T (calls L.T L.ds k) e k (w :: rest) = .ok (.d (.int h)) (w :: rest)) :
    ∃ a' b' r : Int, 0 ≤ a' ∧ 0 ≤ b' ∧ 0 ≤ r ∧ r < h ∧ evE L.T (calls L.T L.ds k) (.call 12 [.var 0, e]) k (bx a b :: rest) = .ok (.d (.int r)) (bx a' b' :: rest) :=
  draw_e (T := L.T) (ds := L.ds) (f := 12) rfl hk a b h ha hb h0 h1 rest e he
/-- _law_some -/
theorem t16 {m : Nat} (hm : 2 ≤ m) (a b s : Int) (n : Nat) (hn : n ≤ 1000) (ha : 0 ≤ a) (hb : 0 ≤ b) (j : Nat) (p : Bool) (ρ : Ev) (hj : ρ[j]? = some (some (.L p [.int a, .int b]))) :
    ∃ (a' b' : Int) (ls : List Int), 0 ≤ a' ∧ 0 ≤ b' ∧ ls.length = n ∧ (∀ l ∈ ls, 0 ≤ l ∧ l ≤ 9) ∧ callF (calls L.T L.ds m) m 16 [.bor j, .d (.int s), .d (.int n)] ρ = .ok (.d (dW (As s ls))) (ρ.set j (some (.L p [.int a', .int b']))) := by
  obtain ⟨k, rfl⟩ : ∃ k, m = k + 1 := ⟨m - 1, by omega⟩
  obtain ⟨ys, ρ', e, ⟨a', b', ha', hb', rfl⟩, q⟩ := comp_inv L.T (calls L.T L.ds k) k [bx a b, some (.d (.int s)), some (.d (.int n)), none] [bx a b, some (.d (.int s)), some (.d (.int n)), none] (.tup [.var 1, .call 12 [.var 0, .int 10]]) (.nm 3) .rng [.var 2] [3] [] (upTo 0 n)
    (fun ρ => ∃ a b : Int, 0 ≤ a ∧ 0 ≤ b ∧ ρ = [bx a b, some (.d (.int s)), some (.d (.int n)), none]) (fun _ y => ∃ l : Int, 0 ≤ l ∧ l ≤ 9 ∧ y = .tup [.int s, .int l])
    (by
      have := iter_rng1 [bx a b, some (.d (.int s)), some (.d (.int n)), none] (n : Int) (inR_sm _ (by omega) (by omega))
      simpa [varS] using this) ⟨a, b, ha, hb, rfl⟩ (fun _ _ => rfl) (by rw [upTo_len]; show _ ≤ 16777216; omega) (by
      rintro x hx ρ ⟨a, b, ha, hb, rfl⟩
      obtain ⟨a', b', r, ha', hb', r0, r1, e⟩ := dr k (by omega) a b 10 ha hb (by omega) (by omega) [some (.d (.int s)), some (.d (.int n)), some (.d x)] (.int 10) (fun _ => rfl)
      refine ⟨[bx a b, some (.d (.int s)), some (.d (.int n)), some (.d x)], .d (.tup [.int s, .int r]), [bx a' b', some (.d (.int s)), some (.d (.int n)), some (.d x)], .tup [.int s, .int r], [bx a' b', some (.d (.int s)), some (.d (.int n)), some (.d x)], rfl, ?_, rfl, ⟨a', b', ha', hb', rfl⟩, r, r0, by omega, rfl⟩
      rw [v_tup, v_lcons, v_var]
      show (R.bind (R.bind (R.ok (O.d (.int s)) _) _) _) = _
      rw [R.bind_ok, v_lcons, e, R.bind_ok, v_lnil]
      rfl)
  have hls : ∃ ls : List Int, ys = (As s ls).map Wt.d ∧ ls.length = n ∧ ∀ l ∈ ls, 0 ≤ l ∧ l ≤ 9 := by
    have hlen := q.len
    rw [upTo_len] at hlen
    have : ∃ ls : List Int, ys = (As s ls).map Wt.d ∧ ∀ l ∈ ls, 0 ≤ l ∧ l ≤ 9 := by
      clear e hlen
      generalize upTo 0 (n : Int) = xs at q
      induction q with
      | nil => exact ⟨[], rfl, by simp⟩
      | cons h _ ih =>
        obtain ⟨l, l0, l1, rfl⟩ := h
        obtain ⟨ls, rfl, hl⟩ := ih
        refine ⟨l :: ls, rfl, fun z hz => ?_⟩
        rcases List.mem_cons.mp hz with rfl | hz
        · exact ⟨l0, l1⟩
        · exact hl z hz
    obtain ⟨ls, rfl, hl⟩ := this
    refine ⟨ls, rfl, ?_, hl⟩
    simp [As] at hlen
    exact hlen
  obtain ⟨ls, rfl, hl, hl2⟩ := hls
  refine ⟨a', b', ls, ha', hb', hl, hl2, ?_⟩
  refine callF_gen L.T L.ds k 16 d16 rfl _ [bx a b, some (.d (.int s)), some (.d (.int n))] [bx a' b', none, none] ρ [bx a' b', some (.d (.int s)), some (.d (.int n)), none] _ _ (by simp [handL, hj]) rfl rfl ?_ rfl (by simp [handB, hj])
  have e1 : evS L.T (calls L.T L.ds k) (.ret (.blt .tuple [.comp (.tup [.var 1, .call 12 [.var 0, .int 10]]) (.nm 3) .rng [.var 2] [] [3]])) k [bx a b, some (.d (.int s)), some (.d (.int n)), none] = .ok (.ret (.d (dW (As s ls)))) [bx a' b', some (.d (.int s)), some (.d (.int n)), none] := by
    rw [v_ret, v_blt, v_lcons, e]
    rfl
  exact evB_fl e1 []
/-! ### _law_written -/
abbrev E15 (a b : Int) (w1 w2 w3 w4 w5 w6 w7 w8 w9 w10 w11 w12 : Option W) : Ev := [bx a b, w1, w2, w3, w4, w5, w6, w7, w8, w9, w10, w11, w12]
section
variable (k : Nat) (hk : 20 ≤ k)
include hk
theorem l1 (a b : Int) (ha : 0 ≤ a) (hb : 0 ≤ b) (w1 : Option D) (w2 w3 : Option W) : ∃ a' b' p : Int, 0 ≤ a' ∧ 0 ≤ b' ∧ evS L.T (calls L.T L.ds k) (.set 1 (.call 12 [.var 0, .int 3])) k (E15 a b (dw w1) w2 w3 none none none none none none none none none) = .ok .nx (E15 a' b' (some (.d (.int p))) w2 w3 none none none none none none none none none) := by
  obtain ⟨a', b', r, x1, x2, x3, x4, e⟩ := dr k (by omega) a b 3 ha hb (by omega) (by omega) [dw w1, w2, w3, none, none, none, none, none, none, none, none, none] (.int 3) (fun _ => rfl)
  refine ⟨a', b', r, x1, x2, ?_⟩
  rw [v_set, e]
  show nxt (store _ 1 _) = _
  rw [store_dw _ 1 w1 _ rfl]
  rfl
theorem l2 (a b p : Int) (ha : 0 ≤ a) (hb : 0 ≤ b) : ∃ a' b' d : Int, 0 ≤ a' ∧ 0 ≤ b' ∧ 1 ≤ d ∧ d ≤ 1000000 ∧ evS L.T (calls L.T L.ds k) (.set 2 (.ite (.cmp .eq (.var 1) (.int 0)) (.bin .add (.int 1) (.call 12 [.var 0, .int 4])) (.ite (.cmp .eq (.var 1) (.int 1)) (.bin .add (.int 5) (.call 12 [.var 0, .int 40])) (.bin .add (.int 1) (.call 12 [.var 0, .int 1000000]))))) k (E15 a b (some (.d (.int p))) none none none none none none none none none none none)
    = .ok .nx (E15 a' b' (some (.d (.int p))) (some (.d (.int d))) none none none none none none none none none none) := by
  have go : ∀ h c : Int, 0 < h → h < 1073741824 → ∃ a' b' r : Int, 0 ≤ a' ∧ 0 ≤ b' ∧ 0 ≤ r ∧ r < h ∧ evE L.T (calls L.T L.ds k) (.bin .add (.int c) (.call 12 [.var 0, .int h])) k (E15 a b (some (.d (.int p))) none none none none none none none none none none none) = .ok (.d (.int (c + r))) (E15 a' b' (some (.d (.int p))) none none none none none none none none none none none) := fun h c h0 h1 => by
    obtain ⟨a', b', r, x1, x2, x3, x4, e⟩ := dr k (by omega) a b h ha hb h0 h1 [some (.d (.int p)), none, none, none, none, none, none, none, none, none, none, none] (.int h) (fun _ => rfl)
    refine ⟨a', b', r, x1, x2, x3, x4, ?_⟩
    rw [v_bin, v_int, R.bind_ok, e]
    rfl
  obtain ⟨a1, b1, r1, y1, y2, y3, y4, e1⟩ := go 4 1 (by omega) (by omega)
  obtain ⟨a2, b2, r2, z1, z2, z3, z4, e2⟩ := go 40 5 (by omega) (by omega)
  obtain ⟨a3, b3, r3, u1, u2, u3, u4, e3⟩ := go 1000000 1 (by omega) (by omega)
  have t0 : ∀ c : Int, evE L.T (calls L.T L.ds k) (.cmp .eq (.var 1) (.int c)) k (E15 a b (some (.d (.int p))) none none none none none none none none none none none) = .ok (.d (.bl (p == c))) (E15 a b (some (.d (.int p))) none none none none none none none none none none none) := fun c => by simp [varS]
  by_cases c0 : (p == 0) = true
  · refine ⟨a1, b1, 1 + r1, y1, y2, by omega, by omega, ?_⟩
    rw [v_set, v_ite, t0, asT_d, truth_bl, R.opt_some, c0, ifB_t, e1]
    rfl
  · have c0 : (p == 0) = false := by simpa using c0
    by_cases c1 : (p == 1) = true
    · refine ⟨a2, b2, 5 + r2, z1, z2, by omega, by omega, ?_⟩
      rw [v_set, v_ite, t0, asT_d, truth_bl, R.opt_some, c0, ifB_f, v_ite, t0, asT_d, truth_bl, R.opt_some, c1, ifB_t, e2]
      rfl
    · have c1 : (p == 1) = false := by simpa using c1
      refine ⟨a3, b3, 1 + r3, u1, u2, by omega, by omega, ?_⟩
      rw [v_set, v_ite, t0, asT_d, truth_bl, R.opt_some, c0, ifB_f, v_ite, t0, asT_d, truth_bl, R.opt_some, c1, ifB_f, e3]
      rfl
theorem l4 (a b p d : Int) (ha : 0 ≤ a) (hb : 0 ≤ b) (hd : 1 ≤ d) : ∃ a' b' r : Int, 0 ≤ a' ∧ 0 ≤ b' ∧ 1 ≤ r ∧ r ≤ 1000000 ∧ evS L.T (calls L.T L.ds k) (.set 3 (.ite (.cmp .eq (.var 1) (.int 0)) (.bin .add (.int 1) (.call 12 [.var 0, .int 3])) (.ite (.cmp .eq (.var 1) (.int 1)) (.bin .add (.int 1) (.call 12 [.var 0, .blt .min2 [.bin .add (.var 2) (.int 3), .int 50]])) (.bin .add (.int 1) (.call 12 [.var 0, .int 1000000]))))) k (E15 a b (some (.d (.int p))) (some (.d (.int d))) none none none none none none none none none none)
    = .ok .nx (E15 a' b' (some (.d (.int p))) (some (.d (.int d))) (some (.d (.int r))) none none none none none none none none none) := by
  have go : ∀ (h : Int) (e : E), (∀ w, evE L.T (calls L.T L.ds k) e k (w :: [some (.d (.int p)), some (.d (.int d)), none, none, none, none, none, none, none, none, none, none]) = .ok (.d (.int h)) (w :: [some (.d (.int p)), some (.d (.int d)), none, none, none, none, none, none, none, none, none, none])) → 0 < h → h < 1073741824 → ∃ a' b' r : Int, 0 ≤ a' ∧ 0 ≤ b' ∧ 0 ≤ r ∧ r < h ∧ evE L.T (calls L.T L.ds k) (.bin .add (.int 1) (.call 12 [.var 0, e])) k (E15 a b (some (.d (.int p))) (some (.d (.int d))) none none none none none none none none none none) = .ok (.d (.int (1 + r))) (E15 a' b' (some (.d (.int p))) (some (.d (.int d))) none none none none none none none none none none) := fun h e he h0 h1 => by
    obtain ⟨a', b', r, x1, x2, x3, x4, e⟩ := dr k (by omega) a b h ha hb h0 h1 _ e he
    refine ⟨a', b', r, x1, x2, x3, x4, ?_⟩
    rw [v_bin, v_int, R.bind_ok, e]
    rfl
  obtain ⟨a1, b1, r1, y1, y2, y3, y4, e1⟩ := go 3 (.int 3) (fun _ => rfl) (by omega) (by omega)
  have hmn := mn_le (d + 3) 50
  have hmn2 := mn_eq (d + 3) 50
  obtain ⟨a2, b2, r2, z1, z2, z3, z4, e2⟩ := go (mn (d + 3) 50) (.blt .min2 [.bin .add (.var 2) (.int 3), .int 50]) (fun _ => rfl) (by omega) (by omega)
  obtain ⟨a3, b3, r3, u1, u2, u3, u4, e3⟩ := go 1000000 (.int 1000000) (fun _ => rfl) (by omega) (by omega)
  have t0 : ∀ c : Int, evE L.T (calls L.T L.ds k) (.cmp .eq (.var 1) (.int c)) k (E15 a b (some (.d (.int p))) (some (.d (.int d))) none none none none none none none none none none) = .ok (.d (.bl (p == c))) (E15 a b (some (.d (.int p))) (some (.d (.int d))) none none none none none none none none none none) := fun c => by simp [varS]
  by_cases c0 : (p == 0) = true
  · refine ⟨a1, b1, 1 + r1, y1, y2, by omega, by omega, ?_⟩
    rw [v_set, v_ite, t0, asT_d, truth_bl, R.opt_some, c0, ifB_t, e1]
    rfl
  · have c0 : (p == 0) = false := by simpa using c0
    by_cases c1 : (p == 1) = true
    · refine ⟨a2, b2, 1 + r2, z1, z2, by omega, by omega, ?_⟩
      rw [v_set, v_ite, t0, asT_d, truth_bl, R.opt_some, c0, ifB_f, v_ite, t0, asT_d, truth_bl, R.opt_some, c1, ifB_t, e2]
      rfl
    · have c1 : (p == 1) = false := by simpa using c1
      refine ⟨a3, b3, 1 + r3, u1, u2, by omega, by omega, ?_⟩
      rw [v_set, v_ite, t0, asT_d, truth_bl, R.opt_some, c0, ifB_f, v_ite, t0, asT_d, truth_bl, R.opt_some, c1, ifB_f, e3]
      rfl
/-- the drawn lines so far -/
structure Dl (ps : List (Int × Int)) (now : Int) : Prop where
  n0 : 0 ≤ now
  n1 : now ≤ 1000 + 40 * ps.length
  s0 : ∀ p ∈ ps, 0 ≤ p.1 ∧ p.1 ≤ now
  l0 : ∀ p ∈ ps, 0 ≤ p.2 ∧ p.2 ≤ 9
  asc : ps.Pairwise fun p q => p.1 ≤ q.1
omit hk in
theorem Dl.add {ps : List (Int × Int)} {now s l : Int} (h : Dl ps now) (s0 : 0 ≤ s) (s1 : s ≤ 40) (l0 : 0 ≤ l) (l1 : l ≤ 9) : Dl (ps ++ [(now + s, l)]) (now + s) := by
  have n0 := h.n0
  have n1 := h.n1
  refine ⟨by omega, by simp; omega, fun p hp => ?_, fun p hp => ?_, ?_⟩
  · rcases List.mem_append.mp hp with hp | hp
    · have := h.s0 p hp
      omega
    · have : p = (now + s, l) := by simpa using hp
      rw [this]; exact ⟨by show 0 ≤ now + s; omega, Int.le_refl _⟩
  · rcases List.mem_append.mp hp with hp | hp
    · exact h.l0 p hp
    · have : p = (now + s, l) := by simpa using hp
      rw [this]; exact ⟨l0, l1⟩
  · refine List.pairwise_append.mpr ⟨h.asc, by simp, fun p hp q hq => ?_⟩
    have : q = (now + s, l) := by simpa using hq
    have hp := (h.s0 p hp).2
    rw [this]
    show p.1 ≤ now + s
    omega
abbrev E15l (a b p d r : Int) (t : Option D) (ps : List (Int × Int)) (now : Int) : Ev := E15 a b (some (.d (.int p))) (some (.d (.int d))) (some (.d (.int r))) (dw t) none none none (some (.L false (ps.map encP))) (some (.d (.int now))) none none none
def bodyL : List S := [.set 9 (.bin .add (.var 9) (.ix (.lst [.int 0, .int 0, .int 0, .int 0, .int 0, .int 1, .int 2, .int 40]) (.call 12 [.var 0, .int 8]))),
    .ex (.app 8 (.tup [.var 9, .call 12 [.var 0, .int 10]]))]
theorem l6t (a b p d r : Int) (ha : 0 ≤ a) (hb : 0 ≤ b) (t : D) (ps : List (Int × Int)) (now : Int) (h : Dl ps now) (hl : ps.length ≤ 1000) :
    ∃ (a' b' s l : Int), 0 ≤ a' ∧ 0 ≤ b' ∧ Dl (ps ++ [(now + s, l)]) (now + s) ∧ evB L.T (calls L.T L.ds k) bodyL k (E15l a b p d r (some t) ps now) = .ok .nx (E15l a' b' p d r (some t) (ps ++ [(now + s, l)]) (now + s)) := by
  obtain ⟨a1, b1, r1, x1, x2, x3, x4, e1⟩ := dr k (by omega) a b 8 ha hb (by omega) (by omega) [some (.d (.int p)), some (.d (.int d)), some (.d (.int r)), some (.d t), none, none, none, some (.L false (ps.map encP)), some (.d (.int now)), none, none, none] (.int 8) (fun _ => rfl)
  have hs : ∃ s : Int, 0 ≤ s ∧ s ≤ 40 ∧ index (.L [.int 0, .int 0, .int 0, .int 0, .int 0, .int 1, .int 2, .int 40]) (.d (.int r1)) = some (.int s) := by
    have : r1 = 0 ∨ r1 = 1 ∨ r1 = 2 ∨ r1 = 3 ∨ r1 = 4 ∨ r1 = 5 ∨ r1 = 6 ∨ r1 = 7 := by omega
    rcases this with rfl | rfl | rfl | rfl | rfl | rfl | rfl | rfl
    · exact ⟨0, by omega, by omega, rfl⟩
    · exact ⟨0, by omega, by omega, rfl⟩
    · exact ⟨0, by omega, by omega, rfl⟩
    · exact ⟨0, by omega, by omega, rfl⟩
    · exact ⟨0, by omega, by omega, rfl⟩
    · exact ⟨1, by omega, by omega, rfl⟩
    · exact ⟨2, by omega, by omega, rfl⟩
    · exact ⟨40, by omega, by omega, rfl⟩
  obtain ⟨s, s0, s1, hs⟩ := hs
  obtain ⟨a2, b2, l, y1, y2, y3, y4, e2⟩ := dr k (by omega) a1 b1 10 x1 x2 (by omega) (by omega) [some (.d (.int p)), some (.d (.int d)), some (.d (.int r)), some (.d t), none, none, none, some (.L false (ps.map encP)), some (.d (.int (now + s))), none, none, none] (.int 10) (fun _ => rfl)
  refine ⟨a2, b2, s, l, y1, y2, h.add s0 s1 y3 (by omega), ?_⟩
  have e1 : evE L.T (calls L.T L.ds k) (.call 12 [.var 0, .int 8]) k (E15l a b p d r (some t) ps now) = .ok (.d (.int r1)) (E15l a1 b1 p d r (some t) ps now) := e1
  have e2 : evE L.T (calls L.T L.ds k) (.call 12 [.var 0, .int 10]) k (E15l a1 b1 p d r (some t) ps (now + s)) = .ok (.d (.int l)) (E15l a2 b2 p d r (some t) ps (now + s)) := e2
  have f1 : evS L.T (calls L.T L.ds k) (.set 9 (.bin .add (.var 9) (.ix (.lst [.int 0, .int 0, .int 0, .int 0, .int 0, .int 1, .int 2, .int 40]) (.call 12 [.var 0, .int 8])))) k (E15l a b p d r (some t) ps now) = .ok .nx (E15l a1 b1 p d r (some t) ps (now + s)) := by
    rw [v_set, v_bin, v_var]
    show (R.bind (R.bind (R.ok (O.d (.int now)) (E15l a b p d r (some t) ps now)) _) _) = _
    rw [R.bind_ok, v_ix]
    have hlst : evE L.T (calls L.T L.ds k) (.lst [.int 0, .int 0, .int 0, .int 0, .int 0, .int 1, .int 2, .int 40]) k (E15l a b p d r (some t) ps now) = .ok (.L [.int 0, .int 0, .int 0, .int 0, .int 0, .int 1, .int 2, .int 40]) (E15l a b p d r (some t) ps now) := rfl
    rw [hlst, R.bind_ok, e1, R.bind_ok, rs_L, rs_d, hs]
    rfl
  have hc : ps.length < cap := by show _ < 16777216; omega
  have f2 : evS L.T (calls L.T L.ds k) (.ex (.app 8 (.tup [.var 9, .call 12 [.var 0, .int 10]]))) k (E15l a1 b1 p d r (some t) ps (now + s)) = .ok .nx (E15l a2 b2 p d r (some t) (ps ++ [(now + s, l)]) (now + s)) := by
    rw [v_ex, v_app, v_tup, v_lcons, v_var]
    show (R.bind (R.bind (R.bind (R.bind (R.ok (O.d (.int (now + s))) (E15l a1 b1 p d r (some t) ps (now + s))) _) _) _) _) = _
    rw [R.bind_ok, v_lcons, e2, R.bind_ok, v_lnil]
    simp [appS, hc]
  unfold bodyL
  rw [evB_nx f1, evB_nx f2]
  rfl
theorem l6l (p d r : Int) (ρ0 : Ev) : ∀ (xs : List D) (a b : Int) (t : Option D) (ps : List (Int × Int)) (now : Int), 0 ≤ a → 0 ≤ b → Dl ps now → ps.length + xs.length ≤ 200 →
    ∃ (a' b' : Int) (t' : Option D) (ps' : List (Int × Int)) (now' : Int), 0 ≤ a' ∧ 0 ≤ b' ∧ Dl ps' now' ∧ ps'.length = ps.length + xs.length ∧ forL [] ρ0 (.nm 4) (evB L.T (calls L.T L.ds k) bodyL k) xs (E15l a b p d r t ps now) = .ok .nx (E15l a' b' p d r t' ps' now')
  | [], a, b, t, ps, now, ha, hb, h, _ => ⟨a, b, t, ps, now, ha, hb, h, rfl, rfl⟩
  | x :: xs, a, b, t, ps, now, ha, hb, h, hl => by
    have hl' : ps.length + (xs.length + 1) ≤ 200 := by simpa using hl
    obtain ⟨a1, b1, s, l, x1, x2, h1, e1⟩ := l6t k hk a b p d r ha hb x ps now h (by omega)
    obtain ⟨a2, b2, t2, ps2, now2, y1, y2, h2, hl2, e2⟩ := l6l p d r ρ0 xs a1 b1 (some x) (ps ++ [(now + s, l)]) (now + s) x1 x2 h1 (by rw [List.length_append]; simp; omega)
    refine ⟨a2, b2, t2, ps2, now2, y1, y2, h2, by rw [hl2]; simp; omega, ?_⟩
    have hb' : bindT (.nm 4) x (E15l a b p d r t ps now) = some (E15l a b p d r (some x) ps now) := store_dw _ 4 t _ rfl
    simp only [forL, stands, if_true, hb', R.opt_some, e1, R.bind_ok]
    exact e2
theorem l56 (a b p d r : Int) (ha : 0 ≤ a) (hb : 0 ≤ b) : ∃ (a' b' : Int) (t : Option D) (ps : List (Int × Int)) (now : Int), 0 ≤ a' ∧ 0 ≤ b' ∧ Tm ps ∧ ∀ ss, evB L.T (calls L.T L.ds k) ((.par [8, 9] [.lst [], .call 12 [.var 0, .int 1000]]) :: (.for_ (.nm 4) .rng [.call 12 [.var 0, .int 201]] bodyL) :: ss) k (E15 a b (some (.d (.int p))) (some (.d (.int d))) (some (.d (.int r))) none none none none none none none none none)
    = evB L.T (calls L.T L.ds k) ss k (E15l a' b' p d r t ps now) := by
  obtain ⟨a1, b1, n, x1, x2, x3, x4, e1⟩ := dr k (by omega) a b 1000 ha hb (by omega) (by omega) [some (.d (.int p)), some (.d (.int d)), some (.d (.int r)), none, none, none, none, none, none, none, none, none] (.int 1000) (fun _ => rfl)
  have f1 : evS L.T (calls L.T L.ds k) (.par [8, 9] [.lst [], .call 12 [.var 0, .int 1000]]) k (E15 a b (some (.d (.int p))) (some (.d (.int d))) (some (.d (.int r))) none none none none none none none none none) = .ok .nx (E15l a1 b1 p d r none [] n) := by
    have hl : evE L.T (calls L.T L.ds k) (.lst []) k (E15 a b (some (.d (.int p))) (some (.d (.int d))) (some (.d (.int r))) none none none none none none none none none) = .ok (.L []) (E15 a b (some (.d (.int p))) (some (.d (.int d))) (some (.d (.int r))) none none none none none none none none none) := rfl
    rw [v_par, v_lcons, hl, R.bind_ok, v_lcons, e1, R.bind_ok, v_lnil]
    rfl
  obtain ⟨a2, b2, c, y1, y2, y3, y4, e2⟩ := dr k (by omega) a1 b1 201 x1 x2 (by omega) (by omega) [some (.d (.int p)), some (.d (.int d)), some (.d (.int r)), none, none, none, none, some (.L false []), some (.d (.int n)), none, none, none] (.int 201) (fun _ => rfl)
  obtain ⟨a3, b3, t, ps, now, z1, z2, h3, hl3, e3⟩ := l6l k hk p d r (E15l a2 b2 p d r none [] n) (upTo 0 c) a2 b2 none [] n y1 y2 ⟨x3, by simp; omega, by simp, by simp, .nil⟩ (by rw [upTo_len]; simp; omega)
  have e2 : evE L.T (calls L.T L.ds k) (.call 12 [.var 0, .int 201]) k (E15l a1 b1 p d r none [] n) = .ok (.d (.int c)) (E15l a2 b2 p d r none [] n) := e2
  refine ⟨a3, b3, t, ps, now, z1, z2, ?_, fun ss => ?_⟩
  · rw [upTo_len] at hl3
    simp at hl3
    have n1 := h3.n1
    refine ⟨by omega, fun q hq => ?_, h3.l0, h3.asc⟩
    have := h3.s0 q hq
    omega
  · have f2 : evS L.T (calls L.T L.ds k) (.for_ (.nm 4) .rng [.call 12 [.var 0, .int 201]] bodyL) k (E15l a1 b1 p d r none [] n) = .ok .nx (E15l a3 b3 p d r t ps now) := by
      rw [v_for, v_lcons, e2, R.bind_ok, v_lnil, R.bind_ok, iter_rng1 _ c (inR_sm _ (by omega) (by omega)), R.bind_ok]
      exact e3
    rw [evB_nx f1, evB_nx f2]
end
end Ev.K95
/-! P95g: _law_written, its end. -/
namespace Ev.K95
theorem rdy_Wt (w : Wt) : rdy 1 w.d = true := by cases w <;> rfl
theorem rdy_dW (ws : List Wt) (h : ws.length ≤ 1000) : rdy 2 (dW ws) = true := by
  show (decide ((ws.map Wt.d).length ≤ 1000000) && (ws.map Wt.d).all (rdy 1)) = true
  simp only [List.length_map, Bool.and_eq_true, decide_eq_true_eq, List.all_eq_true]
  refine ⟨by omega, fun x hx => ?_⟩
  obtain ⟨w, _, rfl⟩ := List.mem_map.mp hx
  exact rdy_Wt w
theorem rdy_ints (xs : List Int) (h : xs.length ≤ 1000000) : rdy 1 (.tup (xs.map D.int)) = true := by
  show (decide ((xs.map D.int).length ≤ 1000000) && (xs.map D.int).all (rdy 0)) = true
  simp only [List.length_map, Bool.and_eq_true, decide_eq_true_eq, List.all_eq_true]
  refine ⟨h, fun x hx => ?_⟩
  obtain ⟨i, _, rfl⟩ := List.mem_map.mp hx
  rfl
theorem lim_dW (ws : List Wt) (n : Nat) (h : 2 ≤ n) : lim (dW ws) n = true := by
  obtain ⟨n, rfl⟩ : ∃ j, n = j + 1 := ⟨n - 1, by omega⟩
  refine lim_tup fun x hx => ?_
  obtain ⟨w, _, rfl⟩ := List.mem_map.mp hx
  exact lim_Wt w n (by omega)
theorem lim_ints (xs : List Int) (n : Nat) (h : 1 ≤ n) : lim (.tup (xs.map D.int)) n = true := by
  obtain ⟨n, rfl⟩ : ∃ j, n = j + 1 := ⟨n - 1, by omega⟩
  exact limL_ints xs n
theorem ne_same (x : D) (h : lim x 59 = true) : cmp .ne (.d (.tup [.int 0, x])) (.d (.tup [.int 0, x])) = some false := by
  rw [cmp_ne_d, same_refl (lim_tup (n := 59) (by
    intro y hy
    simp only [List.mem_cons, List.not_mem_nil, or_false] at hy
    rcases hy with rfl | rfl
    · exact lim_int _ _
    · exact h))]
  rfl
theorem eq_same (x : D) (h : lim x 59 = true) : cmp .eq (.d (.tup [.int 0, x])) (.d (.tup [.int 0, x])) = some true := by
  rw [cmp_eq_d, same_refl (lim_tup (n := 59) (by
    intro y hy
    simp only [List.mem_cons, List.not_mem_nil, or_false] at hy
    rcases hy with rfl | rfl
    · exact lim_int _ _
    · exact h))]
/-- told, at a def's level -/
theorem toldK {m : Nat} {e : E} {ρ : Ev} {x : D} (n : Nat) (hn : n ≤ m) (h : evE L.T (calls L.T L.ds (m + 2)) e m ρ = .ok (.d x) ρ) (hr : rdy n x = true) : evE L.T (calls L.T L.ds (m + 2)) (.told e) (m + 2) ρ = .ok (.d (.tup [.int 0, x])) ρ :=
  told_at (sx := 4) (T := L.T) (ds := L.ds) rfl (Nat.le_refl _) n hn h hr
theorem lfs_d (ws : List Wt) : (ws.filter Wt.isL).map (fun w => match w with | .left n => D.int n | .kept _ _ => D.non) = (lfs ws).map D.int := by
  induction ws with
  | nil => rfl
  | cons w ws ih =>
    cases w with
    | kept s l => exact ih
    | left n =>
      show D.int n :: _ = D.int n :: _
      rw [ih]
section
variable (m : Nat) (hm : 20 ≤ m) (a b p d r : Int) (t : Option D) (ps : List (Int × Int)) (now : Int) (h : Tm ps) (hr : 1 ≤ r) (hr1 : r ≤ 1000000) (hd : 1 ≤ d) (hd1 : d ≤ 1000000)
abbrev wsD (d r : Int) (ps : List (Int × Int)) : List Wt := (bk r d ps).found
abbrev E15d (w6 w7 : Option W) : Ev := E15 a b (some (.d (.int p))) (some (.d (.int d))) (some (.d (.int r))) (dw t) (some (.d (dW (wsD d r ps)))) w6 w7 (some (.L false (ps.map encP))) (some (.d (.int now))) none none none
include h hr hr1 hd hd1 hm
omit hd hd1 in
theorem g7 : evS L.T (calls L.T L.ds (m + 2)) (.set 5 (.call 14 [.var 3, .var 2, .var 8])) (m + 2) (E15l a b p d r t ps now) = .ok .nx (E15d a b p d r t ps now none none) := by
  have e := t14 (m := m + 2) (by omega) r d (by omega) hr1 ps h.len 8 false (E15l a b p d r t ps now) rfl
  rw [v_set, v_call]
  have he : evL L.T (calls L.T L.ds (m + 2)) [.var 3, .var 2, .var 8] (m + 2) (E15l a b p d r t ps now) = .ok [.d (.int r), .d (.int d), .bor 8] (E15l a b p d r t ps now) := rfl
  rw [he, R.bind_ok, e]
  rfl
theorem g8 : evS L.T (calls L.T L.ds (m + 2)) (.ite (.cmp .ne (.told (.call 4 [.var 3, .var 2, .blt .tuple [.var 8]])) (.tup [.int 0, .var 5])) [.ret (.bl false)] []) (m + 2) (E15d a b p d r t ps now none none) = .ok .nx (E15d a b p d r t ps now none none) := by
  have wd : Wd (wsD d r ps) := bk_wd hr hd h
  have hc : evE L.T (calls L.T L.ds (m + 2)) (.call 4 [.var 3, .var 2, .blt .tuple [.var 8]]) m (E15d a b p d r t ps now none none) = .ok (.d (dW (wsD d r ps))) (E15d a b p d r t ps now none none) := by
    rw [v_call]
    have he : evL L.T (calls L.T L.ds (m + 2)) [.var 3, .var 2, .blt .tuple [.var 8]] m (E15d a b p d r t ps now none none) = .ok [.d (.int r), .d (.int d), .d (dPs ps)] (E15d a b p d r t ps now none none) := rfl
    rw [he, R.bind_ok]
    exact (t4 r d hr hr1 hd hd1 ps h).at (by omega) (by omega) _
  have ht := toldK (m := m) 2 (by omega) hc (rdy_dW _ (by have := wd.len; omega))
  have h2 : evE L.T (calls L.T L.ds (m + 2)) (.tup [.int 0, .var 5]) (m + 2) (E15d a b p d r t ps now none none) = .ok (.d (.tup [.int 0, dW (wsD d r ps)])) (E15d a b p d r t ps now none none) := rfl
  rw [v_if, v_cmp, ht, R.bind_ok, h2, R.bind_ok, rs_d, ne_same _ (lim_dW _ 59 (by omega)), okb_some, asT_d, truth_bl, R.opt_some, ifB_f, v_bnil]
theorem g9 : evS L.T (calls L.T L.ds (m + 2)) (.set 6 (.comp (.var 10) (.nm 10) .seq [.var 5] [.cmp .ne (.ix (.var 10) (.int 0)) (.str 3)] [10])) (m + 2) (E15d a b p d r t ps now none none) = .ok .nx (E15d a b p d r t ps now (some (.L false ((kp (wsD d r ps)).map encP))) none) := by
  have wd : Wd (wsD d r ps) := bk_wd hr hd h
  have e := comp_enc L.T (calls L.T L.ds (m + 2)) (m + 2) (E15d a b p d r t ps now none none) (.var 10) (.nm 10) .seq [.var 5] [.cmp .ne (.ix (.var 10) (.int 0)) (.str 3)] [10] [] (wsD d r ps) Wt.d (fun w => !w.isL) Wt.d rfl rfl rfl (by have := wd.len; show _ ≤ 16777216; omega) (by
    intro w hw
    refine ⟨E15 a b (some (.d (.int p))) (some (.d (.int d))) (some (.d (.int r))) (dw t) (some (.d (dW (wsD d r ps)))) none none (some (.L false (ps.map encP))) (some (.d (.int now))) (some (.d w.d)) none none, rfl, rfl, ?_, fun _ => ⟨.d w.d, rfl, rfl⟩⟩
    cases w <;> simp [varS, Wt.d, Wt.isL, same_is])
  rw [kp_d] at e
  rw [v_set, e]
  rfl
theorem g10 : evS L.T (calls L.T L.ds (m + 2)) (.set 7 (.bin .add (.blt .len [.var 6]) (.blt .sum [.comp (.ix (.var 10) (.int 1)) (.nm 10) .seq [.var 5] [.cmp .eq (.ix (.var 10) (.int 0)) (.str 3)] [10]]))) (m + 2) (E15d a b p d r t ps now (some (.L false ((kp (wsD d r ps)).map encP))) none)
    = .ok .nx (E15d a b p d r t ps now (some (.L false ((kp (wsD d r ps)).map encP))) (some (.d (.int (ex (wsD d r ps)).length)))) := by
  have wd : Wd (wsD d r ps) := bk_wd hr hd h
  have e := comp_enc L.T (calls L.T L.ds (m + 2)) (m + 2) (E15d a b p d r t ps now (some (.L false ((kp (wsD d r ps)).map encP))) none) (.ix (.var 10) (.int 1)) (.nm 10) .seq [.var 5] [.cmp .eq (.ix (.var 10) (.int 0)) (.str 3)] [10] [] (wsD d r ps) Wt.d Wt.isL (fun w => match w with | .left n => D.int n | .kept _ _ => D.non) rfl rfl rfl (by have := wd.len; show _ ≤ 16777216; omega) (by
    intro w hw
    refine ⟨E15 a b (some (.d (.int p))) (some (.d (.int d))) (some (.d (.int r))) (dw t) (some (.d (dW (wsD d r ps)))) (some (.L false ((kp (wsD d r ps)).map encP))) none (some (.L false (ps.map encP))) (some (.d (.int now))) (some (.d w.d)) none none, rfl, rfl, ?_, fun hL => ?_⟩
    · cases w <;> simp [varS, Wt.d, Wt.isL, same_is]
    · cases w with
      | kept s l => cases hL
      | left n => exact ⟨.d (.int n), by simp [varS, Wt.d], rfl⟩)
  rw [lfs_d] at e
  have hl := ex_len (wsD d r ps) [] wd.ok
  have hl : ((ex (wsD d r ps)).length : Int) = (kp (wsD d r ps)).length + (lfs (wsD d r ps)).sum := by
    have : ((ex (wsD d r ps)).length : Int) = (([] : List Int).length : Int) + (kp (wsD d r ps)).length + (lfs (wsD d r ps)).sum := hl
    simpa using this
  have h1 : evE L.T (calls L.T L.ds (m + 2)) (.blt .len [.var 6]) (m + 2) (E15d a b p d r t ps now (some (.L false ((kp (wsD d r ps)).map encP))) none) = .ok (.d (.int (kp (wsD d r ps)).length)) (E15d a b p d r t ps now (some (.L false ((kp (wsD d r ps)).map encP))) none) := by
    simp [varS, rs]
  rw [v_set, v_bin, h1, R.bind_ok, v_blt, v_lcons, e, R.bind_ok, v_lnil, R.bind_ok, R.bind_ok]
  simp only [List.map_cons, List.map_nil, rs_L, sum_ints, oko_some, R.bind_ok, rs_d, bin_add_i, hl]
  rfl
theorem g12 (w6 : Option W) : evS L.T (calls L.T L.ds (m + 2)) (.ite (.cmp .ne (.told (.call 8 [.var 5])) (.tup [.int 0, .var 7])) [.ret (.bl false)] []) (m + 2) (E15d a b p d r t ps now w6 (some (.d (.int (ex (wsD d r ps)).length)))) = .ok .nx (E15d a b p d r t ps now w6 (some (.d (.int (ex (wsD d r ps)).length)))) := by
  have wd : Wd (wsD d r ps) := bk_wd hr hd h
  have hc : evE L.T (calls L.T L.ds (m + 2)) (.call 8 [.var 5]) m (E15d a b p d r t ps now w6 (some (.d (.int (ex (wsD d r ps)).length)))) = .ok (.d (.int (ex (wsD d r ps)).length)) (E15d a b p d r t ps now w6 (some (.d (.int (ex (wsD d r ps)).length)))) := by
    rw [v_call]
    have he : evL L.T (calls L.T L.ds (m + 2)) [.var 5] m (E15d a b p d r t ps now w6 (some (.d (.int (ex (wsD d r ps)).length)))) = .ok [.d (dW (wsD d r ps))] (E15d a b p d r t ps now w6 (some (.d (.int (ex (wsD d r ps)).length)))) := rfl
    rw [he, R.bind_ok]
    exact (t8_ok _ wd (bk_some hr hd h)).at (by omega) (by omega) _
  have ht := toldK (m := m) 0 (by omega) hc rfl
  have h2 : evE L.T (calls L.T L.ds (m + 2)) (.tup [.int 0, .var 7]) (m + 2) (E15d a b p d r t ps now w6 (some (.d (.int (ex (wsD d r ps)).length)))) = .ok (.d (.tup [.int 0, .int (ex (wsD d r ps)).length])) (E15d a b p d r t ps now w6 (some (.d (.int (ex (wsD d r ps)).length)))) := rfl
  rw [v_if, v_cmp, ht, R.bind_ok, h2, R.bind_ok, rs_d, ne_same _ (lim_int _ _), okb_some, asT_d, truth_bl, R.opt_some, ifB_f, v_bnil]
theorem g13 (w6 : Option W) : evS L.T (calls L.T L.ds (m + 2)) (.ret (.cmp .eq (.told (.call 9 [.var 5])) (.tup [.int 0, .sl (.blt .tuple [.comp (.var 11) (.tp [.nm 11, .nm 12]) .seq [.var 8] [] [11, 12]]) .abs (.var 7)]))) (m + 2) (E15d a b p d r t ps now w6 (some (.d (.int (ex (wsD d r ps)).length)))) = .ok (.ret (.d (.bl true))) (E15d a b p d r t ps now w6 (some (.d (.int (ex (wsD d r ps)).length)))) := by
  have wd : Wd (wsD d r ps) := bk_wd hr hd h
  have hx : ex (wsD d r ps) = (ps.map Prod.fst).take (ex (wsD d r ps)).length := bk_ex hr hd h
  have hxl : (ex (wsD d r ps)).length ≤ ps.length := by
    have := congrArg List.length hx
    simp only [List.length_take, List.length_map] at this
    omega
  have hlen := h.len
  have hc : evE L.T (calls L.T L.ds (m + 2)) (.call 9 [.var 5]) m (E15d a b p d r t ps now w6 (some (.d (.int (ex (wsD d r ps)).length)))) = .ok (.d (.tup ((ex (wsD d r ps)).map D.int))) (E15d a b p d r t ps now w6 (some (.d (.int (ex (wsD d r ps)).length)))) := by
    rw [v_call]
    have he : evL L.T (calls L.T L.ds (m + 2)) [.var 5] m (E15d a b p d r t ps now w6 (some (.d (.int (ex (wsD d r ps)).length)))) = .ok [.d (dW (wsD d r ps))] (E15d a b p d r t ps now w6 (some (.d (.int (ex (wsD d r ps)).length)))) := rfl
    rw [he, R.bind_ok]
    exact (t9_ok _ wd (bk_some hr hd h)).at (by omega) (by omega) _
  have ht := toldK (m := m) 1 (by omega) hc (rdy_ints _ (by omega))
  have e := comp_map L.T (calls L.T L.ds (m + 2)) (m + 2) (E15d a b p d r t ps now w6 (some (.d (.int (ex (wsD d r ps)).length)))) (.var 11) (.tp [.nm 11, .nm 12]) .seq [.var 8] [11, 12] [8] ps encP (fun q => .int q.1) rfl (by simp [stands, wipe, beqs_refl]) rfl (by show _ ≤ 16777216; omega) (by
    intro q hq
    exact ⟨E15 a b (some (.d (.int p))) (some (.d (.int d))) (some (.d (.int r))) (dw t) (some (.d (dW (wsD d r ps)))) w6 (some (.d (.int (ex (wsD d r ps)).length))) (some (.L false (ps.map encP))) (some (.d (.int now))) none (some (.d (.int q.1))) (some (.d (.int q.2))), rfl, rfl, .d (.int q.1), rfl, rfl⟩)
  have hm2 : (ps.map fun q => D.int q.1) = (ps.map Prod.fst).map D.int := by rw [List.map_map]; rfl
  rw [hm2] at e
  have hs := slice_take ((ps.map Prod.fst).map D.int) (ex (wsD d r ps)).length (by simpa using hxl)
  rw [← List.map_take, ← hx] at hs
  have h2 : evE L.T (calls L.T L.ds (m + 2)) (.tup [.int 0, .sl (.blt .tuple [.comp (.var 11) (.tp [.nm 11, .nm 12]) .seq [.var 8] [] [11, 12]]) .abs (.var 7)]) (m + 2) (E15d a b p d r t ps now w6 (some (.d (.int (ex (wsD d r ps)).length)))) = .ok (.d (.tup [.int 0, .tup ((ex (wsD d r ps)).map D.int)])) (E15d a b p d r t ps now w6 (some (.d (.int (ex (wsD d r ps)).length)))) := by
    have hv : evE L.T (calls L.T L.ds (m + 2)) (.var 7) (m + 2) (E15d a b p d r t ps now w6 (some (.d (.int (ex (wsD d r ps)).length)))) = .ok (.d (.int (ex (wsD d r ps)).length)) (E15d a b p d r t ps now w6 (some (.d (.int (ex (wsD d r ps)).length)))) := rfl
    simp only [v_tup, v_lcons, v_lnil, v_int, v_sl, v_blt, e, R.bind_ok, List.map_cons, List.map_nil, rs_L, tuple_L, oko_some, isAbs, if_true, Bool.false_eq_true, if_false, hv, asI_d, rs_d, hs, keeps_d, keeps_nil, Option.map_some, R.opt_some]
  rw [v_ret, v_cmp, ht, R.bind_ok, h2, R.bind_ok, rs_d, eq_same _ (lim_ints _ 59 (by omega)), okb_some, R.bind_ok]
end
/-- _law_written -/
theorem t15 {m : Nat} (hm : 24 ≤ m) (a b : Int) (ha : 0 ≤ a) (hb : 0 ≤ b) (ρ : Ev) : callF (calls L.T L.ds m) m 15 [.L [.int a, .int b]] ρ = .ok (.d (.bl true)) ρ := by
  obtain ⟨m, rfl⟩ : ∃ k, m = k + 2 + 1 := ⟨m - 3, by omega⟩
  obtain ⟨a1, b1, p1, ha1, hb1, e1⟩ := l1 (m + 2) (by omega) a b ha hb none none none
  obtain ⟨a2, b2, d, ha2, hb2, hd, hd1, e2⟩ := l2 (m + 2) (by omega) a1 b1 p1 ha1 hb1
  obtain ⟨a3, b3, p3, ha3, hb3, e3⟩ := l1 (m + 2) (by omega) a2 b2 ha2 hb2 (some (.int p1)) (some (.d (.int d))) none
  obtain ⟨a4, b4, r, ha4, hb4, hr, hr1, e4⟩ := l4 (m + 2) (by omega) a3 b3 p3 d ha3 hb3 hd
  obtain ⟨a5, b5, t, ps, now, ha5, hb5, h, e5⟩ := l56 (m + 2) (by omega) a4 b4 p3 d r ha4 hb4
  have e7 := g7 m (by omega) a5 b5 p3 d r t ps now h hr hr1
  have e8 := g8 m (by omega) a5 b5 p3 d r t ps now h hr hr1 hd hd1
  have e9 := g9 m (by omega) a5 b5 p3 d r t ps now h hr hr1 hd hd1
  have e10 := g10 m (by omega) a5 b5 p3 d r t ps now h hr hr1 hd hd1
  have fin : ∃ ρ', evB L.T (calls L.T L.ds (m + 2)) d15.body (m + 2) ([bx a b] ++ List.replicate d15.nl none) = .ok (.ret (.d (.bl true))) (bx a5 b5 :: ρ') := by
    show ∃ ρ', evB L.T (calls L.T L.ds (m + 2)) (_ :: _ :: _ :: _ :: _ :: (.for_ (.nm 4) .rng [.call 12 [.var 0, .int 201]] bodyL) :: _) (m + 2) (E15 a b none none none none none none none none none none none none) = _
    have e1' : evS L.T (calls L.T L.ds (m + 2)) (.set 1 (.call 12 [.var 0, .int 3])) (m + 2) (E15 a b none none none none none none none none none none none none) = .ok .nx (E15 a1 b1 (some (.d (.int p1))) none none none none none none none none none none none) := e1
    rw [evB_nx e1', evB_nx e2]
    have e3' : evS L.T (calls L.T L.ds (m + 2)) (.set 1 (.call 12 [.var 0, .int 3])) (m + 2) (E15 a2 b2 (some (.d (.int p1))) (some (.d (.int d))) none none none none none none none none none none) = .ok .nx (E15 a3 b3 (some (.d (.int p3))) (some (.d (.int d))) none none none none none none none none none none) := e3
    rw [evB_nx e3', evB_nx e4, e5, evB_nx e7, evB_nx e8, evB_nx e9, evB_nx e10]
    by_cases c : 70 < (kp (wsD d r ps)).length
    · refine ⟨_, evB_fl (ρ' := E15d a5 b5 p3 d r t ps now (some (.L false ((kp (wsD d r ps)).map encP))) (some (.d (.int (ex (wsD d r ps)).length)))) ?_ _⟩
      have g : (70 : Int) < ((kp (wsD d r ps)).length : Int) := by omega
      simp [varS, rs, c, g]
    · have e11 : evS L.T (calls L.T L.ds (m + 2)) (.ite (.cmp .gt (.blt .len [.var 6]) (.int 70)) [.ret (.bl true)] []) (m + 2) (E15d a5 b5 p3 d r t ps now (some (.L false ((kp (wsD d r ps)).map encP))) (some (.d (.int (ex (wsD d r ps)).length)))) = .ok .nx (E15d a5 b5 p3 d r t ps now (some (.L false ((kp (wsD d r ps)).map encP))) (some (.d (.int (ex (wsD d r ps)).length)))) := by
        have g : ¬ (70 : Int) < ((kp (wsD d r ps)).length : Int) := by omega
        simp [varS, rs, c, g]
      rw [evB_nx e11, evB_nx (g12 m (by omega) a5 b5 p3 d r t ps now h hr hr1 hd hd1 _), evB_fl (g13 m (by omega) a5 b5 p3 d r t ps now h hr hr1 hd hd1 _)]
      exact ⟨_, rfl⟩
  obtain ⟨ρ', e⟩ := fin
  exact callF_L L.T L.ds (m + 2) 15 d15 rfl _ _ ρ ρ' _ rfl e
end Ev.K95
/-! P95h: deep buckets, plainly. -/
namespace Ev.K95
abbrev Blk := List (Int × List Int × Int)
def blk : Blk → Int × List Int → List Wt
  | [], f => As f.1 f.2
  | b :: bs, f => As b.1 b.2.1 ++ .left b.2.2 :: blk bs f
def lOk (ls : List Int) : Prop := ls ≠ [] ∧ ∀ l ∈ ls, 0 ≤ l ∧ l ≤ 9
def bOk : Int → Blk → Int × List Int → Prop
  | lo, [], f => lo ≤ f.1 ∧ f.1 ≤ 1000000 ∧ lOk f.2
  | lo, b :: bs, f => lo ≤ b.1 ∧ lOk b.2.1 ∧ (1 ≤ b.2.2 ∧ b.2.2 ≤ 200) ∧ bOk b.1 bs f
theorem bOk_top : ∀ (bs : Blk) (lo : Int) (f : Int × List Int), bOk lo bs f → lo ≤ 1000000
  | [], lo, f, h => by
    obtain ⟨h1, h2, _⟩ := h
    omega
  | b :: bs, lo, f, h => by
    have := bOk_top bs b.1 f h.2.2.2
    have := h.1
    omega
theorem kp_blk : ∀ (bs : Blk) (lo : Int) (f : Int × List Int), bOk lo bs f → (∀ p ∈ kp (blk bs f), lo ≤ p.1 ∧ p.1 ≤ 1000000 ∧ 0 ≤ p.2 ∧ p.2 ≤ 9) ∧ (kp (blk bs f)).Pairwise fun p q => p.1 ≤ q.1
  | [], lo, f, h => by
    obtain ⟨h1, h2, h3, h4⟩ := h
    show (∀ p ∈ kp (As f.1 f.2), _) ∧ _
    rw [show kp (blk [] f) = kp (As f.1 f.2) from rfl, kp_As]
    refine ⟨fun p hp => ?_, pw_As _ _⟩
    obtain ⟨l, hl, rfl⟩ := List.mem_map.mp hp
    have := h4 l hl
    exact ⟨h1, h2, this.1, this.2⟩
  | b :: bs, lo, f, h => by
    have ht := bOk_top bs b.1 f h.2.2.2
    obtain ⟨h1, ⟨h2, h3⟩, h4, h5⟩ := h
    obtain ⟨i1, i2⟩ := kp_blk bs b.1 f h5
    have e : kp (blk (b :: bs) f) = (b.2.1.map fun l => (b.1, l)) ++ kp (blk bs f) := by
      show kp (As b.1 b.2.1 ++ .left b.2.2 :: blk bs f) = _
      rw [kp_app, kp_As]; rfl
    rw [e]
    refine ⟨fun p hp => ?_, List.pairwise_append.mpr ⟨pw_As _ _, i2, fun p hp q hq => ?_⟩⟩
    · rcases List.mem_append.mp hp with hp | hp
      · obtain ⟨l, hl, rfl⟩ := List.mem_map.mp hp
        have := h3 l hl
        exact ⟨h1, ht, this.1, this.2⟩
      · have := i1 p hp
        exact ⟨by omega, this.2⟩
    · obtain ⟨l, hl, rfl⟩ := List.mem_map.mp hp
      exact (i1 q hq).1
theorem ok_blk : ∀ (bs : Blk) (lo : Int) (f : Int × List Int), bOk lo bs f → ∀ w ∈ blk bs f, w.ok
  | [], lo, f, h, w, hw => by
    obtain ⟨l, _, rfl⟩ := List.mem_map.mp (show w ∈ As f.1 f.2 from hw)
    trivial
  | b :: bs, lo, f, h, w, hw => by
    rcases List.mem_append.mp (show w ∈ As b.1 b.2.1 ++ .left b.2.2 :: blk bs f from hw) with hw | hw
    · obtain ⟨l, _, rfl⟩ := List.mem_map.mp hw
      trivial
    · rcases List.mem_cons.mp hw with rfl | hw
      · exact h.2.2.1
      · exact ok_blk bs b.1 f h.2.2.2 w hw
theorem shp_blk : ∀ (bs : Blk) (lo : Int) (f : Int × List Int) (x : Bool), bOk lo bs f → shp x (blk bs f) = true
  | [], lo, f, x, h => by
    have e := shp_As f.1 f.2 x [] h.2.2.1
    rw [List.append_nil] at e
    show shp x (As f.1 f.2) = true
    rw [e]; rfl
  | b :: bs, lo, f, x, h => by
    show shp x (As b.1 b.2.1 ++ .left b.2.2 :: blk bs f) = true
    rw [shp_As b.1 b.2.1 x _ h.2.1.1]
    show (!false && shp true (blk bs f)) = true
    rw [shp_blk bs b.1 f true h.2.2.2]; rfl
theorem wd_blk {bs : Blk} {f : Int × List Int} (h : bOk 0 bs f) (hl : (blk bs f).length ≤ 200) : Wd (blk bs f) := by
  obtain ⟨h1, h2⟩ := kp_blk bs 0 f h
  exact wd_of hl (ok_blk bs 0 f h) ⟨Nat.le_trans (kp_le _) hl, fun p hp => ⟨(h1 p hp).1, (h1 p hp).2.1⟩, fun p hp => (h1 p hp).2.2, h2⟩ (.inr (shp_blk bs 0 f true h))
theorem kp_pos {bs : Blk} {f : Int × List Int} (h : bOk 0 bs f) : 0 < (kp (blk bs f)).length := by
  cases bs with
  | nil =>
    rw [show kp (blk [] f) = kp (As f.1 f.2) from rfl, kp_As, List.length_map]
    exact List.length_pos_iff.mpr h.2.2.1
  | cons b bs =>
    have e : kp (blk (b :: bs) f) = (b.2.1.map fun l => (b.1, l)) ++ kp (blk bs f) := by
      show kp (As b.1 b.2.1 ++ .left b.2.2 :: blk bs f) = _
      rw [kp_app, kp_As]; rfl
    rw [e, List.length_append, List.length_map]
    have := List.length_pos_iff.mpr h.2.1.1
    omega
theorem ex_blk : ∀ (bs : Blk) (lo : Int) (f : Int × List Int) (acc : List Int), bOk lo bs f → (blk bs f).foldl exS acc = acc ++ (bs.flatMap fun b => List.replicate (b.2.1.length + b.2.2.toNat) b.1) ++ List.replicate f.2.length f.1
  | [], lo, f, acc, h => by
    show (As f.1 f.2).foldl exS acc = _
    rw [exA]; simp
  | b :: bs, lo, f, acc, h => by
    have e : blk (b :: bs) f = (As b.1 b.2.1 ++ [Wt.left b.2.2]) ++ blk bs f := by simp [blk]
    rw [e, List.foldl_append, exAL _ _ _ _ h.2.1.1 (by have := h.2.2.1.1; omega), ex_blk bs b.1 f _ h.2.2.2]
    simp
/-! ### the rows of the law -/
section
variable {d0 s r far : Int} {l0 l1 l2 : Int} {ls1 ls2 ls3 ls4 : List Int}
theorem one_step {r d : Int} (s : Int) : mn d (r * (s + 1 - s)) = mn d r := by
  rw [show s + 1 - s = (1 : Int) by omega, Int.mul_one]
theorem one_step2 {r d : Int} (s : Int) : mn d (r * (s + 2 - (s + 1))) = mn d r := by
  rw [show s + 2 - (s + 1) = (1 : Int) by omega, Int.mul_one]
theorem one_step3 {r d : Int} (s : Int) : mn d (r * (s + 3 - (s + 2))) = mn d r := by
  rw [show s + 3 - (s + 2) = (1 : Int) by omega, Int.mul_one]
theorem right_wb (hd : 1 ≤ d0) (hr : 1 ≤ r) (hrd : r < d0) (n1 : (ls1.length : Int) = d0) (n2 : (ls2.length : Int) = r) (n3 : (ls3.length : Int) = r) (n4 : ls4.length = 1) :
    wb r d0 (blk [(s, ls1, l0), (s + 1, ls2, l1), (s + 2, ls3, l2)] (s + 3, ls4)) d0 none = true := by
  have h1 : ls1 ≠ [] := fun z => by rw [z] at n1; simp at n1; omega
  have h2 : ls2 ≠ [] := fun z => by rw [z] at n2; simp at n2; omega
  have h3 : ls3 ≠ [] := fun z => by rw [z] at n3; simp at n3; omega
  have h4 : ls4 ≠ [] := fun z => by rw [z] at n4; simp at n4
  have hm : mn d0 r = r := mn_self (by omega)
  simp only [blk]
  rw [W0 _ _ _ _ hd _ h1, W1 _ _ _ _ _ _ h2, W1 _ _ _ _ _ _ h3, W2 _ _ _ _ _ h4, one_step, one_step2, one_step3, hm, n1, n2, n3, n4]
  simp; omega
theorem wrong0 {other : Int} {r' d' : Int} (hr : 1 ≤ r') (hrd : r' ≤ d') (h1 : ls1 ≠ []) (h2 : ls2 ≠ []) (h3 : ls3 ≠ []) (n2 : (ls2.length : Int) = r) (n3 : (ls3.length : Int) = other) (ne : other ≠ r) :
    wb r' d' (blk [(s, ls1, l0), (s + 1, ls2, l1), (s + 2, ls3, l2)] (s + 3, ls4)) d' none = false := by
  simp only [blk]
  rw [W0 _ _ _ _ (by omega) _ h1, W1 _ _ _ _ _ _ h2, W1 _ _ _ _ _ _ h3, one_step, one_step2, n2, n3]
  by_cases c : mn d' r' = r
  · rw [decide_eq_false (by omega : ¬ mn d' r' = other), Bool.false_and, Bool.and_false, Bool.and_false]
  · rw [decide_eq_false c, Bool.false_and, Bool.and_false]
theorem wrong1 {r' d' : Int} (hr : 1 ≤ r') (hrd : r' ≤ d') (h1 : ls1 ≠ []) (n1 : (ls1.length : Int) = d0) (h2 : ls2 ≠ []) (n2 : (ls2.length : Int) = d0 + 1) : wb r' d' (blk [(s, ls1, l0)] (far, ls2)) d' none = false := by
  simp only [blk]
  rw [W0 _ _ _ _ (by omega) _ h1, W2 _ _ _ _ _ h2, n1, n2]
  have := (mn_le d' (r' * (far - s))).1
  by_cases c : d' = d0
  · rw [decide_eq_false (by omega : ¬ d0 + 1 ≤ mn d' (r' * (far - s))), Bool.and_false]
  · rw [decide_eq_false c, Bool.false_and]
theorem far_full {r' d' : Int} (hr : 1 ≤ r') (hf : d' ≤ far - s) (h0 : 0 ≤ far - s) : mn d' (r' * (far - s)) = d' := by
  have h1 : far - s ≤ r' * (far - s) := by
    have := Int.mul_le_mul_of_nonneg_right hr h0
    omega
  unfold mn
  rw [if_neg (by omega)]
theorem wrong2 {r' d' : Int} (hr : 1 ≤ r') (hrd : r' ≤ d') (h1 : ls1 ≠ []) (n1 : (ls1.length : Int) = d0) (h2 : ls2 ≠ []) (n2 : (ls2.length : Int) = d0 - 1) (hf : d0 ≤ far - s) (n : Int) :
    wb r' d' (blk [(s, ls1, l0), (far, ls2, n)] (far + 1, ls3)) d' none = false := by
  simp only [blk]
  rw [W0 _ _ _ _ (by omega) _ h1, W1 _ _ _ _ _ _ h2, n1, n2]
  by_cases c : d' = d0
  · rw [far_full hr (by omega) (by omega), decide_eq_false (by omega : ¬ d' = d0 - 1), Bool.false_and, Bool.and_false]
  · rw [decide_eq_false c, Bool.false_and]
theorem final_wb (hd : 1 ≤ d0) (h1 : ls1 ≠ []) (n1 : (ls1.length : Int) = d0) (h2 : ls2 ≠ []) (n2 : (ls2.length : Int) = d0) (hf : d0 ≤ far - s) : wb 1 d0 (blk [(s, ls1, l0)] (far, ls2)) d0 none = true := by
  simp only [blk]
  rw [W0 _ _ _ _ hd _ h1, W2 _ _ _ _ _ h2, n1, n2, far_full (by omega) hf (by omega)]
  simp
end
end Ev.K95
/-! P95i: _law_deep, as it runs. -/
namespace Ev.K95
theorem sm (k : Nat) (hk : 2 ≤ k) (a b s : Int) (n : Nat) (hn : n ≤ 1000) (ha : 0 ≤ a) (hb : 0 ≤ b) (rest : Ev) (e1 e2 : E) (h1 : ∀ w, evE L.T (calls L.T L.ds k) e1 k (w :: rest) = .ok (.d (.int s)) (w :: rest)) (h2 : ∀ w, evE L.T (calls L.T L.ds k) e2 k (w :: rest) = .ok (.d (.int n)) (w :: rest)) :
    ∃ (a' b' : Int) (ls : List Int), 0 ≤ a' ∧ 0 ≤ b' ∧ ls.length = n ∧ (∀ l ∈ ls, 0 ≤ l ∧ l ≤ 9) ∧ evE L.T (calls L.T L.ds k) (.call 16 [.var 0, e1, e2]) k (bx a b :: rest) = .ok (.d (dW (As s ls))) (bx a' b' :: rest) := by
  obtain ⟨a', b', ls, x1, x2, x3, x4, e⟩ := t16 hk a b s n hn ha hb 0 true (bx a b :: rest) rfl
  refine ⟨a', b', ls, x1, x2, x3, x4, ?_⟩
  rw [v_call, v_lcons, v_var]
  show (R.bind (R.bind (R.ok (O.bor 0) (bx a b :: rest)) _) _) = _
  rw [R.bind_ok, v_lcons, h1, R.bind_ok, v_lcons, h2]
  exact e
theorem addW (xs ys : List Wt) (h : xs.length + ys.length ≤ 100000) : bin .add (.d (dW xs)) (.d (dW ys)) = some (.d (dW (xs ++ ys))) := by
  rw [add_tup _ _ (by simp only [List.length_map]; show _ ≤ 16777216; omega)]
  simp
theorem As_len (s : Int) (ls : List Int) : (As s ls).length = ls.length := by simp [As]
/-- the slots of _law_deep -/
structure DS where
  R : Int
  x0 : Int
  x1 : Int
  x2 : Int
  D : Int
  S : Int
structure DOk (q : DS) : Prop where
  D0 : 5 ≤ q.D
  D1 : q.D ≤ 24
  S0 : 0 ≤ q.S
  S1 : q.S ≤ 899999
  R0 : 1 ≤ q.R
  R1 : q.R < q.D
  a0 : 1 ≤ q.x0 ∧ q.x0 ≤ 50
  a1 : 1 ≤ q.x1 ∧ q.x1 ≤ 50
  a2 : 1 ≤ q.x2 ∧ q.x2 ≤ 50
abbrev Fr (q : DS) (w3 w4 w5 w6 w7 w8 w9 w10 w11 w12 : Option W) : Ev := [some (.d (.int q.R)), some (.L false [.int q.x0, .int q.x1, .int q.x2]), w3, w4, w5, w6, w7, w8, w9, w10, w11, w12, some (.d (.int q.D)), some (.d (.int q.S)), none]
section
variable (k : Nat) (hk : 20 ≤ k)
include hk
theorem q1 (a b : Int) (ha : 0 ≤ a) (hb : 0 ≤ b) : ∃ (a' b' : Int) (D S : Int), 0 ≤ a' ∧ 0 ≤ b' ∧ 5 ≤ D ∧ D ≤ 24 ∧ 0 ≤ S ∧ S ≤ 899999 ∧ evS L.T (calls L.T L.ds k) (.par [13, 14] [.bin .add (.int 5) (.call 12 [.var 0, .int 20]), .call 12 [.var 0, .int 900000]]) k (bx a b :: List.replicate 15 none)
    = .ok .nx (bx a' b' :: [none, none, none, none, none, none, none, none, none, none, none, none, some (.d (.int D)), some (.d (.int S)), none]) := by
  obtain ⟨a1, b1, r1, x1, x2, x3, x4, e1⟩ := dr k (by omega) a b 20 ha hb (by omega) (by omega) (List.replicate 15 none) (.int 20) (fun _ => rfl)
  obtain ⟨a2, b2, r2, y1, y2, y3, y4, e2⟩ := dr k (by omega) a1 b1 900000 x1 x2 (by omega) (by omega) (List.replicate 15 none) (.int 900000) (fun _ => rfl)
  refine ⟨a2, b2, 5 + r1, r2, y1, y2, by omega, by omega, y3, by omega, ?_⟩
  rw [v_par, v_lcons, v_bin, v_int, R.bind_ok, e1, R.bind_ok]
  show (R.bind (R.bind (R.ok (O.d (.int (5 + r1))) _) _) _) = _
  rw [R.bind_ok, v_lcons, e2, R.bind_ok, v_lnil]
  rfl
theorem q2 (a b D S : Int) (ha : 0 ≤ a) (hb : 0 ≤ b) (D0 : 5 ≤ D) (D1 : D ≤ 24) : ∃ (a' b' : Int) (R : Int), 0 ≤ a' ∧ 0 ≤ b' ∧ 1 ≤ R ∧ R < D ∧ evS L.T (calls L.T L.ds k) (.set 1 (.bin .add (.int 1) (.call 12 [.var 0, .bin .sub (.var 13) (.int 1)]))) k (bx a b :: [none, none, none, none, none, none, none, none, none, none, none, none, some (.d (.int D)), some (.d (.int S)), none])
    = .ok .nx (bx a' b' :: [some (.d (.int R)), none, none, none, none, none, none, none, none, none, none, none, some (.d (.int D)), some (.d (.int S)), none]) := by
  obtain ⟨a1, b1, r1, x1, x2, x3, x4, e1⟩ := dr k (by omega) a b (D - 1) ha hb (by omega) (by omega) [none, none, none, none, none, none, none, none, none, none, none, none, some (.d (.int D)), some (.d (.int S)), none] (.bin .sub (.var 13) (.int 1)) (fun _ => rfl)
  refine ⟨a1, b1, 1 + r1, x1, x2, by omega, by omega, ?_⟩
  rw [v_set, v_bin, v_int, R.bind_ok, e1]
  rfl
theorem q3 (a b R D S : Int) (ha : 0 ≤ a) (hb : 0 ≤ b) : ∃ (a' b' x0 x1 x2 : Int), 0 ≤ a' ∧ 0 ≤ b' ∧ (1 ≤ x0 ∧ x0 ≤ 50) ∧ (1 ≤ x1 ∧ x1 ≤ 50) ∧ (1 ≤ x2 ∧ x2 ≤ 50) ∧ evS L.T (calls L.T L.ds k) (.set 2 (.comp (.bin .add (.int 1) (.call 12 [.var 0, .int 50])) (.nm 15) .rng [.int 3] [] [15])) k (bx a b :: [some (.d (.int R)), none, none, none, none, none, none, none, none, none, none, none, some (.d (.int D)), some (.d (.int S)), none])
    = .ok .nx (bx a' b' :: Fr ⟨R, x0, x1, x2, D, S⟩ none none none none none none none none none none) := by
  obtain ⟨ys, ρ', e, ⟨a', b', ha', hb', rfl⟩, q⟩ := comp_inv L.T (calls L.T L.ds k) k (bx a b :: [some (.d (.int R)), none, none, none, none, none, none, none, none, none, none, none, some (.d (.int D)), some (.d (.int S)), none]) (bx a b :: [some (.d (.int R)), none, none, none, none, none, none, none, none, none, none, none, some (.d (.int D)), some (.d (.int S)), none]) (.bin .add (.int 1) (.call 12 [.var 0, .int 50])) (.nm 15) .rng [.int 3] [15] [] [.int 0, .int 1, .int 2]
    (fun ρ => ∃ a b : Int, 0 ≤ a ∧ 0 ≤ b ∧ ρ = bx a b :: [some (.d (.int R)), none, none, none, none, none, none, none, none, none, none, none, some (.d (.int D)), some (.d (.int S)), none]) (fun _ y => ∃ x : Int, (1 ≤ x ∧ x ≤ 50) ∧ y = .int x)
    rfl ⟨a, b, ha, hb, rfl⟩ (fun _ _ => rfl) (by show 3 ≤ 16777216; omega) (by
      rintro x hx ρ ⟨a, b, ha, hb, rfl⟩
      obtain ⟨a', b', r, ha', hb', r0, r1, e⟩ := dr k (by omega) a b 50 ha hb (by omega) (by omega) [some (.d (.int R)), none, none, none, none, none, none, none, none, none, none, none, some (.d (.int D)), some (.d (.int S)), some (.d x)] (.int 50) (fun _ => rfl)
      refine ⟨bx a b :: [some (.d (.int R)), none, none, none, none, none, none, none, none, none, none, none, some (.d (.int D)), some (.d (.int S)), some (.d x)], .d (.int (1 + r)), bx a' b' :: [some (.d (.int R)), none, none, none, none, none, none, none, none, none, none, none, some (.d (.int D)), some (.d (.int S)), some (.d x)], .int (1 + r), _, rfl, ?_, rfl, ⟨a', b', ha', hb', rfl⟩, 1 + r, ⟨by omega, by omega⟩, rfl⟩
      rw [v_bin, v_int, Ev.R.bind_ok, e]
      rfl)
  cases q with
  | cons h0 q =>
    cases q with
    | cons h1 q =>
      cases q with
      | cons h2 q =>
        cases q
        obtain ⟨x0, b0, rfl⟩ := h0
        obtain ⟨x1, b1, rfl⟩ := h1
        obtain ⟨x2, b2, rfl⟩ := h2
        refine ⟨a', b', x0, x1, x2, ha', hb', b0, b1, b2, ?_⟩
        rw [v_set, e]
        rfl
variable (q : DS) (h : DOk q)
include h
/-- the first row, the second, the last, the right one -/
theorem q4 (a b : Int) (ha : 0 ≤ a) (hb : 0 ≤ b) : ∃ (a' b' : Int) (ls : List Int), 0 ≤ a' ∧ 0 ≤ b' ∧ (ls.length : Int) = q.D ∧ (∀ l ∈ ls, 0 ≤ l ∧ l ≤ 9) ∧ evS L.T (calls L.T L.ds k) (.set 3 (.bin .add (.call 16 [.var 0, .var 14, .var 13]) (.tup [.tup [.str 3, .ix (.var 2) (.int 0)]]))) k (bx a b :: Fr q none none none none none none none none none none)
    = .ok .nx (bx a' b' :: Fr q (some (.d (dW (As q.S ls ++ [.left q.x0])))) none none none none none none none none none) := by
  have d0 := h.D0
  have d1 := h.D1
  obtain ⟨a1, b1, ls, x1, x2, x3, x4, e1⟩ := sm k (by omega) a b q.S q.D.toNat (by omega) ha hb (Fr q none none none none none none none none none none) (.var 14) (.var 13) (fun _ => rfl) (fun _ => by
    rw [show ((q.D.toNat : Nat) : Int) = q.D by omega]; rfl)
  refine ⟨a1, b1, ls, x1, x2, by omega, x4, ?_⟩
  have e2 : evE L.T (calls L.T L.ds k) (.tup [.tup [.str 3, .ix (.var 2) (.int 0)]]) k (bx a1 b1 :: Fr q none none none none none none none none none none) = .ok (.d (dW [.left q.x0])) (bx a1 b1 :: Fr q none none none none none none none none none none) := rfl
  rw [v_set, v_bin, e1, R.bind_ok, e2, R.bind_ok, rs_d, rs_d, addW _ _ (by simp [As_len]; omega)]
  rfl
theorem q5 (a b : Int) (w3 : Option W) (ha : 0 ≤ a) (hb : 0 ≤ b) : ∃ (a' b' : Int) (ls : List Int), 0 ≤ a' ∧ 0 ≤ b' ∧ (ls.length : Int) = q.R ∧ (∀ l ∈ ls, 0 ≤ l ∧ l ≤ 9) ∧ evS L.T (calls L.T L.ds k) (.set 4 (.bin .add (.call 16 [.var 0, .bin .add (.var 14) (.int 1), .var 1]) (.tup [.tup [.str 3, .ix (.var 2) (.int 1)]]))) k (bx a b :: Fr q w3 none none none none none none none none none)
    = .ok .nx (bx a' b' :: Fr q w3 (some (.d (dW (As (q.S + 1) ls ++ [.left q.x1])))) none none none none none none none none) := by
  have d0 := h.R0
  have d1 := h.R1
  have d2 := h.D1
  obtain ⟨a1, b1, ls, x1, x2, x3, x4, e1⟩ := sm k (by omega) a b (q.S + 1) q.R.toNat (by omega) ha hb (Fr q w3 none none none none none none none none none) (.bin .add (.var 14) (.int 1)) (.var 1) (fun _ => rfl) (fun _ => by
    rw [show ((q.R.toNat : Nat) : Int) = q.R by omega]; rfl)
  refine ⟨a1, b1, ls, x1, x2, by omega, x4, ?_⟩
  have e2 : evE L.T (calls L.T L.ds k) (.tup [.tup [.str 3, .ix (.var 2) (.int 1)]]) k (bx a1 b1 :: Fr q w3 none none none none none none none none none) = .ok (.d (dW [.left q.x1])) (bx a1 b1 :: Fr q w3 none none none none none none none none none) := rfl
  rw [v_set, v_bin, e1, R.bind_ok, e2, R.bind_ok, rs_d, rs_d, addW _ _ (by simp [As_len]; omega)]
  rfl
theorem q6 (a b : Int) (w3 w4 : Option W) (ha : 0 ≤ a) (hb : 0 ≤ b) : ∃ (a' b' : Int) (ls : List Int), 0 ≤ a' ∧ 0 ≤ b' ∧ ls.length = 1 ∧ (∀ l ∈ ls, 0 ≤ l ∧ l ≤ 9) ∧ evS L.T (calls L.T L.ds k) (.set 5 (.bin .add (.tup [.tup [.str 3, .ix (.var 2) (.int 2)]]) (.call 16 [.var 0, .bin .add (.var 14) (.int 3), .int 1]))) k (bx a b :: Fr q w3 w4 none none none none none none none none)
    = .ok .nx (bx a' b' :: Fr q w3 w4 (some (.d (dW ([.left q.x2] ++ As (q.S + 3) ls)))) none none none none none none none) := by
  obtain ⟨a1, b1, ls, x1, x2, x3, x4, e1⟩ := sm k (by omega) a b (q.S + 3) 1 (by omega) ha hb (Fr q w3 w4 none none none none none none none none) (.bin .add (.var 14) (.int 3)) (.int 1) (fun _ => rfl) (fun _ => rfl)
  refine ⟨a1, b1, ls, x1, x2, x3, x4, ?_⟩
  have e2 : evE L.T (calls L.T L.ds k) (.tup [.tup [.str 3, .ix (.var 2) (.int 2)]]) k (bx a b :: Fr q w3 w4 none none none none none none none none) = .ok (.d (dW [.left q.x2])) (bx a b :: Fr q w3 w4 none none none none none none none none) := rfl
  rw [v_set, v_bin, e2, R.bind_ok, e1, R.bind_ok, rs_d, rs_d, addW _ _ (by simp [As_len]; omega)]
  rfl
theorem q7 (a b : Int) (f1 f2 f3 : List Wt) (g1 : f1.length ≤ 100) (g2 : f2.length ≤ 100) (g3 : f3.length ≤ 100) (ha : 0 ≤ a) (hb : 0 ≤ b) : ∃ (a' b' : Int) (ls : List Int), 0 ≤ a' ∧ 0 ≤ b' ∧ (ls.length : Int) = q.R ∧ (∀ l ∈ ls, 0 ≤ l ∧ l ≤ 9) ∧
    evS L.T (calls L.T L.ds k) (.set 6 (.bin .add (.bin .add (.bin .add (.var 3) (.var 4)) (.call 16 [.var 0, .bin .add (.var 14) (.int 2), .var 1])) (.var 5))) k (bx a b :: Fr q (some (.d (dW f1))) (some (.d (dW f2))) (some (.d (dW f3))) none none none none none none none)
    = .ok .nx (bx a' b' :: Fr q (some (.d (dW f1))) (some (.d (dW f2))) (some (.d (dW f3))) (some (.d (dW (f1 ++ f2 ++ As (q.S + 2) ls ++ f3)))) none none none none none none) := by
  have d0 := h.R0
  have d1 := h.R1
  have d2 := h.D1
  obtain ⟨a1, b1, ls, x1, x2, x3, x4, e1⟩ := sm k (by omega) a b (q.S + 2) q.R.toNat (by omega) ha hb (Fr q (some (.d (dW f1))) (some (.d (dW f2))) (some (.d (dW f3))) none none none none none none none) (.bin .add (.var 14) (.int 2)) (.var 1) (fun _ => rfl) (fun _ => by
    rw [show ((q.R.toNat : Nat) : Int) = q.R by omega]; rfl)
  refine ⟨a1, b1, ls, x1, x2, by omega, x4, ?_⟩
  have e2 : evE L.T (calls L.T L.ds k) (.bin .add (.var 3) (.var 4)) k (bx a b :: Fr q (some (.d (dW f1))) (some (.d (dW f2))) (some (.d (dW f3))) none none none none none none none) = .ok (.d (dW (f1 ++ f2))) (bx a b :: Fr q (some (.d (dW f1))) (some (.d (dW f2))) (some (.d (dW f3))) none none none none none none none) := by
    rw [v_bin]
    show oko (bin .add (.d (dW f1)) (.d (dW f2))) _ = _
    rw [addW _ _ (by omega)]; rfl
  have e3 : evE L.T (calls L.T L.ds k) (.var 5) k (bx a1 b1 :: Fr q (some (.d (dW f1))) (some (.d (dW f2))) (some (.d (dW f3))) none none none none none none none) = .ok (.d (dW f3)) (bx a1 b1 :: Fr q (some (.d (dW f1))) (some (.d (dW f2))) (some (.d (dW f3))) none none none none none none none) := rfl
  rw [v_set, v_bin, v_bin, e2, R.bind_ok, e1, R.bind_ok, rs_d, rs_d, addW _ _ (by simp [As_len]; omega), oko_some, R.bind_ok, e3, R.bind_ok, rs_d, rs_d, addW _ _ (by simp [As_len]; omega)]
  rfl
end
end Ev.K95
/-! P95j: _law_deep, its end; the law. -/
namespace Ev.K95
theorem rep_D (n : Nat) (x : Int) : (List.replicate n [D.int x]).flatten = (List.replicate n x).map D.int := rep1 n x
theorem mul1 (x j : Int) (h0 : 2 ≤ j) (h1 : j ≤ 1000) : bin .mul (.d (.tup [.int x])) (.d (.int j)) = some (.d (.tup ((List.replicate j.toNat x).map D.int))) := by
  show (if _ then _ else _) = _
  rw [if_pos ⟨by simp, by simp, h0, h1⟩, rep_D]
theorem addI (xs ys : List Int) (h : xs.length + ys.length ≤ 100000) : bin .add (.d (.tup (xs.map D.int))) (.d (.tup (ys.map D.int))) = some (.d (.tup ((xs ++ ys).map D.int))) := by
  rw [add_tup _ _ (by simp only [List.length_map]; show _ ≤ 16777216; omega), List.map_append]
section
variable (q : DS) (h : DOk q) {ls1 ls2 ls3 ls4 : List Int} (n1 : (ls1.length : Int) = q.D) (n2 : (ls2.length : Int) = q.R) (n3 : (ls3.length : Int) = q.R) (n4 : ls4.length = 1)
  (o1 : ∀ l ∈ ls1, 0 ≤ l ∧ l ≤ 9) (o2 : ∀ l ∈ ls2, 0 ≤ l ∧ l ≤ 9) (o3 : ∀ l ∈ ls3, 0 ≤ l ∧ l ≤ 9) (o4 : ∀ l ∈ ls4, 0 ≤ l ∧ l ≤ 9)
abbrev rB (q : DS) (ls1 ls2 ls3 : List Int) : Blk := [(q.S, ls1, q.x0), (q.S + 1, ls2, q.x1), (q.S + 2, ls3, q.x2)]
theorem r_eq (q : DS) (ls1 ls2 ls3 ls4 : List Int) : (As q.S ls1 ++ [Wt.left q.x0]) ++ (As (q.S + 1) ls2 ++ [.left q.x1]) ++ As (q.S + 2) ls3 ++ ([.left q.x2] ++ As (q.S + 3) ls4) = blk (rB q ls1 ls2 ls3) (q.S + 3, ls4) := by
  simp [blk]
theorem ne_of {ls : List Int} {x : Int} (n : (ls.length : Int) = x) (h : 1 ≤ x) : ls ≠ [] := fun z => by
  rw [z] at n
  simp at n
  omega
include h n1 n2 n4 o1 o2 o4
theorem r_bOk {x3 : Int} (n3 : (ls3.length : Int) = x3) (hx : 1 ≤ x3) (o3 : ∀ l ∈ ls3, 0 ≤ l ∧ l ≤ 9) : bOk 0 (rB q ls1 ls2 ls3) (q.S + 3, ls4) := by
  have d0 := h.D0
  have s0 := h.S0
  have s1 := h.S1
  have r0 := h.R0
  refine ⟨s0, ⟨ne_of n1 (by omega), o1⟩, ⟨h.a0.1, Int.le_trans h.a0.2 (by omega)⟩, ?_, ⟨ne_of n2 r0, o2⟩, ⟨h.a1.1, Int.le_trans h.a1.2 (by omega)⟩, ?_, ⟨ne_of n3 hx, o3⟩, ⟨h.a2.1, Int.le_trans h.a2.2 (by omega)⟩, ?_, ?_, fun z => ?_, o4⟩
  · show q.S ≤ q.S + 1; omega
  · show q.S + 1 ≤ q.S + 2; omega
  · show q.S + 2 ≤ q.S + 3; omega
  · show q.S + 3 ≤ 1000000; omega
  · have z : ls4 = [] := z
    rw [z] at n4; cases n4
theorem r_len {x3 : Int} (n3 : (ls3.length : Int) = x3) (hx : x3 ≤ 30) : (blk (rB q ls1 ls2 ls3) (q.S + 3, ls4)).length ≤ 200 := by
  have d1 := h.D1
  have r1 := h.R1
  rw [← r_eq]
  simp only [List.length_append, As_len, List.length_singleton]
  omega
include n3 o3
theorem r_wd : Wd (blk (rB q ls1 ls2 ls3) (q.S + 3, ls4)) :=
  wd_blk (r_bOk q h n1 n2 n4 o1 o2 o4 n3 h.R0 o3) (r_len q h n1 n2 n4 o1 o2 o4 n3 (by have := h.R1; have := h.D1; omega))
theorem r_some : some_ (blk (rB q ls1 ls2 ls3) (q.S + 3, ls4)) = true ∨ (kp (blk (rB q ls1 ls2 ls3) (q.S + 3, ls4))).length = 0 :=
  some_of (r := q.R) (d := q.D) h.R0 (by have := h.D0; omega) (kp_blk _ 0 _ (r_bOk q h n1 n2 n4 o1 o2 o4 n3 h.R0 o3)).2 (right_wb (by have := h.D0; omega) h.R0 h.R1 n1 n2 n3 n4)
theorem r_ex : ex (blk (rB q ls1 ls2 ls3) (q.S + 3, ls4)) = List.replicate (q.D + q.x0).toNat q.S ++ List.replicate (q.R + q.x1).toNat (q.S + 1) ++ List.replicate (q.R + q.x2).toNat (q.S + 2) ++ [q.S + 3] := by
  have e := ex_blk _ 0 _ [] (r_bOk q h n1 n2 n4 o1 o2 o4 n3 h.R0 o3)
  have d0 := h.D0
  have r0 := h.R0
  have y0 := h.a0.1
  have y1 := h.a1.1
  have y2 := h.a2.1
  unfold ex
  rw [e]
  simp only [List.nil_append, List.flatMap_cons, List.flatMap_nil, List.append_nil]
  rw [show ls1.length + q.x0.toNat = (q.D + q.x0).toNat by omega, show ls2.length + q.x1.toNat = (q.R + q.x1).toNat by omega, show ls3.length + q.x2.toNat = (q.R + q.x2).toNat by omega, n4]
  simp [List.append_assoc]
theorem r_exl : ((ex (blk (rB q ls1 ls2 ls3) (q.S + 3, ls4))).length : Int) = q.D + 2 * q.R + 1 + (q.x0 + (q.x1 + (q.x2 + 0))) := by
  have d0 := h.D0
  have r0 := h.R0
  have y0 := h.a0.1
  have y1 := h.a1.1
  have y2 := h.a2.1
  rw [r_ex q h n1 n2 n3 n4 o1 o2 o3 o4]
  simp only [List.length_append, List.length_replicate, List.length_singleton]
  omega
end
section
variable (m : Nat) (hm : 20 ≤ m) (q : DS) (h : DOk q)
include hm
/-- told(many_told(row)) -/
theorem tm (ws : List Wt) (wd : Wd ws) (hs : some_ ws = true ∨ (kp ws).length = 0) (e : E) (ρ : Ev) (he : evE L.T (calls L.T L.ds (m + 2)) e m ρ = .ok (.d (dW ws)) ρ) : evE L.T (calls L.T L.ds (m + 2)) (.told (.call 8 [e])) (m + 2) ρ = .ok (.d (.tup [.int 0, .int (ex ws).length])) ρ := by
  refine toldK (m := m) 0 (by omega) ?_ rfl
  rw [v_call, v_lcons, he, R.bind_ok, v_lnil, R.bind_ok, R.bind_ok]
  exact (t8_ok ws wd hs).at (by omega) (by omega) ρ
theorem ex_small (ws : List Wt) (wd : Wd ws) : (ex ws).length ≤ 100000 := by
  have : ∀ (us : List Wt) (acc : List Int), (∀ w ∈ us, w.ok) → (us.foldl exS acc).length ≤ acc.length + 200 * us.length := by
    intro us
    induction us with
    | nil => intro acc _; simp
    | cons w us ih =>
      intro acc hw
      have a := exS_len acc w (hw w (by simp))
      have b := ih (exS acc w) (fun z hz => hw z (List.mem_cons_of_mem _ hz))
      simp only [List.foldl_cons, List.length_cons]
      omega
  have a := this ws [] wd.ok
  have b := wd.len
  unfold ex
  simp at a
  omega
theorem ts (ws : List Wt) (wd : Wd ws) (hs : some_ ws = true ∨ (kp ws).length = 0) (e : E) (ρ : Ev) (he : evE L.T (calls L.T L.ds (m + 2)) e m ρ = .ok (.d (dW ws)) ρ) : evE L.T (calls L.T L.ds (m + 2)) (.told (.call 9 [e])) (m + 2) ρ = .ok (.d (.tup [.int 0, .tup ((ex ws).map D.int)])) ρ := by
  refine toldK (m := m) 1 (by omega) ?_ (rdy_ints _ (by have := ex_small m hm ws wd; omega))
  rw [v_call, v_lcons, he, R.bind_ok, v_lnil, R.bind_ok, R.bind_ok]
  exact (t9_ok ws wd hs).at (by omega) (by omega) ρ
include h
theorem q8 (a b : Int) (w3 w4 w5 : Option W) (ws : List Wt) (wd : Wd ws) (hs : some_ ws = true ∨ (kp ws).length = 0) (hl : ((ex ws).length : Int) = q.D + 2 * q.R + 1 + (q.x0 + (q.x1 + (q.x2 + 0)))) :
    evS L.T (calls L.T L.ds (m + 2)) (.ite (.cmp .ne (.told (.call 8 [.var 6])) (.tup [.int 0, .bin .add (.bin .add (.bin .add (.var 13) (.bin .mul (.int 2) (.var 1))) (.int 1)) (.blt .sum [.var 2])])) [.ret (.bl false)] []) (m + 2) (bx a b :: Fr q w3 w4 w5 (some (.d (dW ws))) none none none none none none)
      = .ok .nx (bx a b :: Fr q w3 w4 w5 (some (.d (dW ws))) none none none none none none) := by
  have ht := tm m hm ws wd hs (.var 6) (bx a b :: Fr q w3 w4 w5 (some (.d (dW ws))) none none none none none none) rfl
  have h2 : evE L.T (calls L.T L.ds (m + 2)) (.tup [.int 0, .bin .add (.bin .add (.bin .add (.var 13) (.bin .mul (.int 2) (.var 1))) (.int 1)) (.blt .sum [.var 2])]) (m + 2) (bx a b :: Fr q w3 w4 w5 (some (.d (dW ws))) none none none none none none) = .ok (.d (.tup [.int 0, .int (ex ws).length])) (bx a b :: Fr q w3 w4 w5 (some (.d (dW ws))) none none none none none none) := by
    have hsum := sum_ints [q.x0, q.x1, q.x2]
    simp only [List.map_cons, List.map_nil] at hsum
    have hm2 : bin .mul (.d (.int 2)) (.d (.int q.R)) = some (.d (.int (2 * q.R))) := bin_mul_i 2 q.R rfl
    have hsv : [q.x0, q.x1, q.x2].sum = q.x0 + (q.x1 + (q.x2 + 0)) := rfl
    simp only [v_tup, v_lcons, v_lnil, v_int, v_bin, v_blt, v_var, varS, List.getElem?_cons_succ, List.getElem?_cons_zero, R.bind_ok, rs_d, hm2, oko_some, bin_add_i, List.map_cons, List.map_nil, rs, hsum, keeps_d, keeps_nil, Option.map_some, R.opt_some, hl, hsv]
  rw [v_if, v_cmp, ht, R.bind_ok, h2, R.bind_ok, rs_d, ne_same _ (lim_int _ _), okb_some, asT_d, truth_bl, R.opt_some, ifB_f, v_bnil]
theorem q9 (k : Nat) (C : Calls) (a b : Int) (w3 w4 w5 w6 : Option W) : evS L.T C (.set 7 (.bin .add (.bin .add (.bin .add (.bin .mul (.tup [.var 14]) (.bin .add (.var 13) (.ix (.var 2) (.int 0)))) (.bin .mul (.tup [.bin .add (.var 14) (.int 1)]) (.bin .add (.var 1) (.ix (.var 2) (.int 1))))) (.bin .mul (.tup [.bin .add (.var 14) (.int 2)]) (.bin .add (.var 1) (.ix (.var 2) (.int 2))))) (.tup [.bin .add (.var 14) (.int 3)]))) k (bx a b :: Fr q w3 w4 w5 w6 none none none none none none)
    = .ok .nx (bx a b :: Fr q w3 w4 w5 w6 (some (.d (.tup ((List.replicate (q.D + q.x0).toNat q.S ++ List.replicate (q.R + q.x1).toNat (q.S + 1) ++ List.replicate (q.R + q.x2).toNat (q.S + 2) ++ [q.S + 3]).map D.int)))) none none none none none) := by
  have d0 := h.D0
  have d1 := h.D1
  have r0 := h.R0
  have r1 := h.R1
  obtain ⟨y0, y0'⟩ := h.a0
  obtain ⟨y1, y1'⟩ := h.a1
  obtain ⟨y2, y2'⟩ := h.a2
  have i0 : index (.L [.int q.x0, .int q.x1, .int q.x2]) (.d (.int 0)) = some (.int q.x0) := rfl
  have i1 : index (.L [.int q.x0, .int q.x1, .int q.x2]) (.d (.int 1)) = some (.int q.x1) := rfl
  have i2 : index (.L [.int q.x0, .int q.x1, .int q.x2]) (.d (.int 2)) = some (.int q.x2) := rfl
  have m0 := mul1 q.S (q.D + q.x0) (by omega) (by omega)
  have m1 := mul1 (q.S + 1) (q.R + q.x1) (by omega) (by omega)
  have m2 := mul1 (q.S + 2) (q.R + q.x2) (by omega) (by omega)
  have t3 : bin .add (.d (.tup ((List.replicate (q.D + q.x0).toNat q.S ++ List.replicate (q.R + q.x1).toNat (q.S + 1) ++ List.replicate (q.R + q.x2).toNat (q.S + 2)).map D.int))) (.d (.tup [.int (q.S + 3)])) = some (.d (.tup ((List.replicate (q.D + q.x0).toNat q.S ++ List.replicate (q.R + q.x1).toNat (q.S + 1) ++ List.replicate (q.R + q.x2).toNat (q.S + 2) ++ [q.S + 3]).map D.int))) := addI _ [q.S + 3] (by simp; omega)
  have t1 := addI (List.replicate (q.D + q.x0).toNat q.S) (List.replicate (q.R + q.x1).toNat (q.S + 1)) (by simp; omega)
  have t2 := addI (List.replicate (q.D + q.x0).toNat q.S ++ List.replicate (q.R + q.x1).toNat (q.S + 1)) (List.replicate (q.R + q.x2).toNat (q.S + 2)) (by simp; omega)
  simp only [v_set, v_bin, v_tup, v_ix, v_lcons, v_lnil, v_int, v_var, varS, List.getElem?_cons_succ, List.getElem?_cons_zero, R.bind_ok, keeps_d, keeps_nil, Option.map_some, R.opt_some, rs, i0, i1, i2, okd_some, bin_add_i, oko_some, m0, m1, m2, t1, t2, t3, assign_d]
  rfl
theorem q10 (a b : Int) (w3 w4 w5 : Option W) (ws : List Wt) (wd : Wd ws) (hs : some_ ws = true ∨ (kp ws).length = 0) :
    evS L.T (calls L.T L.ds (m + 2)) (.ite (.cmp .ne (.told (.call 9 [.var 6])) (.tup [.int 0, .var 7])) [.ret (.bl false)] []) (m + 2) (bx a b :: Fr q w3 w4 w5 (some (.d (dW ws))) (some (.d (.tup ((ex ws).map D.int)))) none none none none none)
      = .ok .nx (bx a b :: Fr q w3 w4 w5 (some (.d (dW ws))) (some (.d (.tup ((ex ws).map D.int)))) none none none none none) := by
  have ht := ts m hm ws wd hs (.var 6) (bx a b :: Fr q w3 w4 w5 (some (.d (dW ws))) (some (.d (.tup ((ex ws).map D.int)))) none none none none none) rfl
  have h2 : evE L.T (calls L.T L.ds (m + 2)) (.tup [.int 0, .var 7]) (m + 2) (bx a b :: Fr q w3 w4 w5 (some (.d (dW ws))) (some (.d (.tup ((ex ws).map D.int)))) none none none none none) = .ok (.d (.tup [.int 0, .tup ((ex ws).map D.int)])) (bx a b :: Fr q w3 w4 w5 (some (.d (dW ws))) (some (.d (.tup ((ex ws).map D.int)))) none none none none none) := rfl
  rw [v_if, v_cmp, ht, R.bind_ok, h2, R.bind_ok, rs_d, ne_same _ (lim_ints _ 59 (by omega)), okb_some, asT_d, truth_bl, R.opt_some, ifB_f, v_bnil]
theorem q11 (a b : Int) (w3 w4 w5 w6 w7 : Option W) (ha : 0 ≤ a) (hb : 0 ≤ b) : ∃ a' b' o : Int, 0 ≤ a' ∧ 0 ≤ b' ∧ 1 ≤ o ∧ o ≤ 30 ∧ o ≠ q.R ∧ ∀ ss, evB L.T (calls L.T L.ds (m + 2)) ((.set 8 (.bin .add (.int 1) (.call 12 [.var 0, .bin .sub (.var 13) (.int 1)]))) :: (.set 8 (.ite (.cmp .ne (.var 8) (.var 1)) (.var 8) (.ite (.cmp .gt (.var 1) (.int 1)) (.bin .sub (.var 1) (.int 1)) (.bin .add (.var 1) (.int 1))))) :: ss) (m + 2) (bx a b :: Fr q w3 w4 w5 w6 w7 none none none none none)
    = evB L.T (calls L.T L.ds (m + 2)) ss (m + 2) (bx a' b' :: Fr q w3 w4 w5 w6 w7 (some (.d (.int o))) none none none none) := by
  have d0 := h.D0
  have d1 := h.D1
  have r0 := h.R0
  have r1 := h.R1
  obtain ⟨a1, b1, r, x1, x2, x3, x4, e1⟩ := dr (m + 2) (by omega) a b (q.D - 1) ha hb (by omega) (by omega) (Fr q w3 w4 w5 w6 w7 none none none none none) (.bin .sub (.var 13) (.int 1)) (fun _ => rfl)
  have f1 : evS L.T (calls L.T L.ds (m + 2)) (.set 8 (.bin .add (.int 1) (.call 12 [.var 0, .bin .sub (.var 13) (.int 1)]))) (m + 2) (bx a b :: Fr q w3 w4 w5 w6 w7 none none none none none) = .ok .nx (bx a1 b1 :: Fr q w3 w4 w5 w6 w7 (some (.d (.int (1 + r)))) none none none none) := by
    rw [v_set, v_bin, v_int, R.bind_ok, e1]
    rfl
  by_cases c : 1 + r = q.R
  · by_cases c1 : 1 < q.R
    · refine ⟨a1, b1, q.R - 1, x1, x2, by omega, by omega, by omega, fun ss => ?_⟩
      have f2 : evS L.T (calls L.T L.ds (m + 2)) (.set 8 (.ite (.cmp .ne (.var 8) (.var 1)) (.var 8) (.ite (.cmp .gt (.var 1) (.int 1)) (.bin .sub (.var 1) (.int 1)) (.bin .add (.var 1) (.int 1))))) (m + 2) (bx a1 b1 :: Fr q w3 w4 w5 w6 w7 (some (.d (.int (1 + r)))) none none none none) = .ok .nx (bx a1 b1 :: Fr q w3 w4 w5 w6 w7 (some (.d (.int (q.R - 1)))) none none none none) := by
        simp [varS, c, c1, store, free]
      rw [evB_nx f1, evB_nx f2]
    · refine ⟨a1, b1, q.R + 1, x1, x2, by omega, by omega, by omega, fun ss => ?_⟩
      have f2 : evS L.T (calls L.T L.ds (m + 2)) (.set 8 (.ite (.cmp .ne (.var 8) (.var 1)) (.var 8) (.ite (.cmp .gt (.var 1) (.int 1)) (.bin .sub (.var 1) (.int 1)) (.bin .add (.var 1) (.int 1))))) (m + 2) (bx a1 b1 :: Fr q w3 w4 w5 w6 w7 (some (.d (.int (1 + r)))) none none none none) = .ok .nx (bx a1 b1 :: Fr q w3 w4 w5 w6 w7 (some (.d (.int (q.R + 1)))) none none none none) := by
        simp [varS, c, c1, store, free]
      rw [evB_nx f1, evB_nx f2]
  · refine ⟨a1, b1, 1 + r, x1, x2, by omega, by omega, c, fun ss => ?_⟩
    have f2 : evS L.T (calls L.T L.ds (m + 2)) (.set 8 (.ite (.cmp .ne (.var 8) (.var 1)) (.var 8) (.ite (.cmp .gt (.var 1) (.int 1)) (.bin .sub (.var 1) (.int 1)) (.bin .add (.var 1) (.int 1))))) (m + 2) (bx a1 b1 :: Fr q w3 w4 w5 w6 w7 (some (.d (.int (1 + r)))) none none none none) = .ok .nx (bx a1 b1 :: Fr q w3 w4 w5 w6 w7 (some (.d (.int (1 + r)))) none none none none) := by
      have c' : ((1 + r) == q.R) = false := by simpa using c
      simp [varS, c', store, free]
    rw [evB_nx f1, evB_nx f2]
theorem q13 (a b : Int) (w3 w4 w5 w6 w7 w8 : Option W) (ha : 0 ≤ a) (hb : 0 ≤ b) : ∃ a' b' far : Int, 0 ≤ a' ∧ 0 ≤ b' ∧ q.S + 100 ≤ far ∧ far ≤ q.S + 199 ∧ evS L.T (calls L.T L.ds (m + 2)) (.set 9 (.bin .add (.bin .add (.var 14) (.int 100)) (.call 12 [.var 0, .int 100]))) (m + 2) (bx a b :: Fr q w3 w4 w5 w6 w7 w8 none none none none)
    = .ok .nx (bx a' b' :: Fr q w3 w4 w5 w6 w7 w8 (some (.d (.int far))) none none none) := by
  obtain ⟨a1, b1, r, x1, x2, x3, x4, e1⟩ := dr (m + 2) (by omega) a b 100 ha hb (by omega) (by omega) (Fr q w3 w4 w5 w6 w7 w8 none none none none) (.int 100) (fun _ => rfl)
  refine ⟨a1, b1, q.S + 100 + r, x1, x2, by omega, by omega, ?_⟩
  have e2 : evE L.T (calls L.T L.ds (m + 2)) (.bin .add (.var 14) (.int 100)) (m + 2) (bx a b :: Fr q w3 w4 w5 w6 w7 w8 none none none none) = .ok (.d (.int (q.S + 100))) (bx a b :: Fr q w3 w4 w5 w6 w7 w8 none none none none) := rfl
  rw [v_set, v_bin, e2, R.bind_ok, e1]
  rfl
end
end Ev.K95
/-! P95k: the wrong rows; the law. -/
namespace Ev.K95
section
variable (m : Nat) (hm : 20 ≤ m) (q : DS) (h : DOk q)
include hm h
/-- a row that no bucket writes -/
def Bad (ws : List Wt) : Prop := Wd ws ∧ some_ ws = false ∧ 0 < (kp ws).length
theorem q14 (a b : Int) (ls1 ls2 ls4 : List Int) (n1 : (ls1.length : Int) = q.D) (n2 : (ls2.length : Int) = q.R) (n4 : ls4.length = 1) (o1 : ∀ l ∈ ls1, 0 ≤ l ∧ l ≤ 9) (o2 : ∀ l ∈ ls2, 0 ≤ l ∧ l ≤ 9) (o4 : ∀ l ∈ ls4, 0 ≤ l ∧ l ≤ 9)
    (o far : Int) (ho : 1 ≤ o) (ho2 : o ≤ 30) (hne : o ≠ q.R) (hf : q.S + 100 ≤ far) (hf2 : far ≤ q.S + 199) (w6 w7 : Option W) (ha : 0 ≤ a) (hb : 0 ≤ b) :
    ∃ (a' b' : Int) (W0 W1 : List Wt), 0 ≤ a' ∧ 0 ≤ b' ∧ Bad W0 ∧ Bad W1 ∧ evS L.T (calls L.T L.ds (m + 2)) (.set 10 (.lst [.bin .add (.bin .add (.bin .add (.var 3) (.var 4)) (.call 16 [.var 0, .bin .add (.var 14) (.int 2), .var 8])) (.var 5), .bin .add (.var 3) (.call 16 [.var 0, .var 9, .bin .add (.var 13) (.int 1)])])) (m + 2)
      (bx a b :: Fr q (some (.d (dW (As q.S ls1 ++ [.left q.x0])))) (some (.d (dW (As (q.S + 1) ls2 ++ [.left q.x1])))) (some (.d (dW ([.left q.x2] ++ As (q.S + 3) ls4)))) w6 w7 (some (.d (.int o))) (some (.d (.int far))) none none none)
    = .ok .nx (bx a' b' :: Fr q (some (.d (dW (As q.S ls1 ++ [.left q.x0])))) (some (.d (dW (As (q.S + 1) ls2 ++ [.left q.x1])))) (some (.d (dW ([.left q.x2] ++ As (q.S + 3) ls4)))) w6 w7 (some (.d (.int o))) (some (.d (.int far))) (some (.L false [dW W0, dW W1])) none none) := by
  have d0 := h.D0
  have d1 := h.D1
  have r0 := h.R0
  have r1 := h.R1
  have s0 := h.S0
  have s1 := h.S1
  obtain ⟨y0, y0'⟩ := h.a0
  obtain ⟨a1, b1, ls5, x1, x2, x3, x4, e1⟩ := sm (m + 2) (by omega) a b (q.S + 2) o.toNat (by omega) ha hb (Fr q (some (.d (dW (As q.S ls1 ++ [.left q.x0])))) (some (.d (dW (As (q.S + 1) ls2 ++ [.left q.x1])))) (some (.d (dW ([.left q.x2] ++ As (q.S + 3) ls4)))) w6 w7 (some (.d (.int o))) (some (.d (.int far))) none none none) (.bin .add (.var 14) (.int 2)) (.var 8) (fun _ => rfl) (fun _ => by
    rw [show ((o.toNat : Nat) : Int) = o by omega]; rfl)
  obtain ⟨a2, b2, ls6, z1, z2, z3, z4, e2⟩ := sm (m + 2) (by omega) a1 b1 far (q.D + 1).toNat (by omega) x1 x2 (Fr q (some (.d (dW (As q.S ls1 ++ [.left q.x0])))) (some (.d (dW (As (q.S + 1) ls2 ++ [.left q.x1])))) (some (.d (dW ([.left q.x2] ++ As (q.S + 3) ls4)))) w6 w7 (some (.d (.int o))) (some (.d (.int far))) none none none) (.var 9) (.bin .add (.var 13) (.int 1)) (fun _ => rfl) (fun _ => by
    rw [show (((q.D + 1).toNat : Nat) : Int) = q.D + 1 by omega]; rfl)
  have n5 : (ls5.length : Int) = o := by omega
  have n6 : (ls6.length : Int) = q.D + 1 := by omega
  have hW1 : (As q.S ls1 ++ [Wt.left q.x0]) ++ As far ls6 = blk [(q.S, ls1, q.x0)] (far, ls6) := by simp [blk]
  have b0 : bOk 0 [(q.S, ls1, q.x0)] (far, ls6) := ⟨s0, ⟨ne_of n1 (by omega), o1⟩, ⟨y0, Int.le_trans y0' (by omega)⟩, by show q.S ≤ far; omega, by show far ≤ 1000000; omega, ne_of n6 (by omega), z4⟩
  have b3 := r_bOk q h n1 n2 n4 o1 o2 o4 n5 ho x4
  refine ⟨a2, b2, blk (rB q ls1 ls2 ls5) (q.S + 3, ls4), blk [(q.S, ls1, q.x0)] (far, ls6), z1, z2, ⟨wd_blk b3 (r_len q h n1 n2 n4 o1 o2 o4 n5 ho2), some_no fun r' d' h1 h2 => ?_, kp_pos b3⟩, ⟨wd_blk b0 ?_, some_no fun r' d' h1 h2 => ?_, kp_pos b0⟩, ?_⟩
  · exact wrong0 h1 h2 (ne_of n1 (by omega)) (ne_of n2 (by omega)) (ne_of n5 ho) n2 n5 hne
  · rw [← hW1]
    simp only [List.length_append, As_len, List.length_singleton]
    omega
  · exact wrong1 h1 h2 (ne_of n1 (by omega)) n1 (ne_of n6 (by omega)) n6
  · rw [← r_eq, ← hW1]
    have l1 : (As q.S ls1 ++ [Wt.left q.x0]).length ≤ 100 := by simp only [List.length_append, As_len, List.length_singleton]; omega
    have l2 : (As (q.S + 1) ls2 ++ [Wt.left q.x1]).length ≤ 100 := by simp only [List.length_append, As_len, List.length_singleton]; omega
    have l3 : ([Wt.left q.x2] ++ As (q.S + 3) ls4).length ≤ 100 := by simp only [List.length_append, As_len, List.length_singleton]; omega
    generalize As q.S ls1 ++ [Wt.left q.x0] = f1 at *
    generalize As (q.S + 1) ls2 ++ [Wt.left q.x1] = f2 at *
    generalize [Wt.left q.x2] ++ As (q.S + 3) ls4 = f3 at *
    have g1 : evE L.T (calls L.T L.ds (m + 2)) (.bin .add (.var 3) (.var 4)) (m + 2) (bx a b :: Fr q (some (.d (dW f1))) (some (.d (dW f2))) (some (.d (dW f3))) w6 w7 (some (.d (.int o))) (some (.d (.int far))) none none none) = .ok (.d (dW (f1 ++ f2))) (bx a b :: Fr q (some (.d (dW f1))) (some (.d (dW f2))) (some (.d (dW f3))) w6 w7 (some (.d (.int o))) (some (.d (.int far))) none none none) := by
      rw [v_bin]
      show oko (bin .add (.d (dW f1)) (.d (dW f2))) _ = _
      rw [addW _ _ (by omega)]; rfl
    have g2 : evE L.T (calls L.T L.ds (m + 2)) (.bin .add (.bin .add (.bin .add (.var 3) (.var 4)) (.call 16 [.var 0, .bin .add (.var 14) (.int 2), .var 8])) (.var 5)) (m + 2) (bx a b :: Fr q (some (.d (dW f1))) (some (.d (dW f2))) (some (.d (dW f3))) w6 w7 (some (.d (.int o))) (some (.d (.int far))) none none none) = .ok (.d (dW (f1 ++ f2 ++ As (q.S + 2) ls5 ++ f3))) (bx a1 b1 :: Fr q (some (.d (dW f1))) (some (.d (dW f2))) (some (.d (dW f3))) w6 w7 (some (.d (.int o))) (some (.d (.int far))) none none none) := by
      rw [v_bin, v_bin, g1, R.bind_ok, e1, R.bind_ok, rs_d, rs_d, addW _ _ (by simp only [List.length_append, As_len]; omega), oko_some, R.bind_ok, v_var]
      show oko (bin .add (.d (dW (f1 ++ f2 ++ As (q.S + 2) ls5))) (.d (dW f3))) _ = _
      rw [addW _ _ (by simp only [List.length_append, As_len] at *; omega)]; rfl
    have g3 : evE L.T (calls L.T L.ds (m + 2)) (.bin .add (.var 3) (.call 16 [.var 0, .var 9, .bin .add (.var 13) (.int 1)])) (m + 2) (bx a1 b1 :: Fr q (some (.d (dW f1))) (some (.d (dW f2))) (some (.d (dW f3))) w6 w7 (some (.d (.int o))) (some (.d (.int far))) none none none) = .ok (.d (dW (f1 ++ As far ls6))) (bx a2 b2 :: Fr q (some (.d (dW f1))) (some (.d (dW f2))) (some (.d (dW f3))) w6 w7 (some (.d (.int o))) (some (.d (.int far))) none none none) := by
      rw [v_bin, v_var]
      show (R.bind (R.ok (O.d (dW f1)) _) _) = _
      rw [R.bind_ok, e2, R.bind_ok, rs_d, rs_d, addW _ _ (by simp only [As_len]; omega)]; rfl
    rw [v_set, v_lst, v_lcons, g2, R.bind_ok, v_lcons, g3, R.bind_ok, v_lnil]
    rfl
theorem q15 (a b : Int) (ls1 : List Int) (n1 : (ls1.length : Int) = q.D) (o1 : ∀ l ∈ ls1, 0 ≤ l ∧ l ≤ 9) (far : Int) (hf : q.S + 100 ≤ far) (hf2 : far ≤ q.S + 199) (w4 w5 w6 w7 w8 : Option W) (W0 W1 : List Wt) (ha : 0 ≤ a) (hb : 0 ≤ b) :
    ∃ (a' b' : Int) (W2 : List Wt), 0 ≤ a' ∧ 0 ≤ b' ∧ Bad W2 ∧ evS L.T (calls L.T L.ds (m + 2)) (.ex (.app 10 (.bin .add (.bin .add (.bin .add (.var 3) (.call 16 [.var 0, .var 9, .bin .sub (.var 13) (.int 1)])) (.tup [.tup [.str 3, .int 1]])) (.call 16 [.var 0, .bin .add (.var 9) (.int 1), .int 1])))) (m + 2)
      (bx a b :: Fr q (some (.d (dW (As q.S ls1 ++ [.left q.x0])))) w4 w5 w6 w7 w8 (some (.d (.int far))) (some (.L false [dW W0, dW W1])) none none)
    = .ok .nx (bx a' b' :: Fr q (some (.d (dW (As q.S ls1 ++ [.left q.x0])))) w4 w5 w6 w7 w8 (some (.d (.int far))) (some (.L false [dW W0, dW W1, dW W2])) none none) := by
  have d0 := h.D0
  have d1 := h.D1
  have s0 := h.S0
  have s1 := h.S1
  obtain ⟨y0, y0'⟩ := h.a0
  obtain ⟨a1, b1, ls5, x1, x2, x3, x4, e1⟩ := sm (m + 2) (by omega) a b far (q.D - 1).toNat (by omega) ha hb (Fr q (some (.d (dW (As q.S ls1 ++ [.left q.x0])))) w4 w5 w6 w7 w8 (some (.d (.int far))) (some (.L false [dW W0, dW W1])) none none) (.var 9) (.bin .sub (.var 13) (.int 1)) (fun _ => rfl) (fun _ => by
    rw [show (((q.D - 1).toNat : Nat) : Int) = q.D - 1 by omega]; rfl)
  obtain ⟨a2, b2, ls6, z1, z2, z3, z4, e2⟩ := sm (m + 2) (by omega) a1 b1 (far + 1) 1 (by omega) x1 x2 (Fr q (some (.d (dW (As q.S ls1 ++ [.left q.x0])))) w4 w5 w6 w7 w8 (some (.d (.int far))) (some (.L false [dW W0, dW W1])) none none) (.bin .add (.var 9) (.int 1)) (.int 1) (fun _ => rfl) (fun _ => rfl)
  have n5 : (ls5.length : Int) = q.D - 1 := by omega
  have hW2 : (As q.S ls1 ++ [Wt.left q.x0]) ++ As far ls5 ++ [.left 1] ++ As (far + 1) ls6 = blk [(q.S, ls1, q.x0), (far, ls5, 1)] (far + 1, ls6) := by simp [blk]
  have b0 : bOk 0 [(q.S, ls1, q.x0), (far, ls5, 1)] (far + 1, ls6) := ⟨s0, ⟨ne_of n1 (by omega), o1⟩, ⟨y0, Int.le_trans y0' (by omega)⟩, by show q.S ≤ far; omega, ⟨ne_of n5 (by omega), x4⟩, ⟨by show (1 : Int) ≤ 1; omega, by show (1 : Int) ≤ 200; omega⟩, by show far ≤ far + 1; omega, by show far + 1 ≤ 1000000; omega, fun z => (by have z : ls6 = [] := z; rw [z] at z3; cases z3), z4⟩
  refine ⟨a2, b2, blk [(q.S, ls1, q.x0), (far, ls5, 1)] (far + 1, ls6), z1, z2, ⟨wd_blk b0 ?_, some_no fun r' d' h1 h2 => ?_, kp_pos b0⟩, ?_⟩
  · rw [← hW2]
    simp only [List.length_append, As_len, List.length_singleton]
    omega
  · exact wrong2 h1 h2 (ne_of n1 (by omega)) n1 (ne_of n5 (by omega)) n5 (by omega) 1
  · rw [← hW2]
    have l1 : (As q.S ls1 ++ [Wt.left q.x0]).length ≤ 100 := by simp only [List.length_append, As_len, List.length_singleton]; omega
    generalize As q.S ls1 ++ [Wt.left q.x0] = f1 at *
    have g0 : evE L.T (calls L.T L.ds (m + 2)) (.var 3) (m + 2) (bx a b :: Fr q (some (.d (dW f1))) w4 w5 w6 w7 w8 (some (.d (.int far))) (some (.L false [dW W0, dW W1])) none none) = .ok (.d (dW f1)) (bx a b :: Fr q (some (.d (dW f1))) w4 w5 w6 w7 w8 (some (.d (.int far))) (some (.L false [dW W0, dW W1])) none none) := rfl
    have g1 : evE L.T (calls L.T L.ds (m + 2)) (.bin .add (.var 3) (.call 16 [.var 0, .var 9, .bin .sub (.var 13) (.int 1)])) (m + 2) (bx a b :: Fr q (some (.d (dW f1))) w4 w5 w6 w7 w8 (some (.d (.int far))) (some (.L false [dW W0, dW W1])) none none) = .ok (.d (dW (f1 ++ As far ls5))) (bx a1 b1 :: Fr q (some (.d (dW f1))) w4 w5 w6 w7 w8 (some (.d (.int far))) (some (.L false [dW W0, dW W1])) none none) := by
      rw [v_bin, g0, R.bind_ok, e1, R.bind_ok, rs_d, rs_d, addW _ _ (by simp only [As_len]; omega)]; rfl
    have g2 : evE L.T (calls L.T L.ds (m + 2)) (.tup [.tup [.str 3, .int 1]]) (m + 2) (bx a1 b1 :: Fr q (some (.d (dW f1))) w4 w5 w6 w7 w8 (some (.d (.int far))) (some (.L false [dW W0, dW W1])) none none) = .ok (.d (dW [.left 1])) (bx a1 b1 :: Fr q (some (.d (dW f1))) w4 w5 w6 w7 w8 (some (.d (.int far))) (some (.L false [dW W0, dW W1])) none none) := rfl
    have g3 : evE L.T (calls L.T L.ds (m + 2)) (.bin .add (.bin .add (.bin .add (.var 3) (.call 16 [.var 0, .var 9, .bin .sub (.var 13) (.int 1)])) (.tup [.tup [.str 3, .int 1]])) (.call 16 [.var 0, .bin .add (.var 9) (.int 1), .int 1])) (m + 2) (bx a b :: Fr q (some (.d (dW f1))) w4 w5 w6 w7 w8 (some (.d (.int far))) (some (.L false [dW W0, dW W1])) none none)
        = .ok (.d (dW (f1 ++ As far ls5 ++ [.left 1] ++ As (far + 1) ls6))) (bx a2 b2 :: Fr q (some (.d (dW f1))) w4 w5 w6 w7 w8 (some (.d (.int far))) (some (.L false [dW W0, dW W1])) none none) := by
      rw [v_bin, v_bin, g1, R.bind_ok, g2, R.bind_ok, rs_d, rs_d, addW _ _ (by simp only [List.length_append, As_len, List.length_singleton]; omega), oko_some, R.bind_ok, e2, R.bind_ok, rs_d, rs_d, addW _ _ (by simp only [List.length_append, As_len, List.length_singleton]; omega)]; rfl
    rw [v_ex, v_app]
    show (R.bind (R.bind (evE L.T (calls L.T L.ds (m + 2)) _ (m + 2) _) _) _) = _
    rw [g3]
    rfl
/-- a wrong row, told by one of the two -/
theorem q16 (a b : Int) (w3 w4 w5 w6 w7 w8 w9 : Option W) (W0 W1 W2 : List Wt) (h0 : Bad W0) (h1 : Bad W1) (h2 : Bad W2) (ha : 0 ≤ a) (hb : 0 ≤ b) : ∃ (a' b' : Int) (w11 w12 : Option W), 0 ≤ a' ∧ 0 ≤ b' ∧ ∀ ss, evB L.T (calls L.T L.ds (m + 2)) ((.set 11 (.ix (.var 10) (.call 12 [.var 0, .int 3]))) :: (.set 12 (.fns [8, 9] (.call 12 [.var 0, .int 2]))) :: (.ite (.cmp .ne (.told (.callv 12 [.var 11])) (.tup [.int 1, .str 2])) [.ret (.bl false)] []) :: ss) (m + 2) (bx a b :: Fr q w3 w4 w5 w6 w7 w8 w9 (some (.L false [dW W0, dW W1, dW W2])) none none)
    = evB L.T (calls L.T L.ds (m + 2)) ss (m + 2) (bx a' b' :: Fr q w3 w4 w5 w6 w7 w8 w9 (some (.L false [dW W0, dW W1, dW W2])) w11 w12) := by
  obtain ⟨a1, b1, r1, x1, x2, x3, x4, e1⟩ := dr (m + 2) (by omega) a b 3 ha hb (by omega) (by omega) (Fr q w3 w4 w5 w6 w7 w8 w9 (some (.L false [dW W0, dW W1, dW W2])) none none) (.int 3) (fun _ => rfl)
  have hx : ∃ ws, Bad ws ∧ index (.L [dW W0, dW W1, dW W2]) (.d (.int r1)) = some (dW ws) := by
    have : r1 = 0 ∨ r1 = 1 ∨ r1 = 2 := by omega
    rcases this with rfl | rfl | rfl
    · exact ⟨W0, h0, rfl⟩
    · exact ⟨W1, h1, rfl⟩
    · exact ⟨W2, h2, rfl⟩
  obtain ⟨ws, hw, hi⟩ := hx
  obtain ⟨a2, b2, r2, z1, z2, z3, z4, e2⟩ := dr (m + 2) (by omega) a1 b1 2 x1 x2 (by omega) (by omega) (Fr q w3 w4 w5 w6 w7 w8 w9 (some (.L false [dW W0, dW W1, dW W2])) (some (.d (dW ws))) none) (.int 2) (fun _ => rfl)
  have hf : ∃ f, (f = 8 ∨ f = 9) ∧ ∀ ρ, fnS [8, 9] (.d (.int r2)) ρ = .ok (.F f) ρ := by
    have : r2 = 0 ∨ r2 = 1 := by omega
    rcases this with rfl | rfl
    · exact ⟨8, .inl rfl, fun _ => rfl⟩
    · exact ⟨9, .inr rfl, fun _ => rfl⟩
  obtain ⟨f, hf1, hf2⟩ := hf
  have f1 : evS L.T (calls L.T L.ds (m + 2)) (.set 11 (.ix (.var 10) (.call 12 [.var 0, .int 3]))) (m + 2) (bx a b :: Fr q w3 w4 w5 w6 w7 w8 w9 (some (.L false [dW W0, dW W1, dW W2])) none none) = .ok .nx (bx a1 b1 :: Fr q w3 w4 w5 w6 w7 w8 w9 (some (.L false [dW W0, dW W1, dW W2])) (some (.d (dW ws))) none) := by
    have hv : evE L.T (calls L.T L.ds (m + 2)) (.var 10) (m + 2) (bx a b :: Fr q w3 w4 w5 w6 w7 w8 w9 (some (.L false [dW W0, dW W1, dW W2])) none none) = .ok (.bor 10) (bx a b :: Fr q w3 w4 w5 w6 w7 w8 w9 (some (.L false [dW W0, dW W1, dW W2])) none none) := rfl
    rw [v_set, v_ix, hv, R.bind_ok, e1, R.bind_ok]
    show (R.bind (okd (index (.L [dW W0, dW W1, dW W2]) (.d (.int r1))) _) _) = _
    rw [hi]
    rfl
  have f2 : evS L.T (calls L.T L.ds (m + 2)) (.set 12 (.fns [8, 9] (.call 12 [.var 0, .int 2]))) (m + 2) (bx a1 b1 :: Fr q w3 w4 w5 w6 w7 w8 w9 (some (.L false [dW W0, dW W1, dW W2])) (some (.d (dW ws))) none) = .ok .nx (bx a2 b2 :: Fr q w3 w4 w5 w6 w7 w8 w9 (some (.L false [dW W0, dW W1, dW W2])) (some (.d (dW ws))) (some (.F f))) := by
    rw [v_set, v_fns, e2, R.bind_ok, hf2]
    rfl
  have hc : evE L.T (calls L.T L.ds (m + 2)) (.callv 12 [.var 11]) m (bx a2 b2 :: Fr q w3 w4 w5 w6 w7 w8 w9 (some (.L false [dW W0, dW W1, dW W2])) (some (.d (dW ws))) (some (.F f))) = .exc 0 (bx a2 b2 :: Fr q w3 w4 w5 w6 w7 w8 w9 (some (.L false [dW W0, dW W1, dW W2])) (some (.d (dW ws))) (some (.F f))) := by
    rw [v_callv]
    show callF (calls L.T L.ds (m + 2)) m f [.d (dW ws)] _ = _
    rcases hf1 with rfl | rfl
    · exact (t8_bad ws hw.1 hw.2.1 hw.2.2).at (by omega) (by omega) _
    · exact (t9_bad ws hw.1 hw.2.1 hw.2.2).at (by omega) (by omega) _
  have ht := told_exc L.T (calls L.T L.ds (m + 2)) _ m _ _ 0 hc (by decide)
  have hwd : L.T.word 0 = 2 := rfl
  rw [hwd] at ht
  have f3 : evS L.T (calls L.T L.ds (m + 2)) (.ite (.cmp .ne (.told (.callv 12 [.var 11])) (.tup [.int 1, .str 2])) [.ret (.bl false)] []) (m + 2) (bx a2 b2 :: Fr q w3 w4 w5 w6 w7 w8 w9 (some (.L false [dW W0, dW W1, dW W2])) (some (.d (dW ws))) (some (.F f))) = .ok .nx (bx a2 b2 :: Fr q w3 w4 w5 w6 w7 w8 w9 (some (.L false [dW W0, dW W1, dW W2])) (some (.d (dW ws))) (some (.F f))) := by
    have hs : same (.tup [.int 1, .str 2]) (.tup [.int 1, .str 2]) = some true := rfl
    rw [v_if, v_cmp, ht, R.bind_ok]
    simp only [v_tup, v_lcons, v_lnil, v_int, v_str, R.bind_ok, keeps_d, keeps_nil, Option.map_some, R.opt_some, rs_d, cmp_ne_d, hs, Bool.not_true, okb_some, asT_d, truth_bl, ifB_f, v_bnil]
  exact ⟨a2, b2, _, _, z1, z2, fun ss => by rw [evB_nx f1, evB_nx f2, evB_nx f3]⟩
theorem q19 (a b : Int) (ls1 : List Int) (n1 : (ls1.length : Int) = q.D) (o1 : ∀ l ∈ ls1, 0 ≤ l ∧ l ≤ 9) (far : Int) (hf : q.S + 100 ≤ far) (hf2 : far ≤ q.S + 199) (w4 w5 w6 w7 w8 w10 w11 w12 : Option W) (ha : 0 ≤ a) (hb : 0 ≤ b) :
    ∃ a' b' : Int, evS L.T (calls L.T L.ds (m + 2)) (.ret (.cmp .eq (.told (.call 8 [.bin .add (.var 3) (.call 16 [.var 0, .var 9, .var 13])])) (.tup [.int 0, .bin .add (.bin .mul (.int 2) (.var 13)) (.ix (.var 2) (.int 0))]))) (m + 2) (bx a b :: Fr q (some (.d (dW (As q.S ls1 ++ [.left q.x0])))) w4 w5 w6 w7 w8 (some (.d (.int far))) w10 w11 w12)
      = .ok (.ret (.d (.bl true))) (bx a' b' :: Fr q (some (.d (dW (As q.S ls1 ++ [.left q.x0])))) w4 w5 w6 w7 w8 (some (.d (.int far))) w10 w11 w12) := by
  have d0 := h.D0
  have d1 := h.D1
  have s0 := h.S0
  have s1 := h.S1
  obtain ⟨y0, y0'⟩ := h.a0
  obtain ⟨a1, b1, ls5, x1, x2, x3, x4, e1⟩ : ∃ (a' b' : Int) (ls : List Int), 0 ≤ a' ∧ 0 ≤ b' ∧ ls.length = q.D.toNat ∧ (∀ l ∈ ls, 0 ≤ l ∧ l ≤ 9) ∧ evE L.T (calls L.T L.ds (m + 2)) (.call 16 [.var 0, .var 9, .var 13]) m (bx a b :: Fr q (some (.d (dW (As q.S ls1 ++ [.left q.x0])))) w4 w5 w6 w7 w8 (some (.d (.int far))) w10 w11 w12) = .ok (.d (dW (As far ls))) (bx a' b' :: Fr q (some (.d (dW (As q.S ls1 ++ [.left q.x0])))) w4 w5 w6 w7 w8 (some (.d (.int far))) w10 w11 w12) := by
    obtain ⟨a', b', ls, x1, x2, x3, x4, e⟩ := t16 (m := m) (by omega) a b far q.D.toNat (by omega) ha hb 0 true (bx a b :: Fr q (some (.d (dW (As q.S ls1 ++ [.left q.x0])))) w4 w5 w6 w7 w8 (some (.d (.int far))) w10 w11 w12) rfl
    refine ⟨a', b', ls, x1, x2, x3, x4, ?_⟩
    rw [show ((q.D.toNat : Nat) : Int) = q.D by omega] at e
    rw [v_call]
    show callF (calls L.T L.ds (m + 2)) m 16 [.bor 0, .d (.int far), .d (.int q.D)] _ = _
    rw [callF_le _ _ (by omega)]
    exact e
  have n5 : (ls5.length : Int) = q.D := by omega
  have hW : (As q.S ls1 ++ [Wt.left q.x0]) ++ As far ls5 = blk [(q.S, ls1, q.x0)] (far, ls5) := by simp [blk]
  have b0 : bOk 0 [(q.S, ls1, q.x0)] (far, ls5) := ⟨s0, ⟨ne_of n1 (by omega), o1⟩, ⟨y0, Int.le_trans y0' (by omega)⟩, by show q.S ≤ far; omega, by show far ≤ 1000000; omega, ne_of n5 (by omega), x4⟩
  have wd : Wd (blk [(q.S, ls1, q.x0)] (far, ls5)) := wd_blk b0 (by
    rw [← hW]
    simp only [List.length_append, As_len, List.length_singleton]
    omega)
  have hs : some_ (blk [(q.S, ls1, q.x0)] (far, ls5)) = true ∨ (kp (blk [(q.S, ls1, q.x0)] (far, ls5))).length = 0 :=
    some_of (r := 1) (d := q.D) (by omega) (by omega) (kp_blk _ 0 _ b0).2 (final_wb (by omega) (ne_of n1 (by omega)) n1 (ne_of n5 (by omega)) n5 (by omega))
  have hx := ex_blk _ 0 _ [] b0
  have hxl : ((ex (blk [(q.S, ls1, q.x0)] (far, ls5))).length : Int) = 2 * q.D + q.x0 := by
    unfold ex
    rw [hx]
    simp only [List.nil_append, List.flatMap_cons, List.flatMap_nil, List.append_nil, List.length_append, List.length_replicate]
    omega
  have he : evE L.T (calls L.T L.ds (m + 2)) (.bin .add (.var 3) (.call 16 [.var 0, .var 9, .var 13])) m (bx a b :: Fr q (some (.d (dW (As q.S ls1 ++ [.left q.x0])))) w4 w5 w6 w7 w8 (some (.d (.int far))) w10 w11 w12) = .ok (.d (dW (blk [(q.S, ls1, q.x0)] (far, ls5)))) (bx a1 b1 :: Fr q (some (.d (dW (As q.S ls1 ++ [.left q.x0])))) w4 w5 w6 w7 w8 (some (.d (.int far))) w10 w11 w12) := by
    have l1 : (As q.S ls1 ++ [Wt.left q.x0]).length ≤ 100 := by simp only [List.length_append, As_len, List.length_singleton]; omega
    rw [← hW]
    generalize As q.S ls1 ++ [Wt.left q.x0] = f1 at *
    have g0 : evE L.T (calls L.T L.ds (m + 2)) (.var 3) m (bx a b :: Fr q (some (.d (dW f1))) w4 w5 w6 w7 w8 (some (.d (.int far))) w10 w11 w12) = .ok (.d (dW f1)) (bx a b :: Fr q (some (.d (dW f1))) w4 w5 w6 w7 w8 (some (.d (.int far))) w10 w11 w12) := rfl
    rw [v_bin, g0, R.bind_ok, e1, R.bind_ok, rs_d, rs_d, addW _ _ (by simp only [As_len]; omega)]; rfl
  have ht : evE L.T (calls L.T L.ds (m + 2)) (.told (.call 8 [.bin .add (.var 3) (.call 16 [.var 0, .var 9, .var 13])])) (m + 2) (bx a b :: Fr q (some (.d (dW (As q.S ls1 ++ [.left q.x0])))) w4 w5 w6 w7 w8 (some (.d (.int far))) w10 w11 w12) = .ok (.d (.tup [.int 0, .int (ex (blk [(q.S, ls1, q.x0)] (far, ls5))).length])) (bx a1 b1 :: Fr q (some (.d (dW (As q.S ls1 ++ [.left q.x0])))) w4 w5 w6 w7 w8 (some (.d (.int far))) w10 w11 w12) := by
    refine told_at (sx := 4) (T := L.T) (ds := L.ds) rfl (Nat.le_refl _) 0 (by omega) ?_ rfl
    rw [v_call, v_lcons, he, R.bind_ok, v_lnil, R.bind_ok, R.bind_ok]
    exact (t8_ok _ wd hs).at (by omega) (by omega) _
  refine ⟨a1, b1, ?_⟩
  have h2 : evE L.T (calls L.T L.ds (m + 2)) (.tup [.int 0, .bin .add (.bin .mul (.int 2) (.var 13)) (.ix (.var 2) (.int 0))]) (m + 2) (bx a1 b1 :: Fr q (some (.d (dW (As q.S ls1 ++ [.left q.x0])))) w4 w5 w6 w7 w8 (some (.d (.int far))) w10 w11 w12) = .ok (.d (.tup [.int 0, .int (ex (blk [(q.S, ls1, q.x0)] (far, ls5))).length])) (bx a1 b1 :: Fr q (some (.d (dW (As q.S ls1 ++ [.left q.x0])))) w4 w5 w6 w7 w8 (some (.d (.int far))) w10 w11 w12) := by
    have hm2 : bin .mul (.d (.int 2)) (.d (.int q.D)) = some (.d (.int (2 * q.D))) := bin_mul_i 2 q.D rfl
    have i0 : index (.L [.int q.x0, .int q.x1, .int q.x2]) (.d (.int 0)) = some (.int q.x0) := rfl
    simp only [v_tup, v_lcons, v_lnil, v_int, v_bin, v_ix, v_var, varS, List.getElem?_cons_succ, List.getElem?_cons_zero, R.bind_ok, rs, hm2, oko_some, i0, okd_some, bin_add_i, keeps_d, keeps_nil, Option.map_some, R.opt_some, hxl]
  rw [v_ret, v_cmp, ht, R.bind_ok, h2, R.bind_ok, rs_d, eq_same _ (lim_int _ _), okb_some, R.bind_ok]
end
/-- _law_deep -/
theorem t17 {m : Nat} (hm : 24 ≤ m) (a b : Int) (ha : 0 ≤ a) (hb : 0 ≤ b) (ρ : Ev) : callF (calls L.T L.ds m) m 17 [.L [.int a, .int b]] ρ = .ok (.d (.bl true)) ρ := by
  obtain ⟨m, rfl⟩ : ∃ k, m = k + 2 + 1 := ⟨m - 3, by omega⟩
  obtain ⟨a1, b1, dd, sS, ha1, hb1, D0, D1, S0, S1, e1⟩ := q1 (m + 2) (by omega) a b ha hb
  obtain ⟨a2, b2, R', ha2, hb2, R0, R1, e2⟩ := q2 (m + 2) (by omega) a1 b1 dd sS ha1 hb1 D0 D1
  obtain ⟨a3, b3, x0, x1, x2, ha3, hb3, y0, y1, y2, e3⟩ := q3 (m + 2) (by omega) a2 b2 R' dd sS ha2 hb2
  have h : DOk ⟨R', x0, x1, x2, dd, sS⟩ := ⟨D0, D1, S0, S1, R0, R1, y0, y1, y2⟩
  generalize (⟨R', x0, x1, x2, dd, sS⟩ : DS) = q at *
  obtain ⟨a4, b4, ls1, ha4, hb4, n1, o1, e4⟩ := q4 (m + 2) (by omega) q h a3 b3 ha3 hb3
  obtain ⟨a5, b5, ls2, ha5, hb5, n2, o2, e5⟩ := q5 (m + 2) (by omega) q h a4 b4 (some (.d (dW (As q.S ls1 ++ [.left q.x0])))) ha4 hb4
  obtain ⟨a6, b6, ls4, ha6, hb6, n4, o4, e6⟩ := q6 (m + 2) (by omega) q h a5 b5 (some (.d (dW (As q.S ls1 ++ [.left q.x0])))) (some (.d (dW (As (q.S + 1) ls2 ++ [.left q.x1])))) ha5 hb5
  have d1 := h.D1
  have r1 := h.R1
  obtain ⟨a7, b7, ls3, ha7, hb7, n3, o3, e7⟩ := q7 (m + 2) (by omega) q h a6 b6 (As q.S ls1 ++ [.left q.x0]) (As (q.S + 1) ls2 ++ [.left q.x1]) ([.left q.x2] ++ As (q.S + 3) ls4)
    (by simp only [List.length_append, As_len, List.length_singleton]; omega) (by simp only [List.length_append, As_len, List.length_singleton]; omega) (by simp only [List.length_append, As_len, List.length_singleton]; omega) ha6 hb6
  rw [r_eq] at e7
  have wd := r_wd q h n1 n2 n3 n4 o1 o2 o3 o4
  have hs := r_some q h n1 n2 n3 n4 o1 o2 o3 o4
  have e8 := q8 m (by omega) q h a7 b7 (some (.d (dW (As q.S ls1 ++ [.left q.x0])))) (some (.d (dW (As (q.S + 1) ls2 ++ [.left q.x1])))) (some (.d (dW ([.left q.x2] ++ As (q.S + 3) ls4)))) _ wd hs (r_exl q h n1 n2 n3 n4 o1 o2 o3 o4)
  have e9 := q9 m (by omega) q h (m + 2) (calls L.T L.ds (m + 2)) a7 b7 (some (.d (dW (As q.S ls1 ++ [.left q.x0])))) (some (.d (dW (As (q.S + 1) ls2 ++ [.left q.x1])))) (some (.d (dW ([.left q.x2] ++ As (q.S + 3) ls4)))) (some (.d (dW (blk (rB q ls1 ls2 ls3) (q.S + 3, ls4)))))
  rw [← r_ex q h n1 n2 n3 n4 o1 o2 o3 o4] at e9
  have e10 := q10 m (by omega) q h a7 b7 (some (.d (dW (As q.S ls1 ++ [.left q.x0])))) (some (.d (dW (As (q.S + 1) ls2 ++ [.left q.x1])))) (some (.d (dW ([.left q.x2] ++ As (q.S + 3) ls4)))) _ wd hs
  obtain ⟨a11, b11, o, ha11, hb11, oo1, oo2, one, e11⟩ := q11 m (by omega) q h a7 b7 (some (.d (dW (As q.S ls1 ++ [.left q.x0])))) (some (.d (dW (As (q.S + 1) ls2 ++ [.left q.x1])))) (some (.d (dW ([.left q.x2] ++ As (q.S + 3) ls4)))) (some (.d (dW (blk (rB q ls1 ls2 ls3) (q.S + 3, ls4))))) (some (.d (.tup ((ex (blk (rB q ls1 ls2 ls3) (q.S + 3, ls4))).map D.int)))) ha7 hb7
  obtain ⟨a13, b13, far, ha13, hb13, hf1, hf2, e13⟩ := q13 m (by omega) q h a11 b11 (some (.d (dW (As q.S ls1 ++ [.left q.x0])))) (some (.d (dW (As (q.S + 1) ls2 ++ [.left q.x1])))) (some (.d (dW ([.left q.x2] ++ As (q.S + 3) ls4)))) (some (.d (dW (blk (rB q ls1 ls2 ls3) (q.S + 3, ls4))))) (some (.d (.tup ((ex (blk (rB q ls1 ls2 ls3) (q.S + 3, ls4))).map D.int)))) (some (.d (.int o))) ha11 hb11
  obtain ⟨a14, b14, W0, W1, ha14, hb14, hw0, hw1, e14⟩ := q14 m (by omega) q h a13 b13 ls1 ls2 ls4 n1 n2 n4 o1 o2 o4 o far oo1 oo2 one hf1 hf2 (some (.d (dW (blk (rB q ls1 ls2 ls3) (q.S + 3, ls4))))) (some (.d (.tup ((ex (blk (rB q ls1 ls2 ls3) (q.S + 3, ls4))).map D.int)))) ha13 hb13
  obtain ⟨a15, b15, W2, ha15, hb15, hw2, e15⟩ := q15 m (by omega) q h a14 b14 ls1 n1 o1 far hf1 hf2 (some (.d (dW (As (q.S + 1) ls2 ++ [.left q.x1])))) (some (.d (dW ([.left q.x2] ++ As (q.S + 3) ls4)))) (some (.d (dW (blk (rB q ls1 ls2 ls3) (q.S + 3, ls4))))) (some (.d (.tup ((ex (blk (rB q ls1 ls2 ls3) (q.S + 3, ls4))).map D.int)))) (some (.d (.int o))) W0 W1 ha14 hb14
  obtain ⟨a16, b16, w11, w12, ha16, hb16, e16⟩ := q16 m (by omega) q h a15 b15 (some (.d (dW (As q.S ls1 ++ [.left q.x0])))) (some (.d (dW (As (q.S + 1) ls2 ++ [.left q.x1])))) (some (.d (dW ([.left q.x2] ++ As (q.S + 3) ls4)))) (some (.d (dW (blk (rB q ls1 ls2 ls3) (q.S + 3, ls4))))) (some (.d (.tup ((ex (blk (rB q ls1 ls2 ls3) (q.S + 3, ls4))).map D.int)))) (some (.d (.int o))) (some (.d (.int far))) W0 W1 W2 hw0 hw1 hw2 ha15 hb15
  obtain ⟨a17, b17, e17⟩ := q19 m (by omega) q h a16 b16 ls1 n1 o1 far hf1 hf2 (some (.d (dW (As (q.S + 1) ls2 ++ [.left q.x1])))) (some (.d (dW ([.left q.x2] ++ As (q.S + 3) ls4)))) (some (.d (dW (blk (rB q ls1 ls2 ls3) (q.S + 3, ls4))))) (some (.d (.tup ((ex (blk (rB q ls1 ls2 ls3) (q.S + 3, ls4))).map D.int)))) (some (.d (.int o))) (some (.L false [dW W0, dW W1, dW W2])) w11 w12 ha16 hb16
  have fin : ∃ ρ', evB L.T (calls L.T L.ds (m + 2)) d17.body (m + 2) ([bx a b] ++ List.replicate d17.nl none) = .ok (.ret (.d (.bl true))) (bx a17 b17 :: ρ') := by
    show ∃ ρ', evB L.T (calls L.T L.ds (m + 2)) d17.body (m + 2) (bx a b :: List.replicate 15 none) = _
    unfold d17
    dsimp only
    rw [evB_nx e1, evB_nx e2, evB_nx e3, evB_nx e4, evB_nx e5, evB_nx e6, evB_nx e7, evB_nx e8, evB_nx e9, evB_nx e10, e11, evB_nx e13, evB_nx e14, evB_nx e15, e16, evB_fl e17]
    exact ⟨_, rfl⟩
  obtain ⟨ρ', e⟩ := fin
  exact callF_L L.T L.ds (m + 2) 17 d17 rfl _ _ ρ ρ' _ rfl e
/-- the law -/
theorem plain (ns : List Int) (hl : ns.length ≤ 63) : ∃ r, call L.T L.ds 61 18 [some (.d (.lst (ns.map D.int)))] = .ok (.d (.bl true)) r := by
  obtain ⟨a0, b0, ha0, hb0, f0⟩ := stream_ok (T := L.T) (ds := L.ds) (f := 11) (c := 10) rfl rfl ns 0
  obtain ⟨a1, b1, ha1, hb1, f1⟩ := stream_ok (T := L.T) (ds := L.ds) (f := 11) (c := 10) rfl rfl ns 1
  have f0 := f0 60 (by omega)
  have f1 := f1 60 (by omega)
  simp only [List.map_cons, List.map_nil] at f0 f1
  have e15 := t15 (m := 60) (by omega) a0 b0 ha0 hb0
  have e17 := t17 (m := 60) (by omega) a1 b1 ha1 hb1
  have hf : fin 1 (evB L.T (calls L.T L.ds 60) d18.body 60 ([.lst (ns.map D.int)].map arg ++ List.replicate d18.nl none)) = some (.d (.bl true)) := by
    have g0 : ∀ ρ, callF (calls L.T L.ds 60) 60 11 [O.d (.lst (ns.map D.int)), O.d (.int 0)] ρ = .ok (.L [.int a0, .int b0]) ρ := f0
    have g1 : ∀ ρ, callF (calls L.T L.ds 60) 60 11 [O.d (.lst (ns.map D.int)), O.d (.int 1)] ρ = .ok (.L [.int a1, .int b1]) ρ := f1
    simp [d18, arg, varS, g0, g1, e15, e17]
  obtain ⟨h1, _⟩ := runD_fin L.T (calls L.T L.ds 60) d18 60 [.lst (ns.map D.int)] (.d (.bl true)) rfl hf
  exact ⟨_, (call_succ L.T L.ds 60 18 _).trans h1⟩
end Ev.K95
namespace Ev.K95
open PySem PySem.Spec PyProof.Rows L2
/-! the head: what the top leaves -/
abbrev R : PySem.W.OpenRow := PySem.W.OpenLaw.row PySem.Challenge.rw_evertold_k95_deep_buckets_read_back
abbrev hk : PySem.W.Hook := He.hookX 4 L.fa L.fn [] L.tf L.ex
def ob (s : PySem.W.SharedT) : He.AlX := He.obsX 4 L.fa L.fn [] L.tf L.ex (HandSHeadRun.getT s)
theorem ob_eq (s : PySem.W.SharedT) : ob s = hk.obs s.abs := He.obsX_eq (HandSHeadRun.getT_eq s)
def loose : List Str := (["EverError", "BadLog", "OutOfRange", "MOST_LINE", "MOST_LOG", "is_integer", "is_between", "check_log", "MOST_NUMBER", "check_timed"] : List Str) ++ (["through_bucket", "is_left", "check_by_bucket", "is_written_by", "many_told", "seconds_told", "_law_cell", "_law_stream", "_law_draw", "_law_read"] : List Str) ++ (["_law_told", "_law_bucket", "_law_written", "_law_some", "_law_deep"] : List Str)
set_option maxHeartbeats 0 in
theorem run (w : World) : HandSHeadRun.RunEq R (PySem.W.view R.prog [29]) hk ob 5000 loose w := by
  intro os
  kernel_rfl
end Ev.K95
open PySem PySem.W PySem.Calls PyProof.Rows in
set_option maxHeartbeats 0 in
theorem PySem.Challenge.cw_evertold_k95_deep_buckets_read_back_holds : PySem.Challenge.rw_evertold_k95_deep_buckets_read_back.Holds := by
  w_on; o_law
  refine HandSHeadRun.head_any (r := OpenLaw.row PySem.Challenge.rw_evertold_k95_deep_buckets_read_back) (q := view (OpenLaw.row PySem.Challenge.rw_evertold_k95_deep_buckets_read_back).prog [29]) (H := Ev.K95.hk) (ob := Ev.K95.ob) (M := 5000) (loose := Ev.K95.loose) (d := HandSHeadRun.topDef (OpenLaw.row PySem.Challenge.rw_evertold_k95_deep_buckets_read_back).prog 29) (kwd := []) Ev.K95.ob_eq
    (by kernel_rfl) (fun s => by kernel_rfl) Ev.K95.run (by kernel_rfl) (by kernel_rfl) (by kernel_rfl) (by rfl) (by first | assumption | decide +kernel) (by decide +kernel) ⟨rfl, rfl, rfl, rfl, rfl, by decide +kernel⟩ ?hw ?hc
  case hw => w_witness2
  case hc =>
    refine LamX.walk_ofTsE (l := PySem.Challenge.rw_evertold_k95_deep_buckets_read_back) (n := 63) (k := 61) (x := "script") (CX := fun w => L2.CX (PySem.Challenge.rw_evertold_k95_deep_buckets_read_back).prog w) rfl (by decide) (by kernel_rfl) ⟨rfl, by decide, by decide⟩ ?F ?C
    case F =>
      intro w mg fa h Y G hmg0
      obtain ⟨K, KX, c⟩ := Y
      have hmg : mg ("law" : PySem.Str) = some (.ref fa) := by
        have e : (HandSHeadRun.topDef (OpenLaw.row PySem.Challenge.rw_evertold_k95_deep_buckets_read_back).prog 29).name = ("law" : PySem.Str) := by kernel_rfl
        rw [← e]
        exact hmg0
      exact ⟨K, KX, Ev.law_at (L := Ev.K95.L) (n := 60) (fL := 18) (eL := Ev.K95.e18) KX G c Ev.K95.tok Ev.K95.tol Ev.K95.ok rfl rfl rfl hmg fun ns hl _ => Ev.K95.plain ns hl⟩
    case C =>
      intro w H s e s' x
      obtain ⟨_, _, _, _, _, _, _, _, _, _, _, _, z⟩ := x
      exact z
