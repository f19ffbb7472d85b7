import PyProof.Rows.All
import Wide.All
import OpenK.AllK
import Wide.FinOn
import HandS.ForMost
import HandS.ForExc
import HandS.Lambda
import HandS.TupAny
import HandS.TupMul
import HandS.TupLe
import HandS.SortInts
import HandS.IsInst
import HandS.Deep
import HandS.SetFor
import HandS.Strs
import HandS.Zip
import HandS.Flow
import PyProof.ReprRoads
import PyProof.ReprLen
import PyProof.CallFns
import KE.GoesEnum
import HandS.Dict
import HandS.DictComp
import HandS.More
import KE.KTupSum
import HandS.Iter
import HandS.WordsExc
import HandS.Style
import HandS.Small
import HandS.ExcIs
import HandS.CallLocal
import HandS.Defaults
import HandS.EndTab
import HandS.HeadWalk
import HandS.HeadHook4
import HandS.Head4
import PySem.Challenge.RW_evertold_k65_whole_windows_and_agreed
set_option Elab.async false
set_option linter.all false
set_option maxRecDepth 100000
/-! Ev0: a small language, its data and its evaluator (plain Lean; nothing of the model). -/
namespace Ev
/-- data: n in str n is a place in the law's table of texts -/
inductive D where
  | non | bl (b : Bool) | int (i : Int) | str (n : Nat) | tup (xs : List D) | lst (xs : List D)
deriving Inhabited, Repr
mutual
/-- == of data -/
def eqb : D → D → Bool
  | .non, y => match y with | .non => true | _ => false
  | .bl a, y => match y with | .bl b => a == b | .int j => (if a then (1 : Int) else 0) == j | _ => false
  | .int i, y => match y with | .int j => i == j | .bl b => i == (if b then (1 : Int) else 0) | _ => false
  | .str a, y => match y with | .str b => a == b | _ => false
  | .tup xs, y => match y with | .tup ys => eqbs xs ys | _ => false
  | .lst xs, y => match y with | .lst ys => eqbs xs ys | _ => false
def eqbs : List D → List D → Bool
  | [], ys => match ys with | [] => true | _ :: _ => false
  | x :: xs, ys => match ys with | [] => false | y :: ys => eqb x y && eqbs xs ys
end
mutual
/-- how deep data may be -/
def lim : D → Nat → Bool
  | .tup xs, n => match n with | 0 => false | m + 1 => limL xs m
  | .lst xs, n => match n with | 0 => false | m + 1 => limL xs m
  | _, _ => true
def limL : List D → Nat → Bool
  | [], _ => true
  | x :: xs, n => lim x n && limL xs n
end
mutual
/-- x < y where Python tells it of ints and of tuples of such -/
def ltD : D → D → Option Bool
  | .int i, y => match y with | .int j => some (decide (i < j)) | _ => none
  | .tup xs, y => match y with | .tup ys => ltL xs ys | _ => none
  | _, _ => none
def ltL : List D → List D → Option Bool
  | [], ys => match ys with | [] => some false | _ :: _ => some true
  | x :: xs, ys => match ys with
    | [] => some false
    | y :: ys => if eqb x y then ltL xs ys else ltD x y
end
/-- what a slot of a def holds: data; a list of its own (p: the caller's, too); a dict -/
inductive W where
  | d (x : D) | L (p : Bool) (xs : List D) | M (p t : Bool) (kvs : List (D × D)) | F (f : Nat) | Z (kvs : List (D × D))
deriving Inhabited, Repr
/-- what an expression gives: data, a new list, a new dict, the list or dict of a slot -/
inductive O where
  | d (x : D) | L (xs : List D) | M (t : Bool) (kvs : List (D × D)) | bor (i : Nat) | F (f : Nat) | Z (kvs : List (D × D))
deriving Inhabited, Repr
abbrev Ev := List (Option W)
inductive R (α : Type) where
  | ok (a : α) (ρ : Ev) | exc (c : Nat) (ρ : Ev) | stuck
deriving Inhabited, Repr
def R.bind {α β : Type} (r : R α) (f : α → Ev → R β) : R β := match r with
  | .ok a ρ => f a ρ
  | .exc c ρ => .exc c ρ
  | .stuck => .stuck
@[simp] theorem R.bind_ok {α β : Type} (a : α) (ρ : Ev) (f : α → Ev → R β) : (R.ok a ρ).bind f = f a ρ := rfl
@[simp] theorem R.bind_exc {α β : Type} (c : Nat) (ρ : Ev) (f : α → Ev → R β) : (R.exc c ρ).bind f = .exc c ρ := rfl
@[simp] theorem R.bind_stuck {α β : Type} (f : α → Ev → R β) : (R.stuck : R α).bind f = .stuck := rfl
/-- no exception may come here -/
def R.calm {α : Type} (r : R α) : R α := match r with
  | .exc _ _ => .stuck
  | r => r
def R.opt {α β : Type} (o : Option α) (f : α → R β) : R β := match o with
  | some a => f a
  | none => .stuck
@[simp] theorem R.opt_some {α β : Type} (a : α) (f : α → R β) : R.opt (some a) f = f a := rfl
@[simp] theorem R.opt_none {α β : Type} (f : α → R β) : R.opt none f = .stuck := rfl
abbrev cap : Nat := 16777216
/-- only if it is so -/
def R.grd {α : Type} (b : Bool) (r : R α) : R α := if b = true then r else .stuck
@[simp] theorem R.grd_true {α : Type} (r : R α) : R.grd true r = r := rfl
@[simp] theorem R.grd_false {α : Type} (r : R α) : R.grd false r = .stuck := rfl
inductive Bop where | add | sub | mul | fdiv | mod
deriving DecidableEq, Repr
inductive Cop where | eq | ne | lt | le | gt | ge | isin | notin | is_ | isnot
deriving DecidableEq, Repr
inductive Ty where | int | bool | str | tuple | list
deriving DecidableEq, Repr
inductive Blt where | len | abs | int | tuple | list | sum | max | min | max2 | min2 | min3 | all | any | sorted | sortedSet | dict
deriving DecidableEq, Repr
/-- what a loop walks -/
inductive Ik where | seq | rng | enum | zip
deriving DecidableEq, Repr
inductive Tg where
  | nm (i : Nat) | tp (ts : List Tg)
deriving Inhabited, Repr
mutual
/-- ints that are short when shown -/
def smal : D → Bool
  | .int i => decide (-1000000000000 < i) && decide (i < 1000000000000)
  | .tup xs => smals xs
  | .lst xs => smals xs
  | _ => true
def smals : List D → Bool
  | [] => true
  | x :: xs => smal x && smals xs
end
mutual
/-- how much there is to show -/
def wgt : D → Nat
  | .int _ => 40
  | .str _ => 1000
  | .tup xs => wgts xs
  | .lst xs => wgts xs
  | _ => 0
def wgts : List D → Nat
  | [] => 0
  | x :: xs => wgt x + 1 + wgts xs
end
inductive E where
  | non | bl (b : Bool) | int (i : Int) | str (n : Nat) | abs
  | var (i : Nat) | con (k : Nat)
  | bin (op : Bop) (a b : E) | neg (a : E)
  | andL (es : List E) | orL (es : List E) | not_ (a : E)
  | cmp (op : Cop) (a b : E) | chain (o1 o2 : Cop) (a b c : E)
  | ite (c a b : E)
  | tup (es : List E) | lst (es : List E) | dnew (t : Bool)
  | ix (a i : E) | sl (a lo hi : E) | rev (a : E) | req (ne : Bool) (a b : E)
  | call (f : Nat) (es : List E)
  | blt (b : Blt) (es : List E)
  | isi (a : E) (t : Ty)
  | app (i : Nat) (e : E) | pop (i : Nat) | get2 (i : Nat) (k x : E) | sdef (i : Nat) (k x : E) | cnt (i : Nat) (x : E) | frz (i : Nat)
  | comp (elt : E) (tg : Tg) (k : Ik) (es ifs : List E) (own : List Nat)
  | comp2 (elt : E) (t1 : Tg) (k1 : Ik) (e1 : List E) (t2 : Tg) (k2 : Ik) (e2 ifs : List E) (own : List Nat)
  | dcomp (t : Bool) (key val : E) (tg : Tg) (k : Ik) (es ifs : List E) (own : List Nat)
  | dcomp2 (key val : E) (t1 : Tg) (k1 : Ik) (e1 : List E) (t2 : Tg) (k2 : Ik) (e2 ifs : List E) (own : List Nat)
  | told (b : E)
  | fns (fs : List Nat) (a : E) | callv (i : Nat) (es : List E)
deriving Inhabited, Repr
inductive S where
  | ex (e : E) | ret (e : E) | retN | set (i : Nat) (e : E) | setT (ts : List Tg) (e : E) | par (is : List Nat) (es : List E)
  | setIx (i : Nat) (k e : E) | aug (i : Nat) (op : Bop) (e : E) | augIx (i : Nat) (k : E) (op : Bop) (e : E)
  | ite (c : E) (a b : List S) | for_ (tg : Tg) (k : Ik) (es : List E) (b : List S) | while_ (c : E) (b : List S)
  | raise (c : Nat) | pass | brk | cont
deriving Inhabited, Repr
inductive Fl where | nx | brk | cont | ret (o : O)
deriving Inhabited, Repr

mutual
def slots : Tg → List Nat
  | .nm i => [i]
  | .tp ts => slotss ts
def slotss : List Tg → List Nat
  | [] => []
  | t :: ts => slots t ++ slotss ts
end
/-! ### values -/
/-- a slot's list or dict, as it stands -/
def rs (ρ : Ev) : O → O
  | .bor i => match ρ[i]? with
    | some (some (.L _ xs)) => .L xs
    | some (some (.M _ t kvs)) => .M t kvs
    | _ => .bor i
  | o => o
/-- the items of a tuple or list -/
def items : O → Option (List D)
  | .d (.tup xs) => some xs
  | .d (.lst xs) => some xs
  | .L xs => some xs
  | _ => none
/-- a value as data, to be looked at -/
def look : O → Option D
  | .d x => some x
  | .L xs => some (.lst xs)
  | _ => none
/-- a value kept in a tuple or list: a list stands still from then on -/
def keep (ρ : Ev) : O → Option (D × Ev)
  | .d x => some (x, ρ)
  | .L xs => some (.lst xs, ρ)
  | .bor i => match ρ[i]? with
    | some (some (.L false xs)) => some (.lst xs, ρ.set i (some (.d (.lst xs))))
    | _ => none
  | .M _ _ => none
  | .F _ => none
  | .Z _ => none
def keeps (ρ : Ev) : List O → Option (List D × Ev)
  | [] => some ([], ρ)
  | o :: os => match keep ρ o with
    | none => none
    | some (x, ρ1) => match keeps ρ1 os with
      | none => none
      | some (xs, ρ2) => some (x :: xs, ρ2)
/-- truth -/
def truth : O → Option Bool
  | .d .non => some false
  | .d (.bl b) => some b
  | .d (.int i) => some (i != 0)
  | .d (.tup xs) => some (!xs.isEmpty)
  | .d (.lst xs) => some (!xs.isEmpty)
  | .L xs => some (!xs.isEmpty)
  | _ => none
def sml (i : Int) : Bool := decide (-(2 ^ 64) < i) && decide (i < 2 ^ 64)
/-- a op b -/
def addO : O → O → Option O
  | .d (.int i), .d (.int j) => some (.d (.int (i + j)))
  | .d (.tup xs), .d (.tup ys) => if xs.length + ys.length ≤ cap then some (.d (.tup (xs ++ ys))) else none
  | .L xs, .L ys => if xs.length + ys.length ≤ cap then some (.L (xs ++ ys)) else none
  | .d (.str k), .d (.str n) => if k = 0 then some (.d (.str n)) else none
  | _, _ => none
def subO : O → O → Option O
  | .d (.int i), .d (.int j) => some (.d (.int (i - j)))
  | _, _ => none
def mulO : O → O → Option O
  | .d (.int i), .d (.int j) => if sml i || sml j then some (.d (.int (i * j))) else none
  | .d (.tup xs), .d (.int j) => if 0 < xs.length ∧ xs.length ≤ 1000 ∧ 2 ≤ j ∧ j ≤ 1000 then some (.d (.tup (List.replicate j.toNat xs).flatten)) else none
  | .L xs, .d (.int j) => if -(2 ^ 63) ≤ j ∧ j < 2 ^ 63 ∧ xs.length * j.toNat ≤ cap then some (.L (List.replicate j.toNat xs).flatten) else none
  | _, _ => none
def fdivO : O → O → Option O
  | .d (.int i), .d (.int j) => if 0 < j ∧ j < 1073741824 then some (.d (.int (i / j))) else none
  | _, _ => none
def modO : O → O → Option O
  | .d (.int i), .d (.int j) => if 0 < j then some (.d (.int (i % j))) else none
  | _, _ => none
def bin (op : Bop) (a b : O) : Option O := match op with
  | .add => addO a b
  | .sub => subO a b
  | .mul => mulO a b
  | .fdiv => fdivO a b
  | .mod => modO a b
def limit : Nat := 60
def same (x y : D) : Option Bool := if lim x limit && lim y limit then some (eqb x y) else none
/-- d in a list of data -/
def among (x : D) (ys : List D) : Option Bool := if lim x limit = true then some (ys.any fun y => eqb y x) else none
def findK (k : D) : List (D × D) → Option D
  | [] => none
  | (a, v) :: r => if eqb a k then some v else findK k r
def putK (k v : D) (kvs : List (D × D)) : List (D × D) :=
  if (kvs.any fun p => eqb p.1 k) = true then kvs.map (fun p => if eqb p.1 k = true then (p.1, v) else p) else kvs ++ [(k, v)]
/-- what may be a dict's key: ints -/
def keyOk : D → Bool
  | .int _ => true
  | _ => false
/-- a dict of int keys -/
def dictOf : O → Option (List (D × D))
  | .M false kvs => some kvs
  | .Z kvs => some kvs
  | _ => none
def isNon : D → Bool
  | .non => true
  | _ => false
def isBl (c : Bool) : D → Bool
  | .bl b => b == c
  | _ => false
def isO (a b : O) : Option Bool := match b with
  | .d .non => (look a).map isNon
  | .d (.bl c) => (look a).map (isBl c)
  | _ => none
/-- order of rows of ints -/
def lexI : List Int → List Int → Bool
  | [], ys => match ys with | [] => false | _ :: _ => true
  | x :: xs, ys => match ys with
    | [] => false
    | y :: ys => if x = y then lexI xs ys else decide (x < y)
def intsOf : List D → Option (List Int)
  | [] => some []
  | .int i :: r => (intsOf r).map (i :: ·)
  | _ :: _ => none
def ltO : O → O → Option Bool
  | .d (.int i), .d (.int j) => some (decide (i < j))
  | .d (.tup xs), .d (.tup ys) => (match intsOf xs, intsOf ys with
    | some ns, some ms => some (lexI ns ms)
    | _, _ => none)
  | _, _ => none
def eqO (a b : O) : Option Bool := match look a, look b with
  | some x, some y => same x y
  | _, _ => none
def leO : O → O → Option Bool
  | .d (.int i), .d (.int j) => some (decide (i ≤ j))
  | _, _ => none
def gtO : O → O → Option Bool
  | .d (.int i), .d (.int j) => some (decide (j < i))
  | _, _ => none
def geO : O → O → Option Bool
  | .d (.int i), .d (.int j) => some (decide (j ≤ i))
  | _, _ => none
/-- a in a list, a tuple -/
def inSeq (a b : O) : Option Bool := match look a, items b with
  | some x, some ys => among x ys
  | _, _ => none
/-- a in a dict -/
def inDict (a : O) (kvs : List (D × D)) : Option Bool := match a with
  | .d k => if keyOk k = true then some (findK k kvs).isSome else none
  | _ => none
def inO (a b : O) : Option Bool := match b with
  | .M false kvs => inDict a kvs
  | .Z kvs => inDict a kvs
  | b => inSeq a b
def cmp (op : Cop) (a b : O) : Option Bool := match op with
  | .eq => eqO a b
  | .ne => (eqO a b).map (!·)
  | .lt => ltO a b
  | .le => leO a b
  | .gt => gtO a b
  | .ge => geO a b
  | .isin => inO a b
  | .notin => (inO a b).map (!·)
  | .is_ => isO a b
  | .isnot => (isO a b).map (!·)
/-- the place that an index means -/
def place (n : Nat) (i : Int) : Option Nat := if 0 ≤ i then (if i < n then some i.toNat else none) else (if -(n : Int) ≤ i then some (n + i).toNat else none)
def at_ (xs : List D) (i : Int) : Option D := (place xs.length i).bind fun j => xs[j]?
def ixSeq (a i : O) : Option D := match items a, i with
  | some xs, .d (.int i) => at_ xs i
  | _, _ => none
def ixDict (kvs : List (D × D)) (i : O) : Option D := match i with
  | .d k => if keyOk k = true then findK k kvs else none
  | _ => none
def index (a i : O) : Option D := match a with
  | .M false kvs => ixDict kvs i
  | .Z kvs => ixDict kvs i
  | a => ixSeq a i
def sIx (n d : Nat) : Option Int → Nat
  | none => d
  | some v => if v < 0 then (v + (n : Int)).toNat else min v.toNat n
def cut {α : Type} (xs : List α) (lo hi : Option Int) : List α := (xs.drop (sIx xs.length 0 lo)).take (sIx xs.length xs.length hi - sIx xs.length 0 lo)
def slice (a : O) (lo hi : Option Int) : Option O := match a with
  | .d (.tup xs) => some (.d (.tup (cut xs lo hi)))
  | a => (items a).map fun xs => .L (cut xs lo hi)
def revd (a : O) : Option O := match a with
  | .d (.tup xs) => some (.d (.tup xs.reverse))
  | a => (items a).map fun xs => .L xs.reverse
def isTy (t : Ty) : O → Option Bool
  | .d x => some (match x, t with
    | .bl _, .int => true | .bl _, .bool => true | .int _, .int => true | .str _, .str => true | .tup _, .tuple => true | .lst _, .list => true | _, _ => false)
  | .L _ => some (t == .list)
  | _ => none
/-- the items as ints, as truth values -/
def bolsOf : List D → Option (List Bool)
  | [] => some []
  | .bl b :: r => (bolsOf r).map (b :: ·)
  | _ :: _ => none
def pairsOf : List D → Option (List (D × D))
  | [] => some []
  | .tup [a, b] :: r => (pairsOf r).map ((a, b) :: ·)
  | _ :: _ => none
/-- the first of the greatest, of the least -/
def maxL : Int → List Int → Int
  | m, [] => m
  | m, x :: r => maxL (if x > m then x else m) r
def minL : Int → List Int → Int
  | m, [] => m
  | m, x :: r => minL (if x < m then x else m) r
/-- a sorted list of ints: each put in behind the ones that are not greater -/
def insI (x : Int) : List Int → List Int
  | [] => [x]
  | y :: r => if x < y then x :: y :: r else y :: insI x r
def sortI : List Int → List Int
  | [] => []
  | x :: r => insI x (sortI r)
/-- strictly rising, each once -/
def insS (x : Int) : List Int → List Int
  | [] => [x]
  | y :: r => if x < y then x :: y :: r else if x = y then y :: r else y :: insS x r
def sortS : List Int → List Int
  | [] => []
  | x :: r => insS x (sortS r)
/-- each once (a set, told by what it holds) -/
def nubD : List D → List D
  | [] => []
  | x :: r => if (nubD r).any (eqb x) then nubD r else x :: nubD r
def dictFrom : List (D × D) → List (D × D) → List (D × D)
  | acc, [] => acc
  | acc, (k, v) :: r => dictFrom (putK k v acc) r
/-- one list or tuple -/
def seqF (f : List D → Option O) : List O → Option O
  | [a] => (items a).bind f
  | _ => none
def lenF : List O → Option O := seqF fun xs => some (.d (.int xs.length))
def absF : List O → Option O
  | [.d (.int i)] => some (.d (.int (if i < 0 then -i else i)))
  | _ => none
def intF : List O → Option O
  | [.d (.int i)] => some (.d (.int i))
  | [.d (.bl b)] => some (.d (.int (if b then 1 else 0)))
  | _ => none
def tupleF : List O → Option O := seqF fun xs => some (.d (.tup xs))
def listF : List O → Option O := seqF fun xs => some (.L xs)
/-- one list of ints -/
def itemsL : O → Option (List D)
  | .d (.lst xs) => some xs
  | .L xs => some xs
  | _ => none
def intsF (f : List Int → Option O) : List O → Option O
  | [a] => (itemsL a).bind fun xs => (intsOf xs).bind f
  | _ => none
def sumF : List O → Option O := intsF fun ns => some (.d (.int ns.sum))
def bestF (f : Int → List Int → Int) : List O → Option O := intsF fun ns => match ns with
  | [] => none
  | m :: r => some (.d (.int (f m r)))
def max2F : List O → Option O
  | [.d (.int i), .d (.int j)] => some (.d (.int (if j > i then j else i)))
  | _ => none
def min2F : List O → Option O
  | [.d (.int i), .d (.int j)] => some (.d (.int (if j < i then j else i)))
  | _ => none
def bolsF (f : List Bool → Bool) : List O → Option O
  | [a] => (itemsL a).bind fun xs => (bolsOf xs).map fun bs => .d (.bl (f bs))
  | _ => none
def sortF : List O → Option O := intsF fun ns => some (.L ((sortI ns).map .int))
/-- sorted(set(a)), a a list of ints, fewer than 64 -/
def sortSF : List O → Option O := intsF fun ns => if ns.length < 64 then some (.L ((sortS ns).map .int)) else none
def lenD (kvs : List (D × D)) : Option O := some (.d (.int kvs.length))
def lenO (os : List O) : Option O := match os with
  | [.M false kvs] => lenD kvs
  | [.Z kvs] => lenD kvs
  | os => lenF os
/-- a dict's keys, sorted -/
def sortD (kvs : List (D × D)) : Option O := (intsOf (kvs.map (·.1))).bind fun ns => if ns.length < 64 then some (.L ((sortI ns).map .int)) else none
def sortO (os : List O) : Option O := match os with
  | [.M false kvs] => sortD kvs
  | [.Z kvs] => sortD kvs
  | os => sortF os
/-- sum, of a tuple, too -/
def sumO (os : List O) : Option O := match os with
  | [.d (.tup xs)] => (intsOf xs).map fun ns => .d (.int ns.sum)
  | os => sumF os
/-- dict(a list of pairs) -/
def dictF : List O → Option O
  | [a] => (itemsL a).bind fun xs => (pairsOf xs).bind fun ps => if (ps.all fun p => keyOk p.1) = true then some (.M false (dictFrom [] ps)) else none
  | _ => none
/-- how often an int stands in a list of ints -/
def cntO (a x : O) : Option O := match x with
  | .d (.int k) => (itemsL a).bind fun xs => (intsOf xs).map fun ns => .d (.int (ns.count k))
  | _ => none
def blt (b : Blt) (os : List O) : Option O := match b with
  | .len => lenO os
  | .abs => absF os
  | .int => intF os
  | .tuple => tupleF os
  | .list => listF os
  | .sum => sumO os
  | .max => bestF maxL os
  | .min => bestF minL os
  | .max2 => max2F os
  | .min2 => min2F os
  | .all => bolsF (fun bs => bs.all id) os
  | .any => bolsF (fun bs => bs.any id) os
  | .sorted => sortO os
  | .sortedSet => sortSF os
  | .dict => dictF os
  | _ => none
/-- lo, lo + 1, .. below hi -/
def upTo (lo hi : Int) : List D := (List.range (hi - lo).toNat).map fun (k : Nat) => D.int (lo + (k : Int))
def inR (i : Int) : Bool := decide (-(2 ^ 62) ≤ i) && decide (i < 2 ^ 62)
/-- lo, lo + c, .. (n of them) -/
def stepL (lo hi c : Int) : List D :=
  let n := if 0 < c then ((hi - lo + c - 1) / c).toNat else ((lo - hi + (-c) - 1) / (-c)).toNat
  (List.range n).map fun (k : Nat) => D.int (lo + (k : Int) * c)
def enumFrom : Nat → List D → List D
  | _, [] => []
  | k, x :: r => .tup [.int k, x] :: enumFrom (k + 1) r
def isT : O → Bool
  | .d (.tup _) => true
  | _ => false
/-- what is walked: the list of all items, or the list of a slot (which the loop may not change) -/
def walkS (a : O) : Option (List D) := match a with
  | .Z kvs => some (kvs.map (·.1))
  | a => items a
def walk (k : Ik) (os : List O) : Option (List D) := match k, os with
  | .seq, [a] => walkS a
  | .rng, [.d (.int n)] => if inR n then some (upTo 0 n) else none
  | .rng, [.d (.int a), .d (.int b)] => if inR a && inR b then some (upTo a b) else none
  | .rng, [.d (.int a), .d (.int b), .d (.int c)] => if inR a && inR b && c != 0 && decide (-1073741824 < c) && decide (c < 1073741824) then some (stepL a b c) else none
  | .enum, [a] => (items a).map (enumFrom 0)
  | .zip, [a, b] => if isT a = isT b then (match items a, items b with
    | some xs, some ys => some ((xs.zip ys).map fun p => .tup [p.1, p.2])
    | _, _ => none) else none
  | _, _ => none
/-- the slots whose list is walked -/
def walked : List O → List Nat
  | [] => []
  | .bor i :: r => i :: walked r
  | _ :: r => walked r
mutual
/-- the same, as data (told by structure) -/
def D.beq : D → D → Bool
  | .non, y => match y with | .non => true | _ => false
  | .bl a, y => match y with | .bl b => a == b | _ => false
  | .int i, y => match y with | .int j => i == j | _ => false
  | .str a, y => match y with | .str b => a == b | _ => false
  | .tup xs, y => match y with | .tup ys => D.beqs xs ys | _ => false
  | .lst xs, y => match y with | .lst ys => D.beqs xs ys | _ => false
def D.beqs : List D → List D → Bool
  | [], ys => match ys with | [] => true | _ :: _ => false
  | x :: xs, ys => match ys with | [] => false | y :: ys => D.beq x y && D.beqs xs ys
end
/-- the walked slots stand as they stood -/
def stands (ρ0 ρ : Ev) : List Nat → Bool
  | [] => true
  | i :: r => (match ρ0[i]?, ρ[i]? with
    | some (some (.L _ xs)), some (some (.L _ ys)) => D.beqs xs ys
    | _, _ => false) && stands ρ0 ρ r
/-- a value put to a slot; a list of the caller's may not be left -/
def free (ρ : Ev) (i : Nat) : Bool := match ρ[i]? with
  | some (some (.L true _)) => false
  | some (some (.M true _ _)) => false
  | some _ => true
  | none => false
def store (ρ : Ev) (i : Nat) (w : W) : Option Ev := if free ρ i then some (ρ.set i (some w)) else none
mutual
def bindT : Tg → D → Ev → Option Ev
  | .nm i, x, ρ => store ρ i (.d x)
  | .tp ts, x, ρ => match x with
    | .tup xs => bindTs ts xs ρ
    | _ => none
def bindTs : List Tg → List D → Ev → Option Ev
  | [], xs, ρ => match xs with | [] => some ρ | _ :: _ => none
  | t :: ts, xs, ρ => match xs with
    | [] => none
    | x :: xs => (bindT t x ρ).bind (bindTs ts xs)
end
/-- name = value -/
def assign (ρ : Ev) (i : Nat) : O → Option Ev
  | .d x => store ρ i (.d x)
  | .L xs => store ρ i (.L false xs)
  | .M t kvs => store ρ i (.M false t kvs)
  | .F f => store ρ i (.F f)
  | .Z _ => none
  | .bor j => match ρ[j]? with
    | some (some (.L false xs)) => store (ρ.set j (some (.d (.lst xs)))) i (.d (.lst xs))
    | _ => none
/-- the slots of a comprehension's own -/
def wipe (ρ : Ev) : List Nat → Ev
  | [] => ρ
  | i :: r => (wipe ρ r).set i none
def back (ρ0 ρ : Ev) : List Nat → Ev
  | [] => ρ
  | i :: r => (back ρ0 ρ r).set i (ρ0[i]?.getD none)
/-- x[k] = v -/
def setAt (ρ : Ev) (i : Nat) (k : O) (v : D) : Option Ev := match ρ[i]?, k with
  | some (some (.L p xs)), .d (.int j) => (place xs.length j).map fun j => ρ.set i (some (.L p (xs.set j v)))
  | some (some (.M p false kvs)), .d (.int j) => if kvs.length < cap then some (ρ.set i (some (.M p false (putK (.int j) v kvs)))) else none
  | _, _ => none
/-- what a call hands over: data, a new list, a slot's list (the caller's, both) -/
def handL (ρ : Ev) : List O → Option Ev
  | [] => some []
  | o :: os => (match o with
    | .d x => some (W.d x)
    | .L xs => some (W.L true xs)
    | .M t kvs => some (W.M true t kvs)
    | .F _ => none
    | .Z _ => none
    | .bor i => (match ρ[i]? with
      | some (some (.L _ xs)) => some (W.L true xs)
      | some (some (.M _ t kvs)) => some (W.M true t kvs)
      | _ => none)).bind fun w => (handL ρ os).map (some w :: ·)
def onceEach : List Nat → Bool
  | [] => true
  | i :: r => !r.contains i && onceEach r
/-- behind the call: the slots' lists as the callee left them -/
def handB (ρ : Ev) : List O → Ev → Option Ev
  | [], _ => some ρ
  | .bor i :: os, a :: r => (match ρ[i]?, a with
    | some (some (.L p _)), some (.L true xs) => handB (ρ.set i (some (.L p xs))) os r
    | some (some (.M p t _)), some (.M true t' kvs) => if t == t' then handB (ρ.set i (some (.M p t kvs))) os r else none
    | _, _ => none)
  | _ :: os, _ :: r => handB ρ os r
  | _ :: _, [] => none
/-- what a def is called with, what it hands back -/
abbrev Calls := Nat → Nat → Ev → R O
/-- the things of a law: data of its module's constants; the reader; the word of each error -/
structure Top where
  con : List D
  read : Nat
  word : Nat → Nat
  ne : Nat
deriving Inhabited
def isBor : O → Bool
  | .bor _ => true
  | _ => false
def callF (C : Calls) (n f : Nat) (os : List O) (ρ : Ev) : R O :=
  if onceEach (walked os) then R.opt (handL ρ os) fun args => match C n f args with
    | .ok o ρ1 => if isBor o = true then .stuck else R.opt (handB ρ os ρ1) fun ρ2 => .ok o ρ2
    | .exc c ρ1 => R.opt (handB ρ os ρ1) fun ρ2 => .exc c ρ2
    | .stuck => .stuck
  else .stuck
/-- one item after the other -/
def walkL {A : Type} (turn : D → A → Ev → R A) : List D → A → Ev → R A
  | [], acc, ρ => .ok acc ρ
  | x :: r, acc, ρ => (turn x acc ρ).bind (walkL turn r)
def optInt : O → Option Int
  | .d (.int i) => some i
  | _ => none
def isAbs : E → Bool
  | .abs => true
  | _ => false
/-- a value as a test, as a slice's bound -/
def asT (r : R O) : R Bool := r.bind fun o ρ1 => R.opt (truth (rs ρ1 o)) fun b => .ok b ρ1
def asI (r : R O) : R (Option Int) := r.bind fun o ρ1 => R.opt (optInt o) fun i => .ok (some i) ρ1
/-- the last of some truth values, or the first that decides -/
def onB (stop : Bool) (r : R O) (f : Ev → R O) : R O := r.bind fun o ρ1 => match o with
  | .d (.bl b) => if b = stop then .ok (.d (.bl b)) ρ1 else f ρ1
  | _ => .stuck
def ifB {α : Type} (r : R Bool) (f g : Ev → R α) : R α := r.bind fun b ρ => if b = true then f ρ else g ρ
/-- one turn of a comprehension -/
def compTurn (own : List Nat) (ρ1 : Ev) (ws : List Nat) (tg : Tg) (tests : Ev → R Bool) (elt : Ev → R O) (x : D) (acc : List D) (ρ : Ev) : R (List D) :=
  if stands ρ1 ρ ws = true then R.opt (bindT tg x ρ) fun ρ2 => ifB (tests ρ2)
    (fun ρ3 => (elt ρ3).bind fun o ρ4 => R.opt (keep ρ4 o) fun p => if acc.length < cap then .ok (acc ++ [p.1]) (wipe p.2 own) else .stuck)
    (fun ρ3 => .ok acc (wipe ρ3 own)) else .stuck
def compEnd (own : List Nat) (ρ1 : Ev) (ws : List Nat) (r : R (List D)) : R O :=
  (r.bind fun acc ρ5 => if stands ρ1 ρ5 ws = true then .ok (.L acc) (back ρ1 ρ5 own) else .stuck).calm
/-- the same of a dict -/
def dcTurn (own : List Nat) (ρ1 : Ev) (ws : List Nat) (tg : Tg) (tests : Ev → R Bool) (key val : Ev → R O) (x : D) (acc : List (D × D)) (ρ : Ev) : R (List (D × D)) :=
  if stands ρ1 ρ ws = true then R.opt (bindT tg x ρ) fun ρ2 => ifB (tests ρ2)
    (fun ρ3 => (key ρ3).bind fun k ρ4 => (val ρ4).bind fun v ρ5 => match k, v with
      | .d k, .d v => if keyOk k = true ∧ acc.length < cap then .ok (putK k v acc) (wipe ρ5 own) else .stuck
      | _, _ => .stuck)
    (fun ρ3 => .ok acc (wipe ρ3 own)) else .stuck
def dcEnd (own : List Nat) (ρ1 : Ev) (ws : List Nat) (r : R (List (D × D))) : R O :=
  (r.bind fun acc ρ5 => if stands ρ1 ρ5 ws = true then .ok (.M false acc) (back ρ1 ρ5 own) else .stuck).calm
/-- one turn of the outer clause of two -/
def compTurn2 {A : Type} (own : List Nat) (ρ1 : Ev) (ws : List Nat) (t1 : Tg) (it2 : Ev → R (List D × List Nat)) (vs1 : List Nat) (inner : Ev → List Nat → D → A → Ev → R A) (x : D) (acc : A) (ρ : Ev) : R A :=
  if stands ρ1 ρ ws = true then R.opt (bindT t1 x ρ) fun ρ2 => (it2 ρ2).bind fun p ρ3 => (walkL (inner ρ3 p.2) p.1 acc (wipe ρ3 vs1)).bind fun acc' ρ6 =>
    if stands ρ3 ρ6 p.2 = true then .ok acc' (wipe ρ6 own) else .stuck
  else .stuck
/-- what is walked, as items and slots -/
def iterF (k : Ik) (r : R (List O)) : R (List D × List Nat) := r.bind fun os ρ1 => R.opt (walk k (os.map (rs ρ1))) fun xs => .ok (xs, walked os) ρ1
def isL (ρ : Ev) (i : Nat) : Bool := match ρ[i]? with
  | some (some (.L _ _)) => true
  | _ => false
/-- a slot's own list or dict -/
def isLM (ρ : Ev) (i : Nat) : Bool := match ρ[i]? with
  | some (some (.L _ _)) => true
  | some (some (.M _ false _)) => true
  | _ => false
def appS (i : Nat) (x : D) (ρ : Ev) : R O := match ρ[i]? with
  | some (some (.L q xs)) => if xs.length < cap then .ok (.d .non) (ρ.set i (some (.L q (xs ++ [x])))) else .stuck
  | _ => .stuck
def popS (i : Nat) (ρ : Ev) : R O := match ρ[i]? with
  | some (some (.L q xs)) => R.opt xs[xs.length - 1]? fun x => .ok (.d x) (ρ.set i (some (.L q xs.dropLast)))
  | _ => .stuck
def getS (a y z : O) (ρ : Ev) : R O := R.opt (dictOf (rs ρ a)) fun m => match y, z with
  | .d k, .d v => if keyOk k = true then .ok (.d ((findK k m).getD v)) ρ else .stuck
  | _, _ => .stuck
/-- a slot's dict, which is never written again -/
def frzS (i : Nat) (ρ : Ev) : R O := match ρ[i]? with
  | some (some (.Z kvs)) => .ok (.Z kvs) ρ
  | some (some (.M false false kvs)) => .ok (.Z kvs) (ρ.set i (some (.Z kvs)))
  | _ => .stuck
def varS (i : Nat) (ρ : Ev) : R O := match ρ[i]? with
  | some (some (.d x)) => .ok (.d x) ρ
  | some (some (.F _)) => .stuck
  | some (some (.Z kvs)) => .ok (.Z kvs) ρ
  | some (some _) => .ok (.bor i) ρ
  | _ => .stuck
def toldS (T : Top) (C : Calls) (m : Nat) (r : R O) : R O := match r with
  | .ok o ρ1 => (callF C (m + 1) T.read [o] ρ1).calm.bind fun r ρ2 => R.opt (keep ρ2 r) fun p => .ok (.d (.tup [.int 0, p.1])) p.2
  | .exc c ρ1 => R.grd (decide (c < T.ne)) (.ok (.d (.tup [.int 1, .str (T.word c)])) ρ1)
  | .stuck => .stuck
/-- one of some defs -/
def fnS (fs : List Nat) (y : O) (ρ : Ev) : R O := match y with
  | .d (.int k) => if 0 ≤ k ∧ k < fs.length then R.opt fs[k.toNat]? fun f => .ok (.F f) ρ else .stuck
  | _ => .stuck
def callvS (C : Calls) (n i : Nat) (ρ : Ev) (r : R (List O)) : R O := match ρ[i]? with
  | some (some (.F f)) => r.bind fun os ρ1 => callF C n f os ρ1
  | _ => .stuck
/-- what may be shown -/
def shw (d : D) : Bool := lim d limit && (smal d && decide (wgt d ≤ 1000000))
def shown (o : O) : Option D := (look o).bind fun d => if shw d = true then some d else none
/-- repr(a) == repr(b), of the same data -/
def reqS (ne : Bool) (d : D) (o : O) (ρ : Ev) : R O := R.opt (shown o) fun e => if D.beq d e = true then .ok (.d (.bl (!ne))) ρ else .stuck
def okd (o : Option D) (ρ : Ev) : R O := R.opt o fun x => .ok (.d x) ρ
def oko (o : Option O) (ρ : Ev) : R O := R.opt o fun x => .ok x ρ
def okb (o : Option Bool) (ρ : Ev) : R O := R.opt o fun x => .ok (.d (.bl x)) ρ
mutual
def evE (T : Top) (C : Calls) : E → Nat → Ev → R O
  | .non, _, ρ => .ok (.d .non) ρ
  | .bl b, _, ρ => .ok (.d (.bl b)) ρ
  | .int i, _, ρ => .ok (.d (.int i)) ρ
  | .str k, _, ρ => .ok (.d (.str k)) ρ
  | .abs, _, _ => .stuck
  | .var i, _, ρ => varS i ρ
  | .con k, _, ρ => okd T.con[k]? ρ
  | .bin op a b, n, ρ => (evE T C a n ρ).bind fun x ρ1 => (evE T C b n ρ1).bind fun y ρ2 => oko (bin op (rs ρ2 x) (rs ρ2 y)) ρ2
  | .neg a, n, ρ => (evE T C a n ρ).bind fun x ρ1 => R.opt (optInt x) fun i => .ok (.d (.int (-i))) ρ1
  | .andL es, n, ρ => evAO T C false es n ρ
  | .orL es, n, ρ => evAO T C true es n ρ
  | .not_ a, n, ρ => (asT (evE T C a n ρ)).bind fun b ρ1 => .ok (.d (.bl (!b))) ρ1
  | .cmp op a b, n, ρ => (evE T C a n ρ).bind fun x ρ1 => (evE T C b n ρ1).bind fun y ρ2 => okb (cmp op (rs ρ2 x) (rs ρ2 y)) ρ2
  | .chain o1 o2 a b c, n, ρ => (evE T C a n ρ).bind fun x ρ1 => (evE T C b n ρ1).bind fun y ρ2 => R.opt (cmp o1 (rs ρ2 x) (rs ρ2 y)) fun k =>
      if k = true then (evE T C c n ρ2).bind fun z ρ3 => okb (cmp o2 (rs ρ3 y) (rs ρ3 z)) ρ3 else .ok (.d (.bl false)) ρ2
  | .ite c a b, n, ρ => ifB (asT (evE T C c n ρ)) (evE T C a n) (evE T C b n)
  | .tup es, n, ρ => (evL T C es n ρ).bind fun os ρ1 => R.opt (keeps ρ1 os) fun p => .ok (.d (.tup p.1)) p.2
  | .lst es, n, ρ => (evL T C es n ρ).bind fun os ρ1 => R.opt (keeps ρ1 os) fun p => .ok (.L p.1) p.2
  | .dnew t, _, ρ => .ok (.M t []) ρ
  | .ix a i, n, ρ => (evE T C a n ρ).bind fun x ρ1 => (evE T C i n ρ1).bind fun y ρ2 => okd (index (rs ρ2 x) (rs ρ2 y)) ρ2
  | .sl a lo hi, n, ρ => (evE T C a n ρ).bind fun x ρ1 => (if isAbs lo = true then .ok none ρ1 else asI (evE T C lo n ρ1)).bind fun l ρ2 =>
      (if isAbs hi = true then .ok none ρ2 else asI (evE T C hi n ρ2)).bind fun h ρ3 => oko (slice (rs ρ3 x) l h) ρ3
  | .rev a, n, ρ => (evE T C a n ρ).bind fun x ρ1 => oko (revd (rs ρ1 x)) ρ1
  | .req ne a b, n, ρ => (evE T C a n ρ).bind fun x ρ1 => R.opt (shown (rs ρ1 x)) fun d => (evE T C b n ρ1).bind fun y ρ2 => reqS ne d (rs ρ2 y) ρ2
  | .call f es, n, ρ => (evL T C es n ρ).bind fun os ρ1 => callF C n f os ρ1
  | .blt b es, n, ρ => (evL T C es n ρ).bind fun os ρ1 => oko (blt b (os.map (rs ρ1))) ρ1
  | .isi a t, n, ρ => (evE T C a n ρ).bind fun x ρ1 => okb (isTy t (rs ρ1 x)) ρ1
  | .app i e, n, ρ => if isL ρ i = true then (evE T C e n ρ).bind fun x ρ1 => R.opt (keep ρ1 x) fun p => appS i p.1 p.2 else .stuck
  | .pop i, _, ρ => popS i ρ
  | .cnt i x, n, ρ => (varS i ρ).bind fun y ρ1 => R.grd (itemsL (rs ρ1 y)).isSome ((evE T C x n ρ1).bind fun z ρ2 => oko (cntO (rs ρ2 y) (rs ρ2 z)) ρ2)
  | .frz i, _, ρ => frzS i ρ
  | .get2 i k x, n, ρ => (varS i ρ).bind fun a ρ1 => R.grd (dictOf (rs ρ1 a)).isSome ((evE T C k n ρ1).bind fun y ρ2 => (evE T C x n ρ2).bind fun z ρ3 => getS a y z ρ3)
  | .sdef _ _ _, _, _ => .stuck
  | .comp elt tg k es ifs own, n, ρ => (iterF k (evL T C es n ρ)).bind fun p ρ1 => compEnd own ρ1 p.2 (walkL (compTurn own ρ1 p.2 tg (evTs T C ifs n) (evE T C elt n)) p.1 [] (wipe ρ1 own))
  | .comp2 elt t1 k1 e1 t2 k2 e2 ifs own, n, ρ => (iterF k1 (evL T C e1 n ρ)).bind fun p ρ1 => compEnd own ρ1 p.2 (walkL (compTurn2 own ρ1 p.2 t1 (fun ρ2 => iterF k2 (evL T C e2 n ρ2)) (slots t2)
      fun ρ3 ws2 => compTurn (slots t2) ρ3 ws2 t2 (evTs T C ifs n) (evE T C elt n)) p.1 [] (wipe ρ1 own))
  | .dcomp _ key val tg k es ifs own, n, ρ => (iterF k (evL T C es n ρ)).bind fun p ρ1 => dcEnd own ρ1 p.2 (walkL (dcTurn own ρ1 p.2 tg (evTs T C ifs n) (evE T C key n) (evE T C val n)) p.1 [] (wipe ρ1 own))
  | .dcomp2 key val t1 k1 e1 t2 k2 e2 ifs own, n, ρ => (iterF k1 (evL T C e1 n ρ)).bind fun p ρ1 => dcEnd own ρ1 p.2 (walkL (compTurn2 own ρ1 p.2 t1 (fun ρ2 => iterF k2 (evL T C e2 n ρ2)) (slots t2)
      fun ρ3 ws2 => dcTurn (slots t2) ρ3 ws2 t2 (evTs T C ifs n) (evE T C key n) (evE T C val n)) p.1 [] (wipe ρ1 own))
  | .told b, n, ρ => match n with
    | m + 2 => toldS T C m (evE T C b m ρ)
    | _ => .stuck
  | .fns fs a, n, ρ => (evE T C a n ρ).bind fun y ρ1 => fnS fs y ρ1
  | .callv i es, n, ρ => callvS C n i ρ (evL T C es n ρ)
termination_by structural e => e
def evL (T : Top) (C : Calls) : List E → Nat → Ev → R (List O)
  | [], _, ρ => .ok [] ρ
  | e :: es, n, ρ => (evE T C e n ρ).bind fun o ρ1 => (evL T C es n ρ1).bind fun os ρ2 => .ok (o :: os) ρ2
termination_by structural es => es
def evTs (T : Top) (C : Calls) : List E → Nat → Ev → R Bool
  | [], _, ρ => .ok true ρ
  | e :: es, n, ρ => ifB (asT (evE T C e n ρ)) (evTs T C es n) (fun ρ1 => .ok false ρ1)
termination_by structural es => es
def evAO (T : Top) (C : Calls) (stop : Bool) : List E → Nat → Ev → R O
  | [], _, _ => .stuck
  | e :: es, n, ρ => match es with
    | [] => evE T C e n ρ
    | _ :: _ => onB stop (evE T C e n ρ) (evAO T C stop es n)
termination_by structural es => es
end
/-! ### statements -/
mutual
/-- the slots that a statement stores to -/
def sets : S → List Nat
  | .set i _ => [i]
  | .setT ts _ => slotss ts
  | .par is _ => is
  | .aug i _ _ => [i]
  | .ite _ a b => setss a ++ setss b
  | .for_ t _ _ b => slots t ++ setss b
  | .while_ _ b => setss b
  | _ => []
def setss : List S → List Nat
  | [] => []
  | s :: ss => sets s ++ setss ss
end
def big : Nat := 1048576
/-- one item after the other; brk leaves -/
def forL (ws : List Nat) (ρ0 : Ev) (tg : Tg) (body : Ev → R Fl) : List D → Ev → R Fl
  | [], ρ => if stands ρ0 ρ ws = true then .ok .nx ρ else .stuck
  | x :: r, ρ => if stands ρ0 ρ ws = true then R.opt (bindT tg x ρ) fun ρ1 => (body ρ1).bind fun fl ρ2 => match fl with
      | .nx => forL ws ρ0 tg body r ρ2
      | .cont => forL ws ρ0 tg body r ρ2
      | .brk => .ok .nx ρ2
      | .ret o => .ok (.ret o) ρ2
    else .stuck
def whileL (test : Ev → R Bool) (body : Ev → R Fl) : Nat → Ev → R Fl
  | 0, _ => .stuck
  | m + 1, ρ => ifB (test ρ) (fun ρ1 => (body ρ1).bind fun fl ρ2 => match fl with
      | .nx => whileL test body m ρ2
      | .cont => whileL test body m ρ2
      | .brk => .ok .nx ρ2
      | .ret o => .ok (.ret o) ρ2) (fun ρ1 => .ok .nx ρ1)
/-- several names take several values -/
def assigns (ρ : Ev) : List Nat → List O → Option Ev
  | [], os => match os with | [] => some ρ | _ :: _ => none
  | i :: is, os => match os with
    | [] => none
    | o :: os => (assign ρ i o).bind fun ρ1 => assigns ρ1 is os
def augI (op : Bop) (a b : Int) : Option Int := match op with
  | .add => some (a + b)
  | .sub => some (a - b)
  | _ => none
def nxt (o : Option Ev) : R Fl := R.opt o fun ρ => .ok .nx ρ
/-- a list or dict handed back: the def's own -/
def give (ρ : Ev) : O → Option (O × Ev)
  | .bor i => match ρ[i]? with
    | some (some (.L false xs)) => some (.L xs, ρ.set i none)
    | some (some (.M false t kvs)) => some (.M t kvs, ρ.set i none)
    | _ => none
  | .F _ => none
  | .Z _ => none
  | o => some (o, ρ)
mutual
def evS (T : Top) (C : Calls) : S → Nat → Ev → R Fl
  | .ex e, n, ρ => (evE T C e n ρ).bind fun _ ρ1 => .ok .nx ρ1
  | .ret e, n, ρ => (evE T C e n ρ).bind fun o ρ1 => .ok (.ret o) ρ1
  | .retN, _, ρ => .ok (.ret (.d .non)) ρ
  | .set i e, n, ρ => (evE T C e n ρ).bind fun o ρ1 => nxt (assign ρ1 i o)
  | .setT ts e, n, ρ => (evE T C e n ρ).bind fun o ρ1 => match o with
    | .d x => nxt (bindT (.tp ts) x ρ1)
    | _ => .stuck
  | .par is es, n, ρ => (evL T C es n ρ).bind fun os ρ1 => R.grd ((walked os).all fun k => !is.contains k) (nxt (assigns ρ1 is os))
  | .setIx i k e, n, ρ => (evE T C e n ρ).bind fun o ρ1 => R.opt (keep ρ1 o) fun p => R.grd (isLM p.2 i) ((evE T C k n p.2).bind fun y ρ2 => nxt (setAt ρ2 i y p.1))
  | .aug i op e, n, ρ => match ρ[i]? with
    | some (some (.d (.int a))) => (evE T C e n ρ).bind fun o ρ1 => R.opt (optInt o) fun b => R.opt (augI op a b) fun z => nxt (store ρ1 i (.d (.int z)))
    | _ => .stuck
  | .augIx _ _ _ _, _, _ => .stuck
  | .ite c a b, n, ρ => ifB (asT (evE T C c n ρ)) (evB T C a n) (evB T C b n)
  | .for_ tg k es b, n, ρ => (iterF k (evL T C es n ρ)).bind fun p ρ1 => R.grd (p.2.all fun i => !(slots tg ++ setss b).contains i) (forL p.2 ρ1 tg (evB T C b n) p.1 ρ1)
  | .while_ c b, n, ρ => whileL (fun ρ => asT (evE T C c n ρ)) (evB T C b n) big ρ
  | .raise c, _, ρ => .exc c ρ
  | .pass, _, ρ => .ok .nx ρ
  | .brk, _, ρ => .ok .brk ρ
  | .cont, _, ρ => .ok .cont ρ
termination_by structural s => s
def evB (T : Top) (C : Calls) : List S → Nat → Ev → R Fl
  | [], _, ρ => .ok .nx ρ
  | s :: ss, n, ρ => (evS T C s n ρ).bind fun fl ρ1 => match fl with
    | .nx => evB T C ss n ρ1
    | fl => .ok fl ρ1
termination_by structural ss => ss
end
/-! ### defs -/
structure Def where
  np : Nat
  nl : Nat
  body : List S
deriving Inhabited
/-- the caller's part of the slots: the first ones -/
def outs (k : Nat) (args ρ : Ev) : Option Ev := match k, args, ρ with
  | 0, _, _ => some []
  | k + 1, a :: args, r :: ρ => (match a with
    | some (.L true _) => (match r with
      | some (.L true xs) => some (some (W.L true xs))
      | _ => none)
    | some (.M true t _) => (match r with
      | some (.M true t' kvs) => if t == t' then some (some (W.M true t kvs)) else none
      | _ => none)
    | _ => some (none : Option W)).bind fun w => (outs k args ρ).map (w :: ·)
  | _ + 1, _, _ => none
def runD (T : Top) (C : Calls) (d : Def) (n : Nat) (args : Ev) : R O :=
  if args.length = d.np then match evB T C d.body n (args ++ List.replicate d.nl none) with
    | .ok fl ρ => (match fl with
      | .nx => R.opt (outs args.length args ρ) fun r => .ok (.d .non) r
      | .ret o => R.opt (give ρ o) fun p => R.opt (outs args.length args p.2) fun r => .ok p.1 r
      | _ => .stuck)
    | .exc c ρ => R.opt (outs args.length args ρ) fun r => .exc c r
    | .stuck => .stuck
  else .stuck
/-- the calls of level up to n -/
def calls (T : Top) (ds : List Def) : Nat → Calls
  | 0 => fun _ _ _ => .stuck
  | n + 1 => fun m f args => if m = n + 1 then (match ds[f]? with
      | some d => runD T (calls T ds n) d n args
      | none => .stuck) else calls T ds n m f args
/-- f(args) at level n -/
def call (T : Top) (ds : List Def) (n f : Nat) (args : Ev) : R O := calls T ds n n f args
theorem calls_le (T : Top) (ds : List Def) : ∀ {n m : Nat}, m ≤ n → calls T ds n m = calls T ds m m
  | 0, m, h => by
    have e : m = 0 := by omega
    rw [e]
  | n + 1, m, h => by
    by_cases e : m = n + 1
    · rw [e]
    · have h1 : calls T ds (n + 1) m = calls T ds n m := by
        funext f args
        show (if m = n + 1 then _ else calls T ds n m f args) = _
        rw [if_neg e]
      rw [h1]
      exact calls_le T ds (by omega)
theorem call_succ (T : Top) (ds : List Def) (n f : Nat) (args : Ev) : call T ds (n + 1) f args = match ds[f]? with
    | some d => runD T (calls T ds n) d n args
    | none => .stuck := by
  show (if n + 1 = n + 1 then _ else _) = _
  rw [if_pos rfl]
end Ev
/-! Ev1: how data stand in the abstract heap; states; the lifted judgement. -/
namespace Ev
open PySem PySem.Spec PyProof.Rows L2
/-- the world: the written part, the texts, the tables of code objects, the errors' classes -/
structure Wo where
  K : PySem.W.Frag
  ST : List Str
  TT : List (Addr × Str)
  cls : Nat → Value
  fa : Nat → Addr
  f1 : Nat → Bool
abbrev Fz := Addr → Prop
/-- a list that stands still: tracked, or written -/
def SL (Z : Wo) (F : Fz) (H : Hp) (a : Addr) (vs : List V) : Prop :=
  (F a ∧ Rd H a (.lst vs)) ∨
    ∃ (o : Obj) (its : Array Value) (n : Nat), Z.K.lookup a = some o ∧ o.cls = .type "list" ∧ o.dict = none ∧ o.data = .seq its n ∧ its.size ≤ sizeLine ∧ Vals vs its.toList
theorem SL.sq {Z : Wo} {F : Fz} {H : Hp} {a : Addr} {vs : List V} (h : SL Z F H a vs) : SqL Z.K H a vs := h.elim (fun x => .inl x.2) .inr
mutual
def Rp (Z : Wo) (F : Fz) (H : Hp) : D → V → Prop
  | .non, v => v = .non
  | .bl b, v => v = .bl b
  | .int i, v => v = .int i
  | .str n, v => ∃ x, Z.ST[n]? = some x ∧ v = .str x
  | .tup xs, v => ∃ a vs, v = .ref a ∧ SqT Z.K H a vs ∧ Rps Z F H xs vs
  | .lst xs, v => ∃ a vs, v = .ref a ∧ SL Z F H a vs ∧ Rps Z F H xs vs
def Rps (Z : Wo) (F : Fz) (H : Hp) : List D → List V → Prop
  | [], vs => vs = []
  | x :: xs, vs => ∃ v r, vs = v :: r ∧ Rp Z F H x v ∧ Rps Z F H xs r
end
/-- what data lean on stays -/
structure Up (F : Fz) (H : Hp) (F' : Fz) (H' : Hp) : Prop where
  tups : ∀ a vs, H a = some (.tup vs) → H' a = some (.tup vs)
  frzs : ∀ a o u, H a = some (.frz o u) → H' a = some (.frz o u)
  fin : ∀ a, F a → F' a
  fkeep : ∀ a vs, F a → H a = some (.lst vs) → H' a = some (.lst vs)
theorem Up.refl {F : Fz} {H : Hp} : Up F H F H := ⟨fun _ _ h => h, fun _ _ _ h => h, fun _ h => h, fun _ _ _ h => h⟩
theorem Up.of_same {F : Fz} {H H' : Hp} (h : Same H H') : Up F H F H' := ⟨fun _ _ e => h _ _ e, fun _ _ _ e => h _ _ e, fun _ h => h, fun _ _ _ e => h _ _ e⟩
section
variable {Z : Wo} {F F' : Fz} {H H' : Hp}
theorem Up.sqT {a : Addr} {vs : List V} (u : Up F H F' H') (h : SqT Z.K H a vs) : SqT Z.K H' a vs := by
  rcases h with (h | ⟨o, h⟩) | h
  · exact .inl (.inl (u.tups _ _ h))
  · exact .inl (.inr ⟨o, u.frzs _ _ _ h⟩)
  · exact .inr h
theorem Up.sl {a : Addr} {vs : List V} (u : Up F H F' H') (h : SL Z F H a vs) : SL Z F' H' a vs := by
  rcases h with ⟨f, h | ⟨o, h⟩⟩ | h
  · exact .inl ⟨u.fin _ f, .inl (u.fkeep _ _ f h)⟩
  · exact .inl ⟨u.fin _ f, .inr ⟨o, u.frzs _ _ _ h⟩⟩
  · exact .inr h
mutual
theorem Rp.up (u : Up F H F' H') : ∀ {x : D} {v : V}, Rp Z F H x v → Rp Z F' H' x v
  | .non, _, h => by simpa only [Rp] using h
  | .bl _, _, h => by simpa only [Rp] using h
  | .int _, _, h => by simpa only [Rp] using h
  | .str _, _, h => by simpa only [Rp] using h
  | .tup xs, v, h => by
    simp only [Rp] at h ⊢
    obtain ⟨a, vs, e, s, r⟩ := h
    exact ⟨a, vs, e, u.sqT s, Rps.up u r⟩
  | .lst xs, v, h => by
    simp only [Rp] at h ⊢
    obtain ⟨a, vs, e, s, r⟩ := h
    exact ⟨a, vs, e, u.sl s, Rps.up u r⟩
theorem Rps.up (u : Up F H F' H') : ∀ {xs : List D} {vs : List V}, Rps Z F H xs vs → Rps Z F' H' xs vs
  | [], _, h => by simpa only [Rps] using h
  | x :: xs, _, h => by
    simp only [Rps] at h ⊢
    obtain ⟨v, r, e, h1, h2⟩ := h
    exact ⟨v, r, e, Rp.up u h1, Rps.up u h2⟩
end
theorem Rps.nil : Rps Z F H [] [] := by simp only [Rps]
theorem Rps.cons {x : D} {v : V} {xs : List D} {vs : List V} (h : Rp Z F H x v) (t : Rps Z F H xs vs) : Rps Z F H (x :: xs) (v :: vs) := by
  simp only [Rps]
  exact ⟨v, vs, rfl, h, t⟩
theorem Rps.inv {x : D} {xs : List D} {vs : List V} (h : Rps Z F H (x :: xs) vs) : ∃ v r, vs = v :: r ∧ Rp Z F H x v ∧ Rps Z F H xs r := by simpa only [Rps] using h
theorem Rps.inv0 {vs : List V} (h : Rps Z F H [] vs) : vs = [] := by simpa only [Rps] using h
theorem Rps.len : ∀ {xs : List D} {vs : List V}, Rps Z F H xs vs → xs.length = vs.length
  | [], _, h => by rw [h.inv0]; rfl
  | x :: xs, _, h => by
    obtain ⟨v, r, e, h1, h2⟩ := h.inv
    rw [e, List.length_cons, List.length_cons, Rps.len h2]
theorem Rps.get : ∀ {xs : List D} {vs : List V} {i : Nat} {x : D}, Rps Z F H xs vs → xs[i]? = some x → ∃ v, vs[i]? = some v ∧ Rp Z F H x v
  | [], _, i, x, _, e => by simp at e
  | y :: xs, _, 0, x, h, e => by
    obtain ⟨v, r, e2, h1, h2⟩ := h.inv
    have : y = x := by simpa using e
    subst this
    exact ⟨v, by rw [e2]; rfl, h1⟩
  | y :: xs, _, i + 1, x, h, e => by
    obtain ⟨v, r, e2, h1, h2⟩ := h.inv
    obtain ⟨w, e3, h3⟩ := Rps.get (i := i) (x := x) h2 (by simpa using e)
    exact ⟨w, by rw [e2]; simpa using e3, h3⟩
theorem Rps.append : ∀ {xs ys : List D} {vs ws : List V}, Rps Z F H xs vs → Rps Z F H ys ws → Rps Z F H (xs ++ ys) (vs ++ ws)
  | [], _, _, _, h, t => by rw [h.inv0]; exact t
  | x :: xs, _, _, _, h, t => by
    obtain ⟨v, r, e, h1, h2⟩ := h.inv
    rw [e]
    exact .cons h1 (Rps.append h2 t)
theorem Rps.set {x : D} {v : V} (hx : Rp Z F H x v) : ∀ {xs : List D} {vs : List V} (i : Nat), Rps Z F H xs vs → Rps Z F H (xs.set i x) (vs.set i v)
  | [], _, i, h => by
    rw [h.inv0]
    exact .nil
  | y :: xs, _, 0, h => by
    obtain ⟨w, r, e, h1, h2⟩ := h.inv
    rw [e]
    exact .cons hx h2
  | y :: xs, _, i + 1, h => by
    obtain ⟨w, r, e, h1, h2⟩ := h.inv
    rw [e]
    exact .cons h1 (Rps.set hx i h2)
theorem Rps.take : ∀ {xs : List D} {vs : List V} (n : Nat), Rps Z F H xs vs → Rps Z F H (xs.take n) (vs.take n)
  | [], _, n, h => by
    rw [h.inv0]
    simpa using Rps.nil
  | x :: xs, _, 0, h => by simpa using Rps.nil
  | x :: xs, _, n + 1, h => by
    obtain ⟨w, r, e, h1, h2⟩ := h.inv
    rw [e]
    exact .cons h1 (Rps.take n h2)
theorem Rps.drop : ∀ {xs : List D} {vs : List V} (n : Nat), Rps Z F H xs vs → Rps Z F H (xs.drop n) (vs.drop n)
  | [], _, n, h => by
    rw [h.inv0]
    simpa using Rps.nil
  | x :: xs, _, 0, h => h
  | x :: xs, _, n + 1, h => by
    obtain ⟨w, r, e, h1, h2⟩ := h.inv
    rw [e]
    exact Rps.drop n h2
theorem Rps.reverse : ∀ {xs : List D} {vs : List V}, Rps Z F H xs vs → Rps Z F H xs.reverse vs.reverse
  | [], _, h => by
    rw [h.inv0]
    exact .nil
  | x :: xs, _, h => by
    obtain ⟨w, r, e, h1, h2⟩ := h.inv
    rw [e, List.reverse_cons, List.reverse_cons]
    exact (Rps.reverse h2).append (.cons h1 .nil)
end
/-! ### dicts -/
def keyD (Z : Wo) : Key → D → Prop
  | .inl i, x => x = .int i
  | .inr s, x => ∃ n, Z.ST[n]? = some s ∧ x = .str n
def DicK (Z : Wo) (F : Fz) (H : Hp) (p : Key × V) (q : D × D) : Prop := keyD Z p.1 q.1 ∧ Rp Z F H q.2 p.2
def DicT (Z : Wo) (F : Fz) (H : Hp) (p : List Key × V) (q : D × D) : Prop := (∃ ds, q.1 = .tup ds ∧ Paired (keyD Z) p.1 ds) ∧ Rp Z F H q.2 p.2
def Dic (Z : Wo) (F : Fz) (H : Hp) : Bool → Addr → List (D × D) → Prop
  | false, a, kvs => ∃ ps, H a = some (.dK ps) ∧ Paired (DicK Z F H) ps kvs
  | true, a, kvs => ∃ ps, H a = some (.dT ps) ∧ Paired (DicT Z F H) ps kvs
theorem Dic.up {Z : Wo} {F F' : Fz} {H H' : Hp} {t : Bool} {a : Addr} {kvs : List (D × D)} (u : Up F H F' H') (k : ∀ o, H a = some o → H' a = some o) (h : Dic Z F H t a kvs) : Dic Z F' H' t a kvs := by
  cases t with
  | false =>
    obtain ⟨ps, e, p⟩ := h
    exact ⟨ps, k _ e, L2.Paired.mapP p fun _ _ q => ⟨q.1, q.2.up u⟩⟩
  | true =>
    obtain ⟨ps, e, p⟩ := h
    exact ⟨ps, k _ e, L2.Paired.mapP p fun _ _ q => ⟨q.1, q.2.up u⟩⟩
/-- a dict that is never written again -/
def DicZ (Z : Wo) (F : Fz) (H : Hp) (a : Addr) (kvs : List (D × D)) : Prop := ∃ o ps, H a = some (.frz o (.dK ps)) ∧ Paired (DicK Z F H) ps kvs
theorem DicZ.up {Z : Wo} {F F' : Fz} {H H' : Hp} {a : Addr} {kvs : List (D × D)} (u : Up F H F' H') (h : DicZ Z F H a kvs) : DicZ Z F' H' a kvs := by
  obtain ⟨o, ps, e, p⟩ := h
  exact ⟨o, ps, u.frzs _ _ _ e, L2.Paired.mapP p fun _ _ q => ⟨q.1, q.2.up u⟩⟩
/-- nothing there, but for a table of code objects -/
def NoO : Option HO → Prop
  | none => True
  | some (.tbl _) => True
  | some _ => False
theorem NoO.none {o : Option HO} (h : o = none) : NoO o := by
  rw [h]
  trivial
theorem NoO.tbl {u : HO} (h : NoO (some u)) : ∃ ps, u = .tbl ps := by
  cases u <;> first | exact ⟨_, rfl⟩ | exact h.elim
theorem NoO.of_not {o : Option HO} (h : ¬ ¬ NoO o) : NoO o := Classical.byContradiction h
/-! ### slots -/
def isOwn : W → Bool
  | .d _ => false
  | .F _ => false
  | .Z _ => false
  | _ => true
def RpW (Z : Wo) (F : Fz) (H : Hp) : W → V → Prop
  | .d x, v => Rp Z F H x v
  | .L _ xs, v => ∃ a vs, v = .ref a ∧ H a = some (.lst vs) ∧ Rps Z F H xs vs ∧ ¬ F a
  | .M _ t kvs, v => ∃ a, v = .ref a ∧ Dic Z F H t a kvs ∧ ¬ F a
  | .F f, v => Z.f1 f = true ∧ v = .ref (Z.fa f)
  | .Z kvs, v => ∃ a, v = .ref a ∧ DicZ Z F H a kvs
def Own (σ : L2.St) (ρ : Ev) (a : Addr) : Prop := ∃ (i : Nat) (w : W), ρ[i]? = some (some w) ∧ isOwn w = true ∧ σ[i]? = some (some (V.ref a))
structure Sta (Z : Wo) (F : Fz) (H : Hp) (σ : L2.St) (ρ : Ev) : Prop where
  len : ρ.length = σ.length
  rep : ∀ (i : Nat) (w : W), ρ[i]? = some (some w) → ∃ v, σ[i]? = some (some v) ∧ RpW Z F H w v
  inj : ∀ (i j : Nat) (wi wj : W) (a : Addr), ρ[i]? = some (some wi) → ρ[j]? = some (some wj) → isOwn wi = true → isOwn wj = true → σ[i]? = some (some (.ref a)) → σ[j]? = some (some (.ref a)) → i = j
  tabs : LamX.Tabs Z.TT H
  ft : ∀ a, F a → ¬ NoO (H a)
structure Stp (Z : Wo) (ow : Addr → Prop) (F : Fz) (H : Hp) (F' : Fz) (H' : Hp) : Prop where
  keep : ∀ b o, H b = some o → ¬ ow b → (∀ ps, o ≠ .tbl ps) → H' b = some o
  there : ∀ b, ¬ NoO (H b) → ¬ NoO (H' b)
  fin : ∀ b, F b → F' b
  fout : ∀ b, F' b → F b ∨ NoO (H b) ∨ ow b
section
variable {Z : Wo} {F F' F1 F2 : Fz} {H H' H1 H2 : Hp} {σ : L2.St} {ρ ρ' ρ1 ρ2 : Ev} {ow ow' : Addr → Prop}
theorem Stp.refl : Stp Z ow F H F H := ⟨fun _ _ h _ _ => h, fun _ h => h, fun _ h => h, fun _ h => .inl h⟩
theorem Stp.of_same (h : Same H H') : Stp Z ow F H F H' := ⟨fun _ _ e _ _ => h _ _ e, fun b n => by
  cases q : H b with
  | none => exact absurd (.none q) n
  | some o =>
    rw [h _ _ q, ← q]
    exact n, fun _ h => h, fun _ h => .inl h⟩
theorem Stp.trans (a : Stp Z ow F H F1 H1) (b : Stp Z ow' F1 H1 F2 H2) (o : ∀ x, ow' x → ow x ∨ NoO (H x)) : Stp Z ow F H F2 H2 := by
  refine ⟨fun x u e n t => ?_, fun x n => b.there _ (a.there _ n), fun x f => b.fin _ (a.fin _ f), fun x f => ?_⟩
  · refine b.keep x u (a.keep x u e n t) (fun z => ?_) t
    rcases o x z with z | z
    · exact n z
    · rw [e] at z
      obtain ⟨ps, z⟩ := z.tbl
      exact t ps z
  · rcases b.fout x f with z | z | z
    · exact a.fout x z
    · exact .inr (.inl (.of_not fun y => a.there x y z))
    · rcases o x z with z | z
      · exact .inr (.inr z)
      · exact .inr (.inl z)
theorem Sta.kind (s : Sta Z F H σ ρ) {a : Addr} (h : Own σ ρ a) : ((∃ vs, H a = some (.lst vs)) ∨ (∃ ps, H a = some (.dK ps)) ∨ ∃ ps, H a = some (.dT ps)) ∧ ¬ F a := by
  obtain ⟨i, w, e1, e2, e3⟩ := h
  obtain ⟨v, e4, r⟩ := s.rep i w e1
  rw [e3] at e4
  have e5 : v = .ref a := (Option.some.inj (Option.some.inj e4)).symm
  subst e5
  cases w with
  | d x => cases e2
  | F f => cases e2
  | Z kvs => cases e2
  | L p xs =>
    obtain ⟨b, vs, e, h1, _, h2⟩ := r
    cases e
    exact ⟨.inl ⟨vs, h1⟩, h2⟩
  | M p t kvs =>
    obtain ⟨b, e, h1, h2⟩ := r
    cases e
    refine ⟨?_, h2⟩
    cases t with
    | false =>
      obtain ⟨ps, h1, _⟩ := h1
      exact .inr (.inl ⟨ps, h1⟩)
    | true =>
      obtain ⟨ps, h1, _⟩ := h1
      exact .inr (.inr ⟨ps, h1⟩)
theorem Sta.up (s : Sta Z F H σ ρ) (p : Stp Z (Own σ ρ) F H F' H') : Up F H F' H' := by
  refine ⟨fun a vs e => p.keep a _ e (fun z => ?_) (fun _ q => by cases q), fun a o u e => p.keep a _ e (fun z => ?_) (fun _ q => by cases q), p.fin, fun a vs f e => p.keep a _ e (fun z => (s.kind z).2 f) (fun _ q => by cases q)⟩
  · rcases (s.kind z).1 with ⟨_, q⟩ | ⟨_, q⟩ | ⟨_, q⟩ <;> · rw [e] at q; cases q
  · rcases (s.kind z).1 with ⟨_, q⟩ | ⟨_, q⟩ | ⟨_, q⟩ <;> · rw [e] at q; cases q
theorem RpW.up {w : W} {v : V} (u : Up F H F' H') (k : ∀ a, v = .ref a → isOwn w = true → (∀ o, H a = some o → H' a = some o) ∧ ¬ F' a) (h : RpW Z F H w v) : RpW Z F' H' w v := by
  cases w with
  | d x => exact Rp.up u h
  | F f => exact h
  | Z kvs =>
    obtain ⟨a, e, h1⟩ := h
    exact ⟨a, e, h1.up u⟩
  | L p xs =>
    obtain ⟨a, vs, e, h1, h2, h3⟩ := h
    obtain ⟨k1, k2⟩ := k a e rfl
    exact ⟨a, vs, e, k1 _ h1, h2.up u, k2⟩
  | M p t kvs =>
    obtain ⟨a, e, h1, h2⟩ := h
    obtain ⟨k1, k2⟩ := k a e rfl
    exact ⟨a, e, h1.up u k1, k2⟩
/-- new objects, or tables: the state as it is -/
theorem Sta.same (s : Sta Z F H σ ρ) (h : Same H H') : Sta Z F H' σ ρ := by
  refine ⟨s.len, fun i w e => ?_, s.inj, s.tabs.ext h, fun a f => (Stp.of_same (Z := Z) (ow := fun _ => False) (F := F) h).there a (s.ft a f)⟩
  obtain ⟨v, e2, r⟩ := s.rep i w e
  refine ⟨v, e2, r.up (.of_same h) fun a ea ho => ⟨fun o q => h _ _ q, ?_⟩⟩
  subst ea
  exact (s.kind ⟨i, w, e, ho, e2⟩).2
theorem own_of {i : Nat} {w : W} {a : Addr} (e : ρ[i]? = some (some w)) (o : isOwn w = true) (e2 : σ[i]? = some (some (.ref a))) : Own σ ρ a := ⟨i, w, e, o, e2⟩
end
/-! ### what an expression gives -/
def Out (Z : Wo) (F : Fz) (H : Hp) (σ : L2.St) (ρ : Ev) : O → V → Prop
  | .d x, v => Rp Z F H x v
  | .L xs, v => ∃ a vs, v = .ref a ∧ H a = some (.lst vs) ∧ Rps Z F H xs vs ∧ ¬ F a ∧ ¬ Own σ ρ a
  | .M t kvs, v => ∃ a, v = .ref a ∧ Dic Z F H t a kvs ∧ ¬ F a ∧ ¬ Own σ ρ a
  | .bor i, v => σ[i]? = some (some v)
  | .F f, v => Z.f1 f = true ∧ v = .ref (Z.fa f)
  | .Z kvs, v => ∃ a, v = .ref a ∧ DicZ Z F H a kvs
def isNew : O → Bool
  | .L _ => true
  | .M _ _ => true
  | _ => false
/-- a new list or dict was not there -/
def Frs (H : Hp) (o : O) (v : V) : Prop := isNew o = true → ∀ a, v = .ref a → NoO (H a)
/-- a value as it stands -/
def Rv (Z : Wo) (F : Fz) (H : Hp) : O → V → Prop
  | .d x, v => Rp Z F H x v
  | .L xs, v => ∃ a vs, v = .ref a ∧ H a = some (.lst vs) ∧ Rps Z F H xs vs
  | .M t kvs, v => ∃ a, v = .ref a ∧ Dic Z F H t a kvs
  | .bor _, _ => True
  | .F f, v => Z.f1 f = true ∧ v = .ref (Z.fa f)
  | .Z kvs, v => ∃ a, v = .ref a ∧ DicZ Z F H a kvs
section
variable {Z : Wo} {F F' F1 F2 : Fz} {H H' H1 H2 : Hp} {σ : L2.St} {ρ ρ' ρ1 ρ2 : Ev}
theorem Out.dp {x : D} {v : V} (h : Out Z F H σ ρ (.d x) v) : Rp Z F H x v := h
theorem Out.rv (s : Sta Z F H σ ρ) {o : O} {v : V} (h : Out Z F H σ ρ o v) : Rv Z F H (rs ρ o) v := by
  cases o with
  | d x => exact h
  | F f => exact h
  | Z kvs => exact h
  | L xs =>
    obtain ⟨a, vs, e, h1, h2, _⟩ := h
    exact ⟨a, vs, e, h1, h2⟩
  | M t kvs =>
    obtain ⟨a, e, h1, _⟩ := h
    exact ⟨a, e, h1⟩
  | bor i =>
    have e : σ[i]? = some (some v) := h
    cases e2 : ρ[i]? with
    | none => simp only [rs, e2, Rv]
    | some x =>
      cases x with
      | none => simp only [rs, e2, Rv]
      | some w =>
        obtain ⟨v', e3, r⟩ := s.rep i w e2
        rw [e] at e3
        have e4 : v = v' := Option.some.inj (Option.some.inj e3)
        subst e4
        cases w with
        | d x => simp only [rs, e2, Rv]
        | F f => simp only [rs, e2, Rv]
        | Z kvs => simp only [rs, e2, Rv]
        | L p xs =>
          obtain ⟨a, vs, e, h1, h2, _⟩ := r
          simp only [rs, e2, Rv]
          exact ⟨a, vs, e, h1, h2⟩
        | M p t kvs =>
          obtain ⟨a, e, h1, _⟩ := r
          simp only [rs, e2, Rv]
          exact ⟨a, e, h1⟩
/-- the caller's lists in the slots stay there -/
def isP : W → Bool
  | .L p _ => p
  | .M p _ _ => p
  | .d _ => false
  | .F _ => false
  | .Z _ => false
def Pk (σ0 : L2.St) (ρ0 : Ev) (σ1 : L2.St) (ρ1 : Ev) : Prop := ∀ (i : Nat) (w : W), ρ1[i]? = some (some w) → isP w = true → (∃ w0, ρ0[i]? = some (some w0) ∧ isP w0 = true) ∧ σ1[i]? = σ0[i]?
theorem Pk.refl {σ : L2.St} {ρ : Ev} : Pk σ ρ σ ρ := fun i w h p => ⟨⟨w, h, p⟩, rfl⟩
theorem Pk.trans {σ0 σ1 σ2 : L2.St} {ρ0 ρ1 ρ2 : Ev} (a : Pk σ0 ρ0 σ1 ρ1) (b : Pk σ1 ρ1 σ2 ρ2) : Pk σ0 ρ0 σ2 ρ2 := fun i w h p => by
  obtain ⟨⟨w1, h1, p1⟩, e1⟩ := b i w h p
  obtain ⟨h0, e0⟩ := a i w1 h1 p1
  exact ⟨h0, e1.trans e0⟩
/-- from one state to a later one -/
structure Path (Z : Wo) (σ0 : L2.St) (F0 : Fz) (H0 : Hp) (ρ0 : Ev) (σ1 : L2.St) (F1 : Fz) (H1 : Hp) (ρ1 : Ev) : Prop where
  st : Sta Z F1 H1 σ1 ρ1
  sp : Stp Z (Own σ0 ρ0) F0 H0 F1 H1
  sub : ∀ b, Own σ1 ρ1 b → Own σ0 ρ0 b ∨ NoO (H0 b)
  pp : Pk σ0 ρ0 σ1 ρ1
theorem Path.refl (s : Sta Z F H σ ρ) : Path Z σ F H ρ σ F H ρ := ⟨s, .refl, fun _ h => .inl h, .refl⟩
theorem Path.trans {σ0 σ1 σ2 : L2.St} {F0 : Fz} {H0 : Hp} {ρ0 : Ev} (a : Path Z σ0 F0 H0 ρ0 σ1 F1 H1 ρ1) (b : Path Z σ1 F1 H1 ρ1 σ2 F2 H2 ρ2) : Path Z σ0 F0 H0 ρ0 σ2 F2 H2 ρ2 := by
  refine ⟨b.st, a.sp.trans b.sp a.sub, fun x h => ?_, a.pp.trans b.pp⟩
  rcases b.sub x h with z | z
  · exact a.sub x z
  · exact .inr (.of_not fun y => a.sp.there x y z)
theorem Path.same {σ0 σ1 : L2.St} {F0 : Fz} {H0 : Hp} {ρ0 : Ev} (a : Path Z σ0 F0 H0 ρ0 σ1 F1 H1 ρ1) (h : Same H1 H2) : Path Z σ0 F0 H0 ρ0 σ1 F1 H2 ρ1 :=
  a.trans ⟨a.st.same h, .of_same h, fun _ z => .inl z, .refl⟩
/-- a value kept over a further step -/
theorem Out.step {σ' : L2.St} (s : Sta Z F H σ ρ) (p : Path Z σ F H ρ σ' F' H' ρ') (e : ∀ (i : Nat) (v : V), σ[i]? = some (some v) → σ'[i]? = some (some v)) {o : O} {v : V} (h : Out Z F H σ ρ o v) : Out Z F' H' σ' ρ' o v := by
  have u := s.up p.sp
  have sp := p.sp
  cases o with
  | d x => exact Rp.up u h
  | F f => exact h
  | Z kvs =>
    obtain ⟨a, e, h1⟩ := h
    exact ⟨a, e, h1.up u⟩
  | L xs =>
    obtain ⟨a, vs, e, h1, h2, h3, h4⟩ := h
    refine ⟨a, vs, e, sp.keep _ _ h1 h4 (fun _ q => by cases q), h2.up u, fun z => ?_, fun z => ?_⟩
    · rcases sp.fout a z with z | z | z
      · exact h3 z
      · rw [h1] at z; cases z
      · exact h4 z
    · rcases p.sub _ z with z | z
      · exact h4 z
      · rw [h1] at z; cases z
  | M t kvs =>
    obtain ⟨a, e, h1, h3, h4⟩ := h
    have hk : ∃ o, H a = some o ∧ ∀ ps, o ≠ .tbl ps := by
      cases t with
      | false =>
        obtain ⟨ps, q, _⟩ := h1
        exact ⟨_, q, fun _ z => by cases z⟩
      | true =>
        obtain ⟨ps, q, _⟩ := h1
        exact ⟨_, q, fun _ z => by cases z⟩
    obtain ⟨o, ho, hn⟩ := hk
    refine ⟨a, e, h1.up u fun o' q => ?_, fun z => ?_, fun z => ?_⟩
    · rw [ho] at q
      cases q
      exact sp.keep _ _ ho h4 hn
    · rcases sp.fout a z with z | z | z
      · exact h3 z
      · rw [ho] at z; obtain ⟨ps, z⟩ := z.tbl; exact hn ps z
      · exact h4 z
    · rcases p.sub _ z with z | z
      · exact h4 z
      · rw [ho] at z; obtain ⟨ps, z⟩ := z.tbl; exact hn ps z
  | bor i => exact e i v h
theorem Frs.back {σ0 : L2.St} {F0 : Fz} {H0 : Hp} {ρ0 : Ev} (p : Path Z σ0 F0 H0 ρ0 σ F H ρ) {o : O} {v : V} (h : Frs H o v) : Frs H0 o v := fun n a e => by
  exact .of_not fun y => p.sp.there a y (h n a e)
end
/-! ### the lifted judgement: what is wanted of what the evaluator gives -/
section
variable {Z : Wo} {E : XK} {α β γ δ : Type}
/-- how a result stands: relation of the start's heap, the end's -/
abbrev Rel (α β : Type) := L2.St → Hp → Fz → Hp → Ev → α → β → Prop
def PostG (Z : Wo) (E : XK) (rel : Rel α β) (σ : L2.St) (F0 : Fz) (H0 : Hp) (ρ0 : Ev) (r : R α) (Q : β → Hp → Prop) : Prop := match r with
  | .ok a ρ' => ∀ b F' H', Path Z σ F0 H0 ρ0 σ F' H' ρ' → rel σ H0 F' H' ρ' a b → Q b H'
  | .exc c ρ' => ∀ F' H', Path Z σ F0 H0 ρ0 σ F' H' ρ' → E (Z.cls c) none H'
  | .stuck => False
def LG (Z : Wo) (E : XK) (rel : Rel α β) (f : Ev → R α) : L2.St → Hp → (β → Hp → Prop) → Prop := fun σ H Q =>
  ∃ F0 H0 ρ0 F ρ, Path Z σ F0 H0 ρ0 σ F H ρ ∧ PostG Z E rel σ F0 H0 ρ0 (f ρ) Q
/-- a part runs -/
theorem runE {rel : Rel α β} {rel' : Rel γ δ} {σ : L2.St} {F0 F1 : Fz} {H0 H1 : Hp} {ρ0 ρ1 : Ev} {g : Ev → R α} {k : α → Ev → R γ} {Q : δ → Hp → Prop} {Q2 : β → Hp → Prop}
    (p : Path Z σ F0 H0 ρ0 σ F1 H1 ρ1) (post : PostG Z E rel' σ F0 H0 ρ0 ((g ρ1).bind k) Q)
    (h : ∀ y ρ2 b F2 H2, g ρ1 = .ok y ρ2 → Path Z σ F1 H1 ρ1 σ F2 H2 ρ2 → Path Z σ F0 H0 ρ0 σ F2 H2 ρ2 → rel σ H1 F2 H2 ρ2 y b → PostG Z E rel' σ F0 H0 ρ0 (k y ρ2) Q → Q2 b H2) : LG Z E rel g σ H1 Q2 := by
  refine ⟨F1, H1, ρ1, F1, ρ1, .refl p.st, ?_⟩
  cases e : g ρ1 with
  | ok a ρ2 =>
    rw [e] at post
    exact fun b F' H' q r => h a ρ2 b F' H' e q (p.trans q) r post
  | exc c ρ2 =>
    rw [e] at post
    exact fun F' H' q => post F' H' (p.trans q)
  | stuck =>
    rw [e] at post
    exact post.elim
theorem run {rel : Rel α β} {rel' : Rel γ δ} {σ : L2.St} {F0 F1 : Fz} {H0 H1 : Hp} {ρ0 ρ1 : Ev} {g : Ev → R α} {k : α → Ev → R γ} {Q : δ → Hp → Prop} {Q2 : β → Hp → Prop}
    (p : Path Z σ F0 H0 ρ0 σ F1 H1 ρ1) (post : PostG Z E rel' σ F0 H0 ρ0 ((g ρ1).bind k) Q)
    (h : ∀ y ρ2 b F2 H2, Path Z σ F1 H1 ρ1 σ F2 H2 ρ2 → Path Z σ F0 H0 ρ0 σ F2 H2 ρ2 → rel σ H1 F2 H2 ρ2 y b → PostG Z E rel' σ F0 H0 ρ0 (k y ρ2) Q → Q2 b H2) : LG Z E rel g σ H1 Q2 :=
  runE p post fun y ρ2 b F2 H2 _ => h y ρ2 b F2 H2
/-- the relation of an expression's result, of a test's, of a slice's bound -/
def relE (Z : Wo) : Rel O V := fun σ H0 F H ρ o v => Out Z F H σ ρ o v ∧ Frs H0 o v
def relT : Rel Bool Bool := fun _ _ _ _ _ a b => b = a
abbrev LE (Z : Wo) (E : XK) (f : Ev → R O) : TE := LG Z E (relE Z) f
abbrev LT (Z : Wo) (E : XK) (f : Ev → R Bool) : TT := LG Z E relT f
/-- what a rule by values gives: nothing is changed, a new list or dict is new -/
def NewO (Z : Wo) (F : Fz) (H : Hp) : O → V → Hp → Prop
  | .d x, v, H' => Same H H' ∧ Rp Z F H' x v
  | .L xs, v, H' => Same H H' ∧ ∃ a vs, v = .ref a ∧ H a = none ∧ H' a = some (.lst vs) ∧ Rps Z F H' xs vs
  | .M t kvs, v, H' => Same H H' ∧ ∃ a, v = .ref a ∧ H a = none ∧ H' a ≠ none ∧ Dic Z F H' t a kvs
  | .bor _, _, _ => False
  | .F f, v, H' => Same H H' ∧ Z.f1 f = true ∧ v = .ref (Z.fa f)
  | .Z _, _, _ => False
theorem NewO.here {F : Fz} {H : Hp} {x : D} {v : V} (h : Rp Z F H x v) : NewO Z F H (.d x) v H := ⟨.refl H, h⟩
theorem fin_new {σ : L2.St} {F0 F : Fz} {H0 H H' : Hp} {ρ0 ρ : Ev} {o : O} {v : V} {Q : VK} (p : Path Z σ F0 H0 ρ0 σ F H ρ) (post : PostG Z E (relE Z) σ F0 H0 ρ0 (.ok o ρ) Q) (n : NewO Z F H o v H') : Q v H' := by
  have nF : ∀ a, H a = none → ¬ F a := fun a e f => p.st.ft a f (.none e)
  have nO : ∀ a, H a = none → ¬ Own σ ρ a := fun a e z => by
    rcases (p.st.kind z).1 with ⟨_, q⟩ | ⟨_, q⟩ | ⟨_, q⟩ <;> · rw [e] at q; cases q
  have n0 : ∀ a, H a = none → NoO (H0 a) := fun a e => .of_not fun y => p.sp.there a y (.none e)
  cases o with
  | d x => exact post v F H' (p.same n.1) ⟨n.2, fun z => by cases z⟩
  | F f => exact post v F H' (p.same n.1) ⟨n.2, fun z => by cases z⟩
  | Z kvs => exact n.elim
  | L xs =>
    obtain ⟨sm, a, vs, rfl, e, h1, h2⟩ := n
    exact post _ F H' (p.same sm) ⟨⟨a, vs, rfl, h1, h2, nF a e, nO a e⟩, fun _ b q => by cases q; exact n0 a e⟩
  | M t kvs =>
    obtain ⟨sm, a, rfl, e, _, h2⟩ := n
    exact post _ F H' (p.same sm) ⟨⟨a, rfl, h2, nF a e, nO a e⟩, fun _ b q => by cases q; exact n0 a e⟩
  | bor i => exact n.elim
end
end Ev
/-! Ev2: lists of results, lists that are kept, what a call hands over. -/
namespace Ev
open PySem PySem.Spec PyProof.Rows L2
section
variable {Z : Wo} {E : XK} {F F' F0 F1 F2 : Fz} {H H' H0 H1 H2 : Hp} {σ σ0 σ1 : L2.St} {ρ ρ' ρ0 ρ1 ρ2 : Ev}
/-- a new object is none of these -/
def Apart (a : Addr) : List O → List V → Prop
  | o :: os, v :: vs => (isNew o = true → v ≠ .ref a) ∧ Apart a os vs
  | _, _ => True
def OutL (Z : Wo) (H0 : Hp) (F : Fz) (H : Hp) (σ : L2.St) (ρ : Ev) : List O → List V → Prop
  | [], vs => vs = []
  | o :: os, vs => ∃ v r, vs = v :: r ∧ Out Z F H σ ρ o v ∧ Frs H0 o v ∧ (isNew o = true → ∀ a, v = .ref a → Apart a os r) ∧ OutL Z H0 F H σ ρ os r
def relL (Z : Wo) : Rel (List O) (List V) := fun σ H0 F H ρ os vs => OutL Z H0 F H σ ρ os vs
abbrev LA (Z : Wo) (E : XK) (f : Ev → R (List O)) : TA := LG Z E (relL Z) f
theorem OutL.len : ∀ {os : List O} {vs : List V}, OutL Z H0 F H σ ρ os vs → os.length = vs.length
  | [], _, h => by
    have e : _ = [] := h
    rw [e]; rfl
  | o :: os, _, h => by
    obtain ⟨v, r, e, _, _, _, t⟩ := h
    rw [e, List.length_cons, List.length_cons, OutL.len t]
theorem Apart.of_new {a : Addr} : ∀ {os : List O} {vs : List V}, ¬ NoO (H1 a) → OutL Z H1 F H σ ρ os vs → Apart a os vs
  | [], _, _, _ => by unfold Apart; trivial
  | o :: os, _, n, h => by
    obtain ⟨v, r, e, _, f, _, t⟩ := h
    rw [e]
    exact ⟨fun hn q => n (f hn a q), Apart.of_new n t⟩
theorem OutL.back {σ0 : L2.St} {F0 : Fz} {H0 : Hp} {ρ0 : Ev} (p : Path Z σ0 F0 H0 ρ0 σ1 F1 H1 ρ1) : ∀ {os : List O} {vs : List V}, OutL Z H1 F H σ ρ os vs → OutL Z H0 F H σ ρ os vs
  | [], _, h => h
  | o :: os, _, h => by
    obtain ⟨v, r, e, h1, f, a, t⟩ := h
    exact ⟨v, r, e, h1, f.back p, a, OutL.back p t⟩
theorem new_there {o : O} {v : V} {a : Addr} (h : Out Z F H σ ρ o v) (n : isNew o = true) (e : v = .ref a) : ¬ NoO (H a) := by
  cases o with
  | d x => cases n
  | F f => cases n
  | Z kvs => cases n
  | L xs =>
    obtain ⟨b, vs, e2, h1, _⟩ := h
    rw [e] at e2
    cases e2
    rw [h1]; exact id
  | M t kvs =>
    obtain ⟨b, e2, h1, _⟩ := h
    rw [e] at e2
    cases e2
    cases t with
    | false =>
      obtain ⟨ps, q, _⟩ := h1
      rw [q]; exact id
    | true =>
      obtain ⟨ps, q, _⟩ := h1
      rw [q]; exact id
  | bor i => cases n
/-- what is frozen -/
def frz (F : Fz) (a : Addr) : Fz := fun b => F b ∨ b = a
theorem Up.frz {a : Addr} : Up F H (frz F a) H := ⟨fun _ _ h => h, fun _ _ _ h => h, fun _ h => .inl h, fun _ _ _ h => h⟩
theorem getset {ρ : Ev} {i j : Nat} {w : Option W} {x : Option W} (e : (ρ.set i w)[j]? = some x) : (j = i ∧ x = w ∧ i < ρ.length) ∨ (j ≠ i ∧ ρ[j]? = some x) := by
  by_cases h : j = i
  · subst h
    have hl : j < ρ.length := by
      have z := (List.getElem?_eq_some_iff.mp e).1
      rwa [List.length_set] at z
    rw [List.getElem?_set_self hl] at e
    exact .inl ⟨rfl, (Option.some.inj e).symm, hl⟩
  · rw [List.getElem?_set_ne (Ne.symm h)] at e
    exact .inr ⟨h, e⟩
/-- a slot that takes something that is not the caller's -/
theorem Pk.set_d {i : Nat} {w : W} {σ : L2.St} {ρ : Ev} (e : isP w = false) : Pk σ ρ σ (ρ.set i (some w)) := fun j u h p => by
  rcases getset h with ⟨_, z, _⟩ | ⟨_, z⟩
  · cases z
    rw [e] at p
    cases p
  · exact ⟨⟨u, z, p⟩, rfl⟩
/-- a new list stands still from now on -/
theorem frz_new {a : Addr} (p : Path Z σ0 F0 H0 ρ0 σ F H ρ) (h0 : NoO (H0 a)) (h1 : ¬ NoO (H a)) (nO : ¬ Own σ ρ a) : Path Z σ0 F0 H0 ρ0 σ (frz F a) H ρ := by
  refine ⟨⟨p.st.len, fun i w e => ?_, p.st.inj, p.st.tabs, fun b f => ?_⟩, ⟨p.sp.keep, p.sp.there, fun b f => .inl (p.sp.fin _ f), fun b f => ?_⟩, p.sub, p.pp⟩
  · obtain ⟨v, e2, r⟩ := p.st.rep i w e
    refine ⟨v, e2, r.up .frz fun b eb ho => ⟨fun _ q => q, fun f => ?_⟩⟩
    subst eb
    rcases f with f | f
    · exact (p.st.kind (own_of e ho e2)).2 f
    · subst f
      exact nO (own_of e ho e2)
  · rcases f with f | rfl
    · exact p.st.ft b f
    · exact h1
  · rcases f with f | rfl
    · exact p.sp.fout _ f
    · exact .inr (.inl h0)
/-- a slot's own list stands still from now on -/
theorem frz_own {i : Nat} {a : Addr} {xs : List D} {q : Bool} (p : Path Z σ0 F0 H0 ρ0 σ F H ρ) (e : ρ[i]? = some (some (.L q xs))) (e2 : σ[i]? = some (some (.ref a))) :
    Path Z σ0 F0 H0 ρ0 σ (frz F a) H (ρ.set i (some (.d (.lst xs)))) ∧ Rp Z (frz F a) H (.lst xs) (.ref a) := by
  obtain ⟨v, e3, b, vs, e4, h1, h2, h3⟩ := p.st.rep i _ e
  rw [e2] at e3
  have e5 := Option.some.inj (Option.some.inj e3)
  subst e4
  cases e5
  have ow : Own σ ρ a := own_of e rfl e2
  have rp : Rp Z (frz F a) H (.lst xs) (.ref a) := by
    simp only [Rp]
    exact ⟨a, vs, rfl, .inl ⟨.inr rfl, .inl h1⟩, h2.up .frz⟩
  have sub : ∀ b, Own σ (ρ.set i (some (.d (.lst xs)))) b → Own σ ρ b ∧ b ≠ a := fun b ⟨j, w, ej, ho, es⟩ => by
    rcases getset ej with ⟨rfl, z, _⟩ | ⟨hn, z⟩
    · cases z
      cases ho
    · refine ⟨own_of z ho es, fun q => hn ?_⟩
      subst q
      exact p.st.inj _ _ _ _ _ z e ho rfl es e2
  refine ⟨⟨⟨by rw [List.length_set]; exact p.st.len, fun j w ej => ?_, fun j k wj wk b ej ek hj hk sj sk => ?_, p.st.tabs, fun b f => ?_⟩, ⟨p.sp.keep, p.sp.there, fun b f => .inl (p.sp.fin _ f), fun b f => ?_⟩, fun b h => p.sub b (sub b h).1, p.pp.trans (Pk.set_d (e := rfl))⟩, rp⟩
  · rcases getset ej with ⟨rfl, z, _⟩ | ⟨hn, z⟩
    · cases z
      exact ⟨_, e2, rp⟩
    · obtain ⟨v, e6, r⟩ := p.st.rep j w z
      refine ⟨v, e6, r.up .frz fun b eb ho => ⟨fun _ q => q, fun f => ?_⟩⟩
      subst eb
      rcases f with f | f
      · exact (p.st.kind (own_of z ho e6)).2 f
      · subst f
        exact hn (p.st.inj _ _ _ _ _ z e ho rfl e6 e2)
  · rcases getset ej with ⟨rfl, z, _⟩ | ⟨_, z⟩
    · cases z
      cases hj
    · rcases getset ek with ⟨rfl, z2, _⟩ | ⟨_, z2⟩
      · cases z2
        cases hk
      · exact p.st.inj _ _ _ _ _ z z2 hj hk sj sk
  · rcases f with f | rfl
    · exact p.st.ft b f
    · rw [h1]; exact id
  · rcases f with f | rfl
    · exact p.sp.fout _ f
    · rcases p.sub _ ow with z | z
      · exact .inr (.inr z)
      · exact .inr (.inl z)
/-- what a value is frozen to -/
def FrE (F F2 : Fz) (o : O) (v : V) : Prop := ∀ b, F2 b → F b ∨ (v = .ref b ∧ (isNew o = true ∨ ∃ i, o = .bor i))
theorem keep_ok {o : O} {v : V} {x : D} (p : Path Z σ0 F0 H0 ρ0 σ F H ρ) (h : Out Z F H σ ρ o v) (f : Frs H0 o v) (e : keep ρ o = some (x, ρ2)) :
    ∃ F2, Path Z σ0 F0 H0 ρ0 σ F2 H ρ2 ∧ Rp Z F2 H x v ∧ Up F H F2 H ∧ (∀ b, F2 b → F b ∨ (v = .ref b ∧ (isNew o = true ∨ Own σ ρ b))) ∧ (∀ b, Own σ ρ2 b → Own σ ρ b) := by
  cases o with
  | d y =>
    simp only [keep, Option.some.injEq, Prod.mk.injEq] at e
    obtain ⟨rfl, rfl⟩ := e
    exact ⟨F, p, h, .refl, fun _ z => .inl z, fun _ z => z⟩
  | L xs =>
    simp only [keep, Option.some.injEq, Prod.mk.injEq] at e
    obtain ⟨rfl, rfl⟩ := e
    obtain ⟨a, vs, rfl, h1, h2, h3, h4⟩ := h
    refine ⟨_, frz_new p (f rfl a rfl) (by rw [h1]; exact id) h4, ?_, .frz, fun b z => ?_, fun _ z => z⟩
    · simp only [Rp]
      exact ⟨a, vs, rfl, .inl ⟨.inr rfl, .inl h1⟩, h2.up .frz⟩
    · rcases z with z | rfl
      · exact .inl z
      · exact .inr ⟨rfl, .inl rfl⟩
  | M t kvs => simp only [keep] at e; cases e
  | F f => simp only [keep] at e; cases e
  | Z kvs => simp only [keep] at e; cases e
  | bor i =>
    have hs : σ[i]? = some (some v) := h
    simp only [keep] at e
    split at e
    · rename_i xs q
      simp only [Option.some.injEq, Prod.mk.injEq] at e
      obtain ⟨rfl, rfl⟩ := e
      obtain ⟨v', e3, a, vs, e4, _⟩ := p.st.rep i _ q
      rw [hs] at e3
      have e5 := Option.some.inj (Option.some.inj e3)
      subst e5 e4
      obtain ⟨p2, r⟩ := frz_own p q hs
      refine ⟨_, p2, r, .frz, fun b z => ?_, fun b ⟨j, w, ej, ho, es⟩ => ?_⟩
      · rcases z with z | rfl
        · exact .inl z
        · exact .inr ⟨rfl, .inr (own_of q rfl hs)⟩
      · rcases getset ej with ⟨rfl, z, _⟩ | ⟨hn, z⟩
        · cases z
          cases ho
        · exact own_of z ho es
    · cases e
/-- another value, when one is kept -/
theorem Out.kept {F2 : Fz} {o : O} {v : V} (h : Out Z F H σ ρ o v) (u : Up F H F2 H) (fr : isNew o = true → ∀ b, v = .ref b → F2 b → F b) (ow : ∀ b, Own σ ρ2 b → Own σ ρ b) : Out Z F2 H σ ρ2 o v := by
  cases o with
  | d x => exact Rp.up u h
  | F f => exact h
  | Z kvs =>
    obtain ⟨a, e, h1⟩ := h
    exact ⟨a, e, h1.up u⟩
  | L xs =>
    obtain ⟨a, vs, rfl, h1, h2, h3, h4⟩ := h
    exact ⟨a, vs, rfl, h1, h2.up u, fun z => h3 (fr rfl a rfl z), fun z => h4 (ow a z)⟩
  | M t kvs =>
    obtain ⟨a, rfl, h1, h3, h4⟩ := h
    exact ⟨a, rfl, h1.up u fun _ q => q, fun z => h3 (fr rfl a rfl z), fun z => h4 (ow a z)⟩
  | bor i => exact h
theorem Out.newNotOwn {o : O} {a : Addr} (h : Out Z F H σ ρ o (.ref a)) (n : isNew o = true) : ¬ Own σ ρ a := by
  cases o with
  | d x => cases n
  | F f => cases n
  | Z kvs => cases n
  | L xs =>
    obtain ⟨b, vs, e, _, _, _, h4⟩ := h
    cases e
    exact h4
  | M t kvs =>
    obtain ⟨b, e, _, _, h4⟩ := h
    cases e
    exact h4
  | bor i => cases n
theorem OutL.kept {F2 : Fz} {ow : ∀ b, Own σ ρ2 b → Own σ ρ b} (u : Up F H F2 H) {o : O} {v : V} (fr : ∀ b, F2 b → F b ∨ (v = .ref b ∧ (isNew o = true ∨ Own σ ρ b))) : ∀ {os : List O} {vs : List V},
    (isNew o = true → ∀ a, v = .ref a → Apart a os vs) → OutL Z H0 F H σ ρ os vs → OutL Z H0 F2 H σ ρ2 os vs
  | [], _, _, h => h
  | p :: os, _, ap, h => by
    obtain ⟨w, r, rfl, h1, f, a, t⟩ := h
    refine ⟨w, r, rfl, h1.kept u (fun n b eb z => ?_) ow, f, a, OutL.kept (ow := ow) u fr (fun n a e => (ap n a e).2) t⟩
    rcases fr b z with z | ⟨z1, z2⟩
    · exact z
    · rcases z2 with z2 | z2
      · exact absurd eb ((ap z2 b z1).1 n)
      · subst eb
        exact absurd z2 (h1.newNotOwn n)
theorem keeps_ok : ∀ {os : List O} {vs : List V} {xs : List D} {F : Fz} {ρ ρ2 : Ev}, Path Z σ0 F0 H0 ρ0 σ F H ρ → OutL Z H0 F H σ ρ os vs → keeps ρ os = some (xs, ρ2) →
    ∃ F2, Path Z σ0 F0 H0 ρ0 σ F2 H ρ2 ∧ Rps Z F2 H xs vs ∧ Up F H F2 H
  | [], _, xs, F, ρ, ρ2, p, h, e => by
    simp only [keeps, Option.some.injEq, Prod.mk.injEq] at e
    obtain ⟨rfl, rfl⟩ := e
    have e2 : _ = [] := h
    rw [e2]
    exact ⟨F, p, .nil, .refl⟩
  | o :: os, _, xs, F, ρ, ρ2, p, h, e => by
    obtain ⟨v, r, rfl, h1, f, ap, t⟩ := h
    simp only [keeps] at e
    cases ek : keep ρ o with
    | none => rw [ek] at e; cases e
    | some q =>
      obtain ⟨x, ρ3⟩ := q
      rw [ek] at e
      simp only at e
      obtain ⟨F3, p3, r3, u3, fr3, ow3⟩ := keep_ok p h1 f ek
      cases es : keeps ρ3 os with
      | none => rw [es] at e; cases e
      | some q =>
        obtain ⟨ys, ρ4⟩ := q
        rw [es] at e
        simp only [Option.some.injEq, Prod.mk.injEq] at e
        obtain ⟨rfl, rfl⟩ := e
        obtain ⟨F4, p4, r4, u4⟩ := keeps_ok p3 (OutL.kept (ow := ow3) u3 fr3 ap t) es
        exact ⟨F4, p4, .cons (r3.up u4) r4, ⟨fun _ _ q => q, fun _ _ _ q => q, fun a z => u4.fin _ (u3.fin _ z), fun _ _ _ q => q⟩⟩
end
end Ev
/-! Ev3: operators, comparisons, built-ins by values. -/
namespace Ev
open PySem PySem.Spec PyProof.Rows L2
/-- the texts are unlike, none is long -/
structure StOk (Z : Wo) : Prop where
  nd : Z.ST.Nodup
  ok : ∀ x ∈ Z.ST, PyData.canLay0 (.str x) = true
  e0 : ∀ x, Z.ST[0]? = some x → x = ("" : Str)
  len : ∀ x ∈ Z.ST, x.length ≤ 1000
section
variable {Z : Wo} {F F' : Fz} {H H' : Hp}
/-! ### data as the library tells them -/
mutual
def toPy (Z : Wo) : D → PyData
  | .non => .none
  | .bl b => .bool b
  | .int i => .int i
  | .str n => .str (Z.ST.getD n ⟨#[]⟩)
  | .tup xs => .tuple (toPys Z xs)
  | .lst xs => .list (toPys Z xs)
def toPys (Z : Wo) : List D → List PyData
  | [] => []
  | x :: xs => toPy Z x :: toPys Z xs
end
theorem getD_of {n : Nat} {x : Str} (h : Z.ST[n]? = some x) : Z.ST.getD n ⟨#[]⟩ = x := by
  rw [List.getD_eq_getElem?_getD, h]; rfl
mutual
theorem Rp.dp : ∀ {x : D} {v : V}, Rp Z F H x v → Dp Z.K H v (toPy Z x)
  | .non, _, h => by
    simp only [Rp] at h
    subst h
    simp only [toPy]
    exact .non
  | .bl b, _, h => by
    simp only [Rp] at h
    subst h
    simp only [toPy]
    exact .bl b
  | .int i, _, h => by
    simp only [Rp] at h
    subst h
    simp only [toPy]
    exact .int i
  | .str n, _, h => by
    simp only [Rp] at h
    obtain ⟨x, e, rfl⟩ := h
    simp only [toPy]
    rw [getD_of e]
    exact .str x
  | .tup xs, _, h => by
    simp only [Rp] at h
    obtain ⟨a, vs, rfl, s, r⟩ := h
    simp only [toPy]
    exact .tup s (Rps.dp r)
  | .lst xs, _, h => by
    simp only [Rp] at h
    obtain ⟨a, vs, rfl, s, r⟩ := h
    simp only [toPy]
    exact .lst s.sq (Rps.dp r)
theorem Rps.dp : ∀ {xs : List D} {vs : List V}, Rps Z F H xs vs → DpAll Z.K H vs (toPys Z xs)
  | [], _, h => by
    rw [h.inv0]
    simp only [toPys]
    exact .nil
  | x :: xs, _, h => by
    obtain ⟨v, r, e, h1, h2⟩ := h.inv
    rw [e]
    simp only [toPys]
    exact .cons (Rp.dp h1) (Rps.dp h2)
end
theorem str_eq (hs : StOk Z) {a b : Nat} {x y : Str} (h1 : Z.ST[a]? = some x) (h2 : Z.ST[b]? = some y) : (x == y) = (a == b) := by
  by_cases e : a = b
  · subst e
    rw [h1] at h2
    cases h2
    simp
  · have n : x ≠ y := fun q => by
      subst q
      obtain ⟨l1, e1⟩ := List.getElem?_eq_some_iff.mp h1
      obtain ⟨l2, e2⟩ := List.getElem?_eq_some_iff.mp h2
      exact e ((List.getElem_inj hs.nd).mp (e1.trans e2.symm))
    have z1 : (x == y) = false := by simpa using n
    have z2 : (a == b) = false := by simpa using e
    rw [z1, z2]
mutual
theorem eqv_eqb (hs : StOk Z) : ∀ {x y : D} {v w : V} {G : Fz} {L : Hp}, Rp Z F H x v → Rp Z G L y w → PyData.eqv (toPy Z x) (toPy Z y) = eqb x y
  | .non, y, _, _, _, _, _, _ => by cases y <;> simp only [toPy, eqb, PyData.eqv]
  | .bl a, y, _, _, _, _, _, _ => by cases y <;> simp only [toPy, eqb, PyData.eqv]
  | .int a, y, _, _, _, _, _, _ => by cases y <;> simp only [toPy, eqb, PyData.eqv]
  | .str a, y, _, _, _, _, h, g => by
    cases y with
    | str b =>
      simp only [Rp] at h g
      obtain ⟨x, e, _⟩ := h
      obtain ⟨x', e', _⟩ := g
      simp only [toPy, eqb, PyData.eqv]
      rw [getD_of e, getD_of e']
      exact str_eq hs e e'
    | _ => simp only [toPy, eqb, PyData.eqv]
  | .tup xs, y, _, _, _, _, h, g => by
    cases y with
    | tup ys =>
      simp only [Rp] at h g
      obtain ⟨_, _, _, _, r⟩ := h
      obtain ⟨_, _, _, _, r'⟩ := g
      simp only [toPy, eqb, PyData.eqv]
      exact eqvs_eqb hs r r'
    | _ => simp only [toPy, eqb, PyData.eqv]
  | .lst xs, y, _, _, _, _, h, g => by
    cases y with
    | lst ys =>
      simp only [Rp] at h g
      obtain ⟨_, _, _, _, r⟩ := h
      obtain ⟨_, _, _, _, r'⟩ := g
      simp only [toPy, eqb, PyData.eqv]
      exact eqvs_eqb hs r r'
    | _ => simp only [toPy, eqb, PyData.eqv]
theorem eqvs_eqb (hs : StOk Z) : ∀ {xs ys : List D} {vs ws : List V} {G : Fz} {L : Hp}, Rps Z F H xs vs → Rps Z G L ys ws → PyData.eqvAll (toPys Z xs) (toPys Z ys) = eqbs xs ys
  | [], ys, _, _, _, _, _, _ => by cases ys <;> simp only [toPys, eqbs, PyData.eqvAll]
  | x :: xs, ys, _, _, _, _, h, g => by
    cases ys with
    | nil => simp only [toPys, eqbs, PyData.eqvAll]
    | cons y ys =>
      obtain ⟨_, _, _, h1, h2⟩ := h.inv
      obtain ⟨_, _, _, g1, g2⟩ := g.inv
      simp only [toPys, eqbs, PyData.eqvAll]
      rw [eqv_eqb hs h1 g1, eqvs_eqb hs h2 g2]
end
mutual
theorem lay_of (hs : StOk Z) : ∀ {x : D} {v : V}, Rp Z F H x v → PyData.canLay0 (toPy Z x) = true
  | .non, _, _ => by simp only [toPy, PyData.canLay0]
  | .bl _, _, _ => by simp only [toPy, PyData.canLay0]
  | .int _, _, _ => by simp only [toPy, PyData.canLay0]
  | .str n, _, h => by
    simp only [Rp] at h
    obtain ⟨x, e, _⟩ := h
    simp only [toPy]
    rw [getD_of e]
    exact hs.ok x (List.mem_of_getElem? e)
  | .tup xs, _, h => by
    simp only [Rp] at h
    obtain ⟨_, _, _, _, r⟩ := h
    simp only [toPy, PyData.canLay0]
    exact lays_of hs r
  | .lst xs, _, h => by
    simp only [Rp] at h
    obtain ⟨_, _, _, _, r⟩ := h
    simp only [toPy, PyData.canLay0]
    exact lays_of hs r
theorem lays_of (hs : StOk Z) : ∀ {xs : List D} {vs : List V}, Rps Z F H xs vs → PyData.canLayAll0 (toPys Z xs) = true
  | [], _, _ => by simp only [toPys, PyData.canLayAll0]
  | x :: xs, _, h => by
    obtain ⟨_, _, _, h1, h2⟩ := h.inv
    simp only [toPys, PyData.canLayAll0]
    rw [lay_of hs h1, lays_of hs h2] <;> rfl
end
mutual
theorem lim_depth : ∀ {x : D} {n : Nat}, lim x n = true → (toPy Z x).depth ≤ n
  | .non, _, _ => by simp only [toPy, PyData.depth]; omega
  | .bl _, _, _ => by simp only [toPy, PyData.depth]; omega
  | .int _, _, _ => by simp only [toPy, PyData.depth]; omega
  | .str _, _, _ => by simp only [toPy, PyData.depth]; omega
  | .tup xs, 0, h => by simp only [lim] at h; cases h
  | .tup xs, n + 1, h => by
    simp only [lim] at h
    simp only [toPy, PyData.depth]
    have := limL_depth (xs := xs) h
    omega
  | .lst xs, 0, h => by simp only [lim] at h; cases h
  | .lst xs, n + 1, h => by
    simp only [lim] at h
    simp only [toPy, PyData.depth]
    have := limL_depth (xs := xs) h
    omega
theorem limL_depth : ∀ {xs : List D} {n : Nat}, limL xs n = true → PyData.depthAll (toPys Z xs) ≤ n
  | [], _, _ => by simp only [toPys, PyData.depthAll]; omega
  | x :: xs, n, h => by
    simp only [limL, Bool.and_eq_true] at h
    simp only [toPys, PyData.depthAll]
    have h1 := lim_depth (x := x) h.1
    have h2 := limL_depth (xs := xs) h.2
    omega
end
theorem shaped_of (hs : StOk Z) {x : D} {v : V} (h : Rp Z F H x v) (l : lim x limit = true) : SeqAt.shaped (toPy Z x) = true := by
  unfold SeqAt.shaped
  rw [lay_of hs h, Bool.true_and]
  refine decide_eq_true ?_
  have := lim_depth (Z := Z) l
  unfold limit at this
  omega
theorem Rv.d {x : D} {v : V} (h : Rv Z F H (.d x) v) : Rp Z F H x v := h
theorem Rv.l {xs : List D} {v : V} (h : Rv Z F H (.L xs) v) : ∃ a vs, v = .ref a ∧ H a = some (.lst vs) ∧ Rps Z F H xs vs := h
/-! ### operators -/
def rN (Z : Wo) (g : O → O → Option O) : R2 := fun x y H Q => ∃ F a b o, Rv Z F H a x ∧ Rv Z F H b y ∧ g a b = some o ∧ ∀ v H', NewO Z F H o v H' → Q v H'
def rNb (Z : Wo) (g : O → O → Option Bool) : R2 := fun x y H Q => ∃ F a b o, Rv Z F H a x ∧ Rv Z F H b y ∧ g a b = some o ∧ Q (.bl o) H
theorem opImp {X : Cx} {f : Value → Value → Sem Value} {r r' : R2} (h : OpR X f r) (i : ∀ x y H Q, r' x y H Q → r x y H Q) : OpR X f r' :=
  fun pins s σ H x y v u Q I rx ry q => h pins s σ H x y v u Q I rx ry (i x y H Q q)
theorem same_upd {H : Hp} {p : Addr} {o : HO} (h : H p = none) : Same H (upd H p o) := fun b x e => by
  rw [upd_ne (ne_of_none e h)]
  exact e
theorem new_tup {p : Addr} {xs : List D} {vs : List V} (h : H p = none) (r : Rps Z F H xs vs) : NewO Z F H (.d (.tup xs)) (.ref p) (upd H p (.tup vs)) := by
  refine ⟨same_upd h, ?_⟩
  simp only [Rp]
  exact ⟨p, vs, rfl, .inl (.inl upd_same), r.up (.of_same (same_upd h))⟩
theorem new_lst {p : Addr} {xs : List D} {vs : List V} (h : H p = none) (r : Rps Z F H xs vs) : NewO Z F H (.L xs) (.ref p) (upd H p (.lst vs)) :=
  ⟨same_upd h, p, vs, rfl, h, upd_same, r.up (.of_same (same_upd h))⟩
theorem new_int (i : Int) : NewO Z F H (.d (.int i)) (.int i) H := .here (by simp only [Rp])
theorem new_bl (b : Bool) : NewO Z F H (.d (.bl b)) (.bl b) H := .here (by simp only [Rp])
theorem Rp.inv_int {i : Int} {v : V} (h : Rp Z F H (.int i) v) : v = .int i := by simpa only [Rp] using h
theorem Rp.inv_bl {b : Bool} {v : V} (h : Rp Z F H (.bl b) v) : v = .bl b := by simpa only [Rp] using h
theorem Rp.inv_non {v : V} (h : Rp Z F H .non v) : v = .non := by simpa only [Rp] using h
theorem Rp.inv_tup {xs : List D} {v : V} (h : Rp Z F H (.tup xs) v) : ∃ a vs, v = .ref a ∧ SqT Z.K H a vs ∧ Rps Z F H xs vs := by simpa only [Rp] using h
theorem Rp.inv_lst {xs : List D} {v : V} (h : Rp Z F H (.lst xs) v) : ∃ a vs, v = .ref a ∧ SL Z F H a vs ∧ Rps Z F H xs vs := by simpa only [Rp] using h
theorem Rps.rep {xs : List D} {vs : List V} (h : Rps Z F H xs vs) : ∀ n : Nat, Rps Z F H (List.replicate n xs).flatten (List.replicate n vs).flatten
  | 0 => by simpa using Rps.nil
  | n + 1 => by
    rw [List.replicate_succ, List.replicate_succ, List.flatten_cons, List.flatten_cons]
    exact h.append (Rps.rep h n)
end
section
variable {X : Cx} {Z : Wo}
theorem nil_cat (j : Str) : ("" : Str) ++ j = j := by
  show (⟨#[] ++ j.cps⟩ : Str) = j
  rw [Array.empty_append]
theorem op_addO (hK : X.K = Z.K) (hs : StOk Z) : OpR X (binaryOp .Add) (rN Z addO) := by
  refine opImp (((op_add.or op_catA).or op_cat).or op_add_str) fun x y H Q ⟨F, a, b, o, ra, rb, e, q⟩ => ?_
  unfold addO at e
  split at e
  · cases e
    have e1 := Rp.inv_int (Rv.d ra)
    have e2 := Rp.inv_int (Rv.d rb)
    exact .inl (.inl (.inl ⟨_, _, e1, e2, q _ _ (new_int _)⟩))
  · rename_i xs ys
    split at e
    · rename_i hc
      cases e
      obtain ⟨a, vs, e1, s1, r1⟩ := Rp.inv_tup (Rv.d ra)
      obtain ⟨b, ws, e2, s2, r2⟩ := Rp.inv_tup (Rv.d rb)
      refine .inl (.inl (.inr ⟨a, b, vs, ws, e1, e2, by rw [hK]; exact s1, by rw [hK]; exact s2, ?_, fun z => ?_, fun _ z => ?_, fun _ _ p hp => q _ _ (new_tup hp (r1.append r2))⟩))
      · rw [← r1.len, ← r2.len, sizeLine_eq]; exact hc
      · have e3 : xs = [] := List.length_eq_zero_iff.mp (by rw [r1.len, z]; rfl)
        subst e3
        refine q _ _ (.here ?_)
        rw [List.nil_append, ← e2]
        exact Rv.d rb
      · have e3 : ys = [] := List.length_eq_zero_iff.mp (by rw [r2.len, z]; rfl)
        subst e3
        refine q _ _ (.here ?_)
        rw [List.append_nil, ← e1]
        exact Rv.d ra
    · cases e
  · rename_i xs ys
    split at e
    · rename_i hc
      cases e
      obtain ⟨a, vs, e1, s1, r1⟩ := Rv.l ra
      obtain ⟨b, ws, e2, s2, r2⟩ := Rv.l rb
      exact .inl (.inr ⟨a, b, vs, ws, e1, e2, s1, s2, by rw [← r1.len, ← r2.len, sizeLine_eq]; exact hc, fun p hp => q _ _ (new_lst hp (r1.append r2))⟩)
    · cases e
  · split at e
    · rename_i k n hk
      subst hk
      cases e
      have r1 := Rv.d ra
      have r2 := Rv.d rb
      simp only [Rp] at r1 r2
      obtain ⟨z, ez, rfl⟩ := r1
      obtain ⟨y, ey, rfl⟩ := r2
      have e0 := hs.e0 z ez
      subst e0
      refine .inr ⟨_, _, rfl, rfl, ?_, q _ _ (.here ?_)⟩
      · have := hs.len y (List.mem_of_getElem? ey)
        have z0 : ("" : Str).length = 0 := rfl
        rw [z0, sizeLine_eq]
        omega
      · rw [nil_cat]
        simp only [Rp]
        exact ⟨y, ey, rfl⟩
    · cases e
  · cases e
theorem op_subO : OpR X (binaryOp .Sub) (rN Z subO) := by
  refine opImp op_sub fun x y H Q ⟨F, a, b, o, ra, rb, e, q⟩ => ?_
  unfold subO at e
  split at e
  · cases e
    exact ⟨_, _, Rp.inv_int (Rv.d ra), Rp.inv_int (Rv.d rb), q _ _ (new_int _)⟩
  · cases e
theorem sml_of {i : Int} (h : sml i = true) : -(2 ^ 64) < i ∧ i < 2 ^ 64 := by
  unfold sml at h
  simp only [Bool.and_eq_true, decide_eq_true_eq] at h
  exact h
theorem op_mulO (hK : X.K = Z.K) : OpR X (binaryOp .Mult) (rN Z mulO) := by
  refine opImp ((op_mul.or op_repT).or op_rep) fun x y H Q ⟨F, a, b, o, ra, rb, e, q⟩ => ?_
  unfold mulO at e
  split at e
  · split at e
    · rename_i hc
      cases e
      refine .inl (.inl ⟨_, _, Rp.inv_int (Rv.d ra), Rp.inv_int (Rv.d rb), ?_, q _ _ (new_int _)⟩)
      rw [Bool.or_eq_true] at hc
      exact hc.elim (fun z => .inl (sml_of z)) fun z => .inr (sml_of z)
    · cases e
  · split at e
    · rename_i hc
      cases e
      obtain ⟨a, vs, e1, s1, r1⟩ := Rp.inv_tup (Rv.d ra)
      obtain ⟨h1, h2, h3, h4⟩ := hc
      refine .inl (.inr ⟨a, _, vs, e1, Rp.inv_int (Rv.d rb), by rw [hK]; exact s1, fun z => ?_, h3, h4, by rw [← r1.len]; exact h2, fun p hp => q _ _ (new_tup hp (r1.rep _))⟩)
      have h5 := r1.len
      rw [z, List.length_nil] at h5
      omega
    · cases e
  · split at e
    · rename_i hc
      cases e
      obtain ⟨a, vs, e1, s1, r1⟩ := Rv.l ra
      exact .inr ⟨a, _, vs, e1, Rp.inv_int (Rv.d rb), s1, hc.1, hc.2.1, by rw [← r1.len, sizeLine_eq]; exact hc.2.2, fun p hp => q _ _ (new_lst hp (r1.rep _))⟩
    · cases e
  · cases e
theorem op_fdivO : OpR X (binaryOp .FloorDiv) (rN Z fdivO) := by
  refine opImp op_fdiv fun x y H Q ⟨F, a, b, o, ra, rb, e, q⟩ => ?_
  unfold fdivO at e
  split at e
  · split at e
    · rename_i hc
      cases e
      exact ⟨_, _, Rp.inv_int (Rv.d ra), Rp.inv_int (Rv.d rb), hc, q _ _ (new_int _)⟩
    · cases e
  · cases e
theorem op_modO : OpR X (binaryOp .Mod) (rN Z modO) := by
  refine opImp op_mod fun x y H Q ⟨F, a, b, o, ra, rb, e, q⟩ => ?_
  unfold modO at e
  split at e
  · split at e
    · rename_i hc
      cases e
      exact ⟨_, _, Rp.inv_int (Rv.d ra), Rp.inv_int (Rv.d rb), hc, q _ _ (new_int _)⟩
    · cases e
  · cases e
def bopOf : Bop → Operator
  | .add => .Add | .sub => .Sub | .mul => .Mult | .fdiv => .FloorDiv | .mod => .Mod
theorem op_bin (hK : X.K = Z.K) (hs : StOk Z) (op : Bop) : OpR X (binaryOp (bopOf op)) (rN Z (bin op)) := by
  cases op with
  | add => exact op_addO hK hs
  | sub => exact op_subO
  | mul => exact op_mulO hK
  | fdiv => exact op_fdivO
  | mod => exact op_modO
/-! ### comparisons -/
theorem look_dp {F : Fz} {H : Hp} {o : O} {v : V} {x : D} (r : Rv Z F H o v) (e : look o = some x) : ∃ (G : Fz), Rp Z G H x v := by
  cases o with
  | d y =>
    cases e
    exact ⟨F, Rv.d r⟩
  | L xs =>
    cases e
    obtain ⟨a, vs, rfl, h1, h2⟩ := Rv.l r
    refine ⟨frz F a, ?_⟩
    simp only [Rp]
    exact ⟨a, vs, rfl, .inl ⟨.inr rfl, .inl h1⟩, h2.up .frz⟩
  | M t kvs => cases e
  | F f => cases e
  | Z kvs => cases e
  | bor i => cases e
theorem same_ok {x y : D} {b : Bool} (h : same x y = some b) : lim x limit = true ∧ lim y limit = true ∧ b = eqb x y := by
  unfold same at h
  split at h
  · rename_i hc
    rw [Bool.and_eq_true] at hc
    cases h
    exact ⟨hc.1, hc.2, rfl⟩
  · cases h
theorem op_eqO (hK : X.K = Z.K) (hs : StOk Z) (hu : X.A.units + 64 < cLine) : OpR X (compareOp .Eq) (rNb Z eqO) := by
  refine opImp (op_eqD hu) fun x y H Q ⟨F, a, b, o, ra, rb, e, q⟩ => ?_
  unfold eqO at e
  cases ea : look a with
  | none => rw [ea] at e; cases e
  | some d =>
    cases eb : look b with
    | none => rw [ea, eb] at e; cases e
    | some d' =>
      rw [ea, eb] at e
      obtain ⟨G1, r1⟩ := look_dp ra ea
      obtain ⟨G2, r2⟩ := look_dp rb eb
      obtain ⟨h1, h2, rfl⟩ := same_ok e
      refine ⟨toPy Z d, toPy Z d', ?_, ?_, shaped_of hs r1 h1, shaped_of hs r2 h2, ?_⟩
      · rw [hK]; exact r1.dp
      · rw [hK]; exact r2.dp
      · rw [eqv_eqb hs r1 r2]; exact q
theorem op_neO (hK : X.K = Z.K) (hs : StOk Z) (hu : X.A.units + 64 < cLine) : OpR X (compareOp .NotEq) (rNb Z fun a b => (eqO a b).map (!·)) := by
  refine opImp (op_neD hu) fun x y H Q ⟨F, a, b, o, ra, rb, e, q⟩ => ?_
  have e : (eqO a b).map (!·) = some o := e
  unfold eqO at e
  cases ea : look a with
  | none => rw [ea] at e; cases e
  | some d =>
    cases eb : look b with
    | none => rw [ea, eb] at e; cases e
    | some d' =>
      rw [ea, eb] at e
      obtain ⟨k, ek, rfl⟩ := Option.map_eq_some_iff.mp e
      obtain ⟨G1, r1⟩ := look_dp ra ea
      obtain ⟨G2, r2⟩ := look_dp rb eb
      obtain ⟨h1, h2, rfl⟩ := same_ok ek
      refine ⟨toPy Z d, toPy Z d', ?_, ?_, shaped_of hs r1 h1, shaped_of hs r2 h2, ?_⟩
      · rw [hK]; exact r1.dp
      · rw [hK]; exact r2.dp
      · rw [eqv_eqb hs r1 r2]; exact q
theorem lexI_eq : ∀ xs ys : List Int, lexI xs ys = HT.lexLt xs ys
  | [], [] => rfl
  | [], _ :: _ => rfl
  | _ :: _, [] => rfl
  | x :: xs, y :: ys => by
    simp only [lexI, HT.lexLt]
    rw [lexI_eq xs ys]
theorem ints_of {F : Fz} {H : Hp} : ∀ {xs : List D} {ns : List Int} {vs : List V}, intsOf xs = some ns → Rps Z F H xs vs → vs = ns.map V.int ∧ xs = ns.map D.int
  | [], ns, vs, e, r => by
    simp only [intsOf, Option.some.injEq] at e
    subst e
    rw [r.inv0]
    exact ⟨rfl, rfl⟩
  | x :: xs, ns, vs, e, r => by
    cases x with
    | int i =>
      simp only [intsOf] at e
      obtain ⟨ms, e1, rfl⟩ := Option.map_eq_some_iff.mp e
      obtain ⟨v, r', rfl, h1, h2⟩ := r.inv
      obtain ⟨e2, e3⟩ := ints_of e1 h2
      rw [e2, e3, Rp.inv_int h1]
      exact ⟨rfl, rfl⟩
    | _ => simp only [intsOf] at e; cases e
theorem op_ltO (hK : X.K = Z.K) (hu : X.A.units < cLine) : OpR X (compareOp .Lt) (rNb Z ltO) := by
  refine opImp (op_lt.or (op_ltT hu)) fun x y H Q ⟨F, a, b, o, ra, rb, e, q⟩ => ?_
  unfold ltO at e
  split at e
  · cases e
    exact .inl ⟨_, _, Rp.inv_int (Rv.d ra), Rp.inv_int (Rv.d rb), q⟩
  · rename_i xs ys
    cases e1 : intsOf xs with
    | none => rw [e1] at e; cases e
    | some ns =>
      cases e2 : intsOf ys with
      | none => rw [e1, e2] at e; cases e
      | some ms =>
        rw [e1, e2] at e
        cases e
        obtain ⟨a, vs, rfl, s1, r1⟩ := Rp.inv_tup (Rv.d ra)
        obtain ⟨b, ws, rfl, s2, r2⟩ := Rp.inv_tup (Rv.d rb)
        obtain ⟨rfl, _⟩ := ints_of e1 r1
        obtain ⟨rfl, _⟩ := ints_of e2 r2
        refine .inr ⟨a, b, ns, ms, rfl, rfl, by rw [hK]; exact s1, by rw [hK]; exact s2, ?_⟩
        rw [← lexI_eq]
        exact q
  · cases e
theorem op_leO : OpR X (compareOp .LtE) (rNb Z leO) := by
  refine opImp op_le fun x y H Q ⟨F, a, b, o, ra, rb, e, q⟩ => ?_
  unfold leO at e
  split at e
  · cases e
    exact ⟨_, _, Rp.inv_int (Rv.d ra), Rp.inv_int (Rv.d rb), q⟩
  · cases e
theorem op_gtO : OpR X (compareOp .Gt) (rNb Z gtO) := by
  refine opImp op_gt fun x y H Q ⟨F, a, b, o, ra, rb, e, q⟩ => ?_
  unfold gtO at e
  split at e
  · cases e
    exact ⟨_, _, Rp.inv_int (Rv.d ra), Rp.inv_int (Rv.d rb), q⟩
  · cases e
theorem op_geO : OpR X (compareOp .GtE) (rNb Z geO) := by
  refine opImp op_ge fun x y H Q ⟨F, a, b, o, ra, rb, e, q⟩ => ?_
  unfold geO at e
  split at e
  · cases e
    exact ⟨_, _, Rp.inv_int (Rv.d ra), Rp.inv_int (Rv.d rb), q⟩
  · cases e
theorem isNon_ok {F : Fz} {H : Hp} {x : D} {v : V} (h : Rp Z F H x v) : decide (v = V.non) = isNon x := by
  cases x with
  | non => rw [Rp.inv_non h]; rfl
  | bl b => rw [Rp.inv_bl h]; rfl
  | int i => rw [Rp.inv_int h]; rfl
  | str n =>
    simp only [Rp] at h
    obtain ⟨x, _, rfl⟩ := h
    rfl
  | tup xs =>
    obtain ⟨a, vs, rfl, _⟩ := Rp.inv_tup h
    rfl
  | lst xs =>
    obtain ⟨a, vs, rfl, _⟩ := Rp.inv_lst h
    rfl
/-- is of a bool: told by the value -/
theorem isBl_ok {F : Fz} {H : Hp} {x : D} {v : V} {u : Value} {c : Bool} (h : Rp Z F H x v) (r : RelV v u) : plainIs u (.bool c) = true ∧ (u == Value.bool c) = isBl c x := by
  cases x with
  | non =>
    rw [Rp.inv_non h] at r
    cases (show u = Value.none from r)
    exact ⟨rfl, rfl⟩
  | bl b =>
    rw [Rp.inv_bl h] at r
    cases (show u = Value.bool b from r)
    exact ⟨rfl, by cases b <;> cases c <;> rfl⟩
  | int i =>
    rw [Rp.inv_int h] at r
    obtain ⟨t, rfl⟩ := r
    exact ⟨rfl, rfl⟩
  | str n =>
    simp only [Rp] at h
    obtain ⟨x, _, rfl⟩ := h
    obtain ⟨t, rfl⟩ := r
    exact ⟨rfl, rfl⟩
  | tup xs =>
    obtain ⟨a, vs, rfl, _⟩ := Rp.inv_tup h
    cases (show u = Value.ref a from r)
    exact ⟨rfl, rfl⟩
  | lst xs =>
    obtain ⟨a, vs, rfl, _⟩ := Rp.inv_lst h
    cases (show u = Value.ref a from r)
    exact ⟨rfl, rfl⟩
theorem op_isB : OpR X (compareOp .Is) (fun x y H Q => ∃ (F : Fz) (d : D) (c : Bool), Rp Z F H d x ∧ y = .bl c ∧ Q (.bl (isBl c d)) H) := by
  intro pins s σ H x y v u Q I rx ry ⟨F, d, c, r, ey, q⟩
  subst ey
  cases (show u = Value.bool c from ry)
  obtain ⟨h1, h2⟩ := isBl_ok (c := c) r rx
  exact wpAny_is_plain h1 ⟨.bl (isBl c d), H, I, by rw [h2]; rfl, q⟩
theorem op_isnotB : OpR X (compareOp .IsNot) (fun x y H Q => ∃ (F : Fz) (d : D) (c : Bool), Rp Z F H d x ∧ y = .bl c ∧ Q (.bl (!isBl c d)) H) := by
  intro pins s σ H x y v u Q I rx ry ⟨F, d, c, r, ey, q⟩
  subst ey
  cases (show u = Value.bool c from ry)
  obtain ⟨h1, h2⟩ := isBl_ok (c := c) r rx
  exact wpAny_isNot_plain h1 ⟨.bl (!isBl c d), H, I, by rw [h2]; rfl, q⟩
theorem op_isO : OpR X (compareOp .Is) (rNb Z isO) := by
  refine opImp (op_isN.or (op_isB (Z := Z))) fun x y H Q ⟨F, a, b, o, ra, rb, e, q⟩ => ?_
  unfold isO at e
  split at e
  · obtain ⟨d, ed, rfl⟩ := Option.map_eq_some_iff.mp e
    obtain ⟨G, rd⟩ := look_dp ra ed
    refine .inl ⟨Rp.inv_non (Rv.d rb), ?_⟩
    rw [isNon_ok rd]
    exact q
  · obtain ⟨d, ed, rfl⟩ := Option.map_eq_some_iff.mp e
    obtain ⟨G, rd⟩ := look_dp ra ed
    exact .inr ⟨G, d, _, rd, Rp.inv_bl (Rv.d rb), q⟩
  · cases e
theorem op_isnotO : OpR X (compareOp .IsNot) (rNb Z fun a b => (isO a b).map (!·)) := by
  refine opImp (op_notN.or (op_isnotB (Z := Z))) fun x y H Q ⟨F, a, b, o, ra, rb, e, q⟩ => ?_
  obtain ⟨k, ek, rfl⟩ := Option.map_eq_some_iff.mp (show (isO a b).map (!·) = some o from e)
  unfold isO at ek
  split at ek
  · obtain ⟨d, ed, rfl⟩ := Option.map_eq_some_iff.mp ek
    obtain ⟨G, rd⟩ := look_dp ra ed
    refine .inl ⟨Rp.inv_non (Rv.d rb), ?_⟩
    rw [isNon_ok rd]
    exact q
  · obtain ⟨d, ed, rfl⟩ := Option.map_eq_some_iff.mp ek
    obtain ⟨G, rd⟩ := look_dp ra ed
    exact .inr ⟨G, d, _, rd, Rp.inv_bl (Rv.d rb), q⟩
  · cases ek
end
end Ev
/-! Ev4: in, truth, subscripts, slices, built-ins by values. -/
namespace Ev
open PySem PySem.Spec PyProof.Rows L2
section
variable {X : Cx} {Z : Wo} {F : Fz} {H : Hp}
/-- the items, where they stand -/
theorem items_sq {o : O} {v : V} {xs : List D} (r : Rv Z F H o v) (e : items o = some xs) : ∃ a vs, v = .ref a ∧ (SqL Z.K H a vs ∨ SqT Z.K H a vs) ∧ Rps Z F H xs vs := by
  unfold items at e
  split at e
  · cases e
    obtain ⟨a, vs, rfl, s, h⟩ := Rp.inv_tup (Rv.d r)
    exact ⟨a, vs, rfl, .inr s, h⟩
  · cases e
    obtain ⟨a, vs, rfl, s, h⟩ := Rp.inv_lst (Rv.d r)
    exact ⟨a, vs, rfl, .inl s.sq, h⟩
  · cases e
    obtain ⟨a, vs, rfl, s, h⟩ := Rv.l r
    exact ⟨a, vs, rfl, .inl (SqL.of s), h⟩
  · cases e
theorem any_eq (hs : StOk Z) {x : D} {v : V} (hx : Rp Z F H x v) : ∀ {ys : List D} {ws : List V} {G : Fz} {L : Hp}, Rps Z G L ys ws → ((toPys Z ys).any fun z => PyData.eqv z (toPy Z x)) = ys.any fun y => eqb y x
  | [], _, _, _, _ => by simp only [toPys, List.any_nil]
  | y :: ys, _, _, _, h => by
    obtain ⟨_, _, _, h1, h2⟩ := h.inv
    simp only [toPys, List.any_cons]
    rw [any_eq hs hx h2, eqv_eqb hs h1 hx]
theorem op_inSeq (hK : X.K = Z.K) (hs : StOk Z) (hu : X.A.units + 65 < cLine) : OpR X (compareOp .In) (rNb Z inSeq) := by
  intro pins s σ H x y v u Q I rx ry ⟨F, a, b, o, ra, rb, e, q⟩
  unfold inSeq at e
  cases ea : look a with
  | none => rw [ea] at e; cases e
  | some d =>
    cases eb : items b with
    | none => rw [ea, eb] at e; cases e
    | some ys =>
      rw [ea, eb] at e
      simp only [among] at e
      split at e
      · rename_i hl
        cases e
        obtain ⟨G, rd⟩ := look_dp ra ea
        obtain ⟨as, r1⟩ := Dp.reads I (toPy Z d) x v (by rw [hK]; exact rd.dp) rx
        have sd := shaped_of hs rd hl
        unfold items at eb
        split at eb
        · cases eb
          have rt := Rv.d rb
          obtain ⟨_, _, _, _, rs'⟩ := Rp.inv_tup rt
          obtain ⟨bs, r2⟩ := Dp.reads I _ y u (by rw [hK]; exact rt.dp) ry
          simp only [toPy] at r2
          refine SeqAt.in_tuple_reads r2 r1 (lays_of hs rs') (lay_of hs rd) (room_in_shaped sd hu) ⟨.bl _, H, I, rfl, ?_⟩
          rw [any_eq hs rd rs']
          exact q
        · cases eb
          have rt := Rv.d rb
          obtain ⟨_, _, _, _, rs'⟩ := Rp.inv_lst rt
          obtain ⟨bs, r2⟩ := Dp.reads I _ y u (by rw [hK]; exact rt.dp) ry
          simp only [toPy] at r2
          refine SeqAt.in_list_reads r2 r1 (lays_of hs rs') (lay_of hs rd) (room_in_shaped sd hu) ⟨.bl _, H, I, rfl, ?_⟩
          rw [any_eq hs rd rs']
          exact q
        · cases eb
          obtain ⟨G', rt⟩ := look_dp rb rfl
          obtain ⟨_, _, _, _, rs'⟩ := Rp.inv_lst rt
          obtain ⟨bs, r2⟩ := Dp.reads I _ y u (by rw [hK]; exact rt.dp) ry
          simp only [toPy] at r2
          refine SeqAt.in_list_reads r2 r1 (lays_of hs rs') (lay_of hs rd) (room_in_shaped sd hu) ⟨.bl _, H, I, rfl, ?_⟩
          rw [any_eq hs rd rs']
          exact q
        · cases eb
      · cases e
theorem op_notinSeq (hK : X.K = Z.K) (hs : StOk Z) (hu : X.A.units + 65 < cLine) : OpR X (compareOp .NotIn) (rNb Z fun a b => (inSeq a b).map (!·)) := by
  intro pins s σ H x y v u Q I rx ry ⟨F, a, b, o, ra, rb, e, q⟩
  obtain ⟨k, e', rfl⟩ := Option.map_eq_some_iff.mp (show (inSeq a b).map (!·) = some o from e)
  clear e
  have e := e'
  clear e'
  unfold inSeq at e
  cases ea : look a with
  | none => rw [ea] at e; cases e
  | some d =>
    cases eb : items b with
    | none => rw [ea, eb] at e; cases e
    | some ys =>
      rw [ea, eb] at e
      simp only [among] at e
      split at e
      · rename_i hl
        cases e
        obtain ⟨G, rd⟩ := look_dp ra ea
        obtain ⟨as, r1⟩ := Dp.reads I (toPy Z d) x v (by rw [hK]; exact rd.dp) rx
        have sd := shaped_of hs rd hl
        unfold items at eb
        split at eb
        · cases eb
          have rt := Rv.d rb
          obtain ⟨_, _, _, _, rs'⟩ := Rp.inv_tup rt
          obtain ⟨bs, r2⟩ := Dp.reads I _ y u (by rw [hK]; exact rt.dp) ry
          simp only [toPy] at r2
          refine SeqAt.notIn_tuple_reads r2 r1 (lays_of hs rs') (lay_of hs rd) (room_in_shaped sd hu) ⟨.bl _, H, I, rfl, ?_⟩
          rw [any_eq hs rd rs']
          exact q
        · cases eb
          have rt := Rv.d rb
          obtain ⟨_, _, _, _, rs'⟩ := Rp.inv_lst rt
          obtain ⟨bs, r2⟩ := Dp.reads I _ y u (by rw [hK]; exact rt.dp) ry
          simp only [toPy] at r2
          refine SeqAt.notIn_list_reads r2 r1 (lays_of hs rs') (lay_of hs rd) (room_in_shaped sd hu) ⟨.bl _, H, I, rfl, ?_⟩
          rw [any_eq hs rd rs']
          exact q
        · cases eb
          obtain ⟨G', rt⟩ := look_dp rb rfl
          obtain ⟨_, _, _, _, rs'⟩ := Rp.inv_lst rt
          obtain ⟨bs, r2⟩ := Dp.reads I _ y u (by rw [hK]; exact rt.dp) ry
          simp only [toPy] at r2
          refine SeqAt.notIn_list_reads r2 r1 (lays_of hs rs') (lay_of hs rd) (room_in_shaped sd hu) ⟨.bl _, H, I, rfl, ?_⟩
          rw [any_eq hs rd rs']
          exact q
        · cases eb
      · cases e
/-! ### truth -/
theorem tru_O {o : O} {v : V} {b : Bool} (r : Rv Z F H o v) (e : truth o = some b) : TruV Z.K v H b := by
  have emp : ∀ {xs : List D} {vs : List V}, Rps Z F H xs vs → (!xs.isEmpty) = !vs.isEmpty := fun {xs vs} h => by
    cases xs with
    | nil => rw [h.inv0]; rfl
    | cons x xs =>
      obtain ⟨w, r, rfl, _⟩ := h.inv
      rfl
  unfold truth at e
  split at e
  · cases e
    rw [Rp.inv_non (Rv.d r)]
    exact rfl
  · cases e
    rw [Rp.inv_bl (Rv.d r)]
    exact rfl
  · cases e
    rw [Rp.inv_int (Rv.d r)]
    exact rfl
  · cases e
    obtain ⟨a, vs, rfl, s, h⟩ := Rp.inv_tup (Rv.d r)
    exact .inr (.inl ⟨vs, s, emp h⟩)
  · cases e
    obtain ⟨a, vs, rfl, s, h⟩ := Rp.inv_lst (Rv.d r)
    exact .inl ⟨vs, s.sq, emp h⟩
  · cases e
    obtain ⟨a, vs, rfl, s, h⟩ := Rv.l r
    exact .inl ⟨vs, SqL.of s, emp h⟩
  · cases e
/-! ### subscripts -/
theorem place_eq (n : Nat) (i : Int) : place n i = ixN n i := by
  unfold place ixN
  split
  · rfl
  · split
    · rw [Int.add_comm]
    · rfl
theorem at_ok {xs : List D} {vs : List V} {i : Int} {x : D} (r : Rps Z F H xs vs) (e : at_ xs i = some x) : ∃ v, atI vs i = some v ∧ Rp Z F H x v := by
  unfold at_ at e
  rw [place_eq] at e
  unfold atI
  rw [← r.len]
  cases h : ixN xs.length i with
  | none => rw [h] at e; cases e
  | some j =>
    rw [h] at e
    obtain ⟨v, e1, r1⟩ := r.get (show xs[j]? = some x from e)
    exact ⟨v, e1, r1⟩
def rIxO (Z : Wo) (g : O → O → Option D) : R2 := fun x y H Q => ∃ F a b d, Rv Z F H a x ∧ Rv Z F H b y ∧ g a b = some d ∧ ∀ v, Rp Z F H d v → Q v H
theorem ixImp {r r' : R2} (h : IxR X r) (i : ∀ x y H Q, r' x y H Q → r x y H Q) : IxR X r' :=
  fun a b pins s σ H x y v u Q I rx ry q hs => h a b pins s σ H x y v u Q I rx ry (i x y H Q q) hs
theorem ix_seqO (hK : X.K = Z.K) : IxR X (rIxO Z ixSeq) := by
  refine ixImp (ix_list.or ix_tup) fun x y H Q ⟨F, a, b, d, ra, rb, e, q⟩ => ?_
  unfold ixSeq at e
  split at e
  · rename_i xs i ei
    obtain ⟨p, vs, rfl, s, r⟩ := items_sq ra ei
    obtain ⟨v, e1, r1⟩ := at_ok r e
    rcases s with s | s
    · exact .inl ⟨p, vs, _, v, rfl, Rp.inv_int (Rv.d rb), by rw [hK]; exact s, e1, q v r1⟩
    · exact .inr ⟨p, vs, _, v, rfl, Rp.inv_int (Rv.d rb), by rw [hK]; exact s, e1, q v r1⟩
  · cases e
/-! ### slices -/
theorem cut_ok {xs : List D} {vs : List V} (lo hi : Option Int) (r : Rps Z F H xs vs) : Rps Z F H (cut xs lo hi) (cutV vs lo hi) := by
  have e : ∀ n d o, sIx n d o = HT.sIx n d o := fun n d o => by cases o <;> rfl
  unfold cut cutV
  rw [e, e, ← r.len]
  exact (r.drop _).take _
theorem slImp {r r' : V → Option Int → Option Int → Hp → VK → Prop} (h : SlR X r) (i : ∀ x lo hi H Q, r' x lo hi H Q → r x lo hi H Q) : SlR X r' :=
  fun pins s σ H x v vl vu lo hi sl Q I rx hs pl pu q => h pins s σ H x v vl vu lo hi sl Q I rx hs pl pu (i x lo hi H Q q)
def rSlO (Z : Wo) : V → Option Int → Option Int → Hp → VK → Prop := fun x lo hi H Q => ∃ F a o, Rv Z F H a x ∧ slice a lo hi = some o ∧ ∀ v H', NewO Z F H o v H' → Q v H'
theorem sl_O (hK : X.K = Z.K) : SlR X (rSlO Z) := by
  refine slImp (sl_tupA.or sl_list) fun x lo hi H Q ⟨F, a, o, ra, e, q⟩ => ?_
  unfold slice at e
  split at e
  · rename_i xs
    cases e
    obtain ⟨p, vs, rfl, s, r⟩ := Rp.inv_tup (Rv.d ra)
    have rc := cut_ok lo hi r
    refine .inl ⟨p, vs, rfl, by rw [hK]; exact s, fun hw => q _ _ (.here ?_), fun _ a ha => q _ _ (new_tup ha rc)⟩
    have ec : cutV vs lo hi = vs := by
      unfold cutV
      rw [hw.1, hw.2, List.drop_zero, Nat.sub_zero, List.take_length]
    rw [ec] at rc
    simp only [Rp]
    exact ⟨p, vs, rfl, s, rc⟩
  · rename_i nt
    obtain ⟨xs, ei, rfl⟩ := Option.map_eq_some_iff.mp e
    have hL : ∃ p vs, x = .ref p ∧ SqL Z.K H p vs ∧ Rps Z F H xs vs := by
      unfold items at ei
      split at ei
      · exact absurd rfl (nt _)
      · cases ei
        obtain ⟨a, vs, rfl, s, h⟩ := Rp.inv_lst (Rv.d ra)
        exact ⟨a, vs, rfl, s.sq, h⟩
      · cases ei
        obtain ⟨a, vs, rfl, s, h⟩ := Rv.l ra
        exact ⟨a, vs, rfl, SqL.of s, h⟩
      · cases ei
    obtain ⟨p, vs, rfl, s, r⟩ := hL
    exact .inr ⟨p, vs, rfl, by rw [hK]; exact s, fun a ha => q _ _ (new_lst ha (cut_ok lo hi r))⟩
/-! ### built-ins -/
def RvL (Z : Wo) (F : Fz) (H : Hp) : List O → List V → Prop
  | [], vs => vs = []
  | o :: os, vs => ∃ v r, vs = v :: r ∧ Rv Z F H o v ∧ RvL Z F H os r
def rC (Z : Wo) (g : List O → Option O) : List V → Hp → VK → Prop := fun vs H Q => ∃ F os o, RvL Z F H os vs ∧ g os = some o ∧ ∀ v H', NewO Z F H o v H' → Q v H'
theorem callImp {f : Value} {r r' : List V → Hp → VK → Prop} (h : CallR X f r) (i : ∀ vs H Q, r' vs H Q → r vs H Q) : CallR X f r' :=
  fun pins s σ H xs us Q I rs q => h pins s σ H xs us Q I rs (i xs H Q q)
theorem RvL.one {o : O} {vs : List V} (h : RvL Z F H [o] vs) : ∃ v, vs = [v] ∧ Rv Z F H o v := by
  obtain ⟨v, r, rfl, h1, h2⟩ := h
  have e : r = [] := h2
  rw [e]
  exact ⟨v, rfl, h1⟩
theorem RvL.two {o p : O} {vs : List V} (h : RvL Z F H [o, p] vs) : ∃ v w, vs = [v, w] ∧ Rv Z F H o v ∧ Rv Z F H p w := by
  obtain ⟨v, r, rfl, h1, h2⟩ := h
  obtain ⟨w, rfl, h3⟩ := RvL.one h2
  exact ⟨v, w, rfl, h1, h3⟩
theorem cr_len (hK : X.K = Z.K) : CallR X (.builtin "len") (rC Z lenF) := by
  refine callImp call_len_seq fun vs H Q ⟨F, os, o, r, e, q⟩ => ?_
  unfold lenF seqF at e
  split at e
  · obtain ⟨xs, ei, e2⟩ := Option.bind_eq_some_iff.mp e
    cases e2
    obtain ⟨v, rfl, rv⟩ := r.one
    obtain ⟨p, vs, rfl, s, h⟩ := items_sq rv ei
    refine ⟨p, vs, rfl, by rw [hK]; exact s, ?_⟩
    rw [← h.len]
    exact q _ _ (new_int _)
  · cases e
theorem cr_abs : CallR X (.builtin "abs") (rC Z absF) := by
  refine callImp call_abs fun vs H Q ⟨F, os, o, r, e, q⟩ => ?_
  unfold absF at e
  split at e
  · cases e
    obtain ⟨v, rfl, rv⟩ := r.one
    rw [Rp.inv_int (Rv.d rv)]
    exact ⟨_, rfl, q _ _ (new_int _)⟩
  · cases e
theorem cr_int : CallR X (.type "int") (rC Z intF) := by
  refine callImp call_int1 fun vs H Q ⟨F, os, o, r, e, q⟩ => ?_
  unfold intF at e
  split at e
  · cases e
    obtain ⟨v, rfl, rv⟩ := r.one
    rw [Rp.inv_int (Rv.d rv)]
    exact .inl ⟨_, rfl, q _ _ (new_int _)⟩
  · cases e
    obtain ⟨v, rfl, rv⟩ := r.one
    rw [Rp.inv_bl (Rv.d rv)]
    exact .inr ⟨_, rfl, q _ _ (new_int _)⟩
  · cases e
theorem cr_tuple (hK : X.K = Z.K) : CallR X (.type "tuple") (rC Z tupleF) := by
  refine callImp call_tuple_of fun vs H Q ⟨F, os, o, r, e, q⟩ => ?_
  unfold tupleF seqF at e
  split at e
  · obtain ⟨xs, ei, e2⟩ := Option.bind_eq_some_iff.mp e
    cases e2
    obtain ⟨v, rfl, rv⟩ := r.one
    obtain ⟨p, vs, rfl, s, h⟩ := items_sq rv ei
    rcases s with s | s
    · exact ⟨p, vs, rfl, .inl ⟨by rw [hK]; exact s, fun l hl => q _ _ (new_tup hl h)⟩⟩
    · refine ⟨p, vs, rfl, .inr ⟨by rw [hK]; exact s, q _ _ (.here ?_)⟩⟩
      simp only [Rp]
      exact ⟨p, vs, rfl, s, h⟩
  · cases e
theorem cr_list (hK : X.K = Z.K) : CallR X (.type "list") (rC Z listF) := by
  refine callImp call_list_of fun vs H Q ⟨F, os, o, r, e, q⟩ => ?_
  unfold listF seqF at e
  split at e
  · obtain ⟨xs, ei, e2⟩ := Option.bind_eq_some_iff.mp e
    cases e2
    obtain ⟨v, rfl, rv⟩ := r.one
    obtain ⟨p, vs, rfl, s, h⟩ := items_sq rv ei
    exact ⟨p, vs, rfl, by rw [hK]; exact s, fun l hl => q _ _ (new_lst hl h)⟩
  · cases e
theorem itemsL_sq {o : O} {v : V} {xs : List D} (r : Rv Z F H o v) (e : itemsL o = some xs) : ∃ a vs, v = .ref a ∧ SqL Z.K H a vs ∧ Rps Z F H xs vs := by
  unfold itemsL at e
  split at e
  · cases e
    obtain ⟨a, vs, rfl, s, h⟩ := Rp.inv_lst (Rv.d r)
    exact ⟨a, vs, rfl, s.sq, h⟩
  · cases e
    obtain ⟨a, vs, rfl, s, h⟩ := Rv.l r
    exact ⟨a, vs, rfl, SqL.of s, h⟩
  · cases e
theorem intsF_ok {f : List Int → Option O} {os : List O} {vs : List V} {o : O} (r : RvL Z F H os vs) (e : intsF f os = some o) : ∃ a ns, vs = [V.ref a] ∧ SqL Z.K H a (ns.map V.int) ∧ f ns = some o := by
  unfold intsF at e
  split at e
  · obtain ⟨xs, ei, e2⟩ := Option.bind_eq_some_iff.mp e
    obtain ⟨ns, en, e3⟩ := Option.bind_eq_some_iff.mp e2
    obtain ⟨v, rfl, rv⟩ := r.one
    obtain ⟨p, vs, rfl, s, h⟩ := itemsL_sq rv ei
    obtain ⟨rfl, _⟩ := ints_of en h
    exact ⟨p, ns, rfl, s, e3⟩
  · cases e
theorem cr_sumO (hK : X.K = Z.K) (hc : X.calm = true) : CallR X (.builtin "sum") (rC Z sumF) := by
  refine callImp (cr_sum hc) fun vs H Q ⟨F, os, o, r, e, q⟩ => ?_
  obtain ⟨a, ns, rfl, s, e⟩ := intsF_ok r e
  cases e
  exact ⟨a, ns, rfl, by rw [hK]; exact s, q _ _ (new_int _)⟩
theorem maxL_mem : ∀ (m : Int) (r : List Int), maxL m r ∈ m :: r
  | m, [] => by simp only [maxL]; exact List.mem_cons_self
  | m, x :: r => by
    simp only [maxL]
    have h := maxL_mem (if x > m then x else m) r
    rcases List.mem_cons.mp h with h | h
    · rw [h]
      split
      · exact List.mem_cons_of_mem _ List.mem_cons_self
      · exact List.mem_cons_self
    · exact List.mem_cons_of_mem _ (List.mem_cons_of_mem _ h)
theorem maxL_ge : ∀ (m : Int) (r : List Int), ∀ y ∈ m :: r, y ≤ maxL m r
  | m, [], y, h => by
    simp only [maxL]
    rcases List.mem_cons.mp h with h | h
    · omega
    · cases h
  | m, x :: r, y, h => by
    simp only [maxL]
    have ih := maxL_ge (if x > m then x else m) r
    have h0 := ih _ List.mem_cons_self
    rcases List.mem_cons.mp h with h | h
    · subst h
      split at h0 <;> split <;> omega
    · rcases List.mem_cons.mp h with h | h
      · subst h
        split at h0 <;> split <;> omega
      · exact ih y (List.mem_cons_of_mem _ h)
theorem minL_mem : ∀ (m : Int) (r : List Int), minL m r ∈ m :: r
  | m, [] => by simp only [minL]; exact List.mem_cons_self
  | m, x :: r => by
    simp only [minL]
    have h := minL_mem (if x < m then x else m) r
    rcases List.mem_cons.mp h with h | h
    · rw [h]
      split
      · exact List.mem_cons_of_mem _ List.mem_cons_self
      · exact List.mem_cons_self
    · exact List.mem_cons_of_mem _ (List.mem_cons_of_mem _ h)
theorem minL_le : ∀ (m : Int) (r : List Int), ∀ y ∈ m :: r, minL m r ≤ y
  | m, [], y, h => by
    simp only [minL]
    rcases List.mem_cons.mp h with h | h
    · omega
    · cases h
  | m, x :: r, y, h => by
    simp only [minL]
    have ih := minL_le (if x < m then x else m) r
    have h0 := ih _ List.mem_cons_self
    rcases List.mem_cons.mp h with h | h
    · subst h
      split at h0 <;> split <;> omega
    · rcases List.mem_cons.mp h with h | h
      · subst h
        split at h0 <;> split <;> omega
      · exact ih y (List.mem_cons_of_mem _ h)
theorem cr_maxO (hK : X.K = Z.K) (hc : X.calm = true) : CallR X (.builtin "max") (rC Z (bestF maxL)) := by
  refine callImp (cr_max hc) fun vs H Q ⟨F, os, o, r, e, q⟩ => ?_
  obtain ⟨a, ns, rfl, s, e⟩ := intsF_ok r e
  cases ns with
  | nil => cases e
  | cons m r =>
    cases e
    refine ⟨a, _, rfl, by rw [hK]; exact s, by simp, fun z h1 h2 => ?_⟩
    have e : z = maxL m r := Int.le_antisymm (maxL_ge m r z h1) (h2 _ (maxL_mem m r))
    rw [e]
    exact q _ _ (new_int _)
theorem cr_minO (hK : X.K = Z.K) (hc : X.calm = true) : CallR X (.builtin "min") (rC Z (bestF minL)) := by
  refine callImp (cr_min hc) fun vs H Q ⟨F, os, o, r, e, q⟩ => ?_
  obtain ⟨a, ns, rfl, s, e⟩ := intsF_ok r e
  cases ns with
  | nil => cases e
  | cons m r =>
    cases e
    refine ⟨a, _, rfl, by rw [hK]; exact s, by simp, fun z h1 h2 => ?_⟩
    have e : z = minL m r := Int.le_antisymm (h2 _ (minL_mem m r)) (minL_le m r z h1)
    rw [e]
    exact q _ _ (new_int _)
theorem cr_max2 (hc : X.calm = true) : CallR X (.builtin "max") (rC Z max2F) := by
  refine callImp (call_max2 hc) fun vs H Q ⟨F, os, o, r, e, q⟩ => ?_
  unfold max2F at e
  split at e
  · cases e
    obtain ⟨v, w, rfl, rv, rw'⟩ := r.two
    rw [Rp.inv_int (Rv.d rv), Rp.inv_int (Rv.d rw')]
    exact ⟨_, _, rfl, q _ _ (new_int _)⟩
  · cases e
theorem cr_min2 (hc : X.calm = true) : CallR X (.builtin "min") (rC Z min2F) := by
  refine callImp (call_min2 hc) fun vs H Q ⟨F, os, o, r, e, q⟩ => ?_
  unfold min2F at e
  split at e
  · cases e
    obtain ⟨v, w, rfl, rv, rw'⟩ := r.two
    rw [Rp.inv_int (Rv.d rv), Rp.inv_int (Rv.d rw')]
    exact ⟨_, _, rfl, q _ _ (new_int _)⟩
  · cases e
theorem bols_of : ∀ {xs : List D} {bs : List Bool} {vs : List V}, bolsOf xs = some bs → Rps Z F H xs vs → vs = bs.map V.bl
  | [], bs, vs, e, r => by
    simp only [bolsOf, Option.some.injEq] at e
    subst e
    rw [r.inv0]
    rfl
  | x :: xs, bs, vs, e, r => by
    cases x with
    | bl i =>
      simp only [bolsOf] at e
      obtain ⟨ms, e1, rfl⟩ := Option.map_eq_some_iff.mp e
      obtain ⟨v, r', rfl, h1, h2⟩ := r.inv
      rw [bols_of e1 h2, Rp.inv_bl h1]
      rfl
    | _ => simp only [bolsOf] at e; cases e
theorem bolsF_ok {f : List Bool → Bool} {os : List O} {vs : List V} {o : O} (r : RvL Z F H os vs) (e : bolsF f os = some o) : ∃ a bs, vs = [V.ref a] ∧ SqL Z.K H a (bs.map V.bl) ∧ o = .d (.bl (f bs)) := by
  unfold bolsF at e
  split at e
  · obtain ⟨xs, ei, e2⟩ := Option.bind_eq_some_iff.mp e
    obtain ⟨bs, en, rfl⟩ := Option.map_eq_some_iff.mp e2
    obtain ⟨v, rfl, rv⟩ := r.one
    obtain ⟨p, vs, rfl, s, h⟩ := itemsL_sq rv ei
    rw [bols_of en h] at s
    exact ⟨p, bs, rfl, s, rfl⟩
  · cases e
theorem cr_allO (hK : X.K = Z.K) (hc : X.calm = true) : CallR X (.builtin "all") (rC Z (bolsF fun bs => bs.all id)) := by
  refine callImp (cr_all hc) fun vs H Q ⟨F, os, o, r, e, q⟩ => ?_
  obtain ⟨a, bs, rfl, s, rfl⟩ := bolsF_ok r e
  exact ⟨a, bs, rfl, by rw [hK]; exact s, q _ _ (new_bl _)⟩
theorem cr_anyO (hK : X.K = Z.K) (hc : X.calm = true) : CallR X (.builtin "any") (rC Z (bolsF fun bs => bs.any id)) := by
  refine callImp (cr_any hc) fun vs H Q ⟨F, os, o, r, e, q⟩ => ?_
  obtain ⟨a, bs, rfl, s, rfl⟩ := bolsF_ok r e
  exact ⟨a, bs, rfl, by rw [hK]; exact s, q _ _ (new_bl _)⟩
/-! ### sorted, of ints -/
theorem insI_perm (x : Int) : ∀ l : List Int, (insI x l).Perm (x :: l)
  | [] => List.Perm.refl _
  | y :: r => by
    simp only [insI]
    split
    · exact List.Perm.refl _
    · exact (List.Perm.cons y (insI_perm x r)).trans (List.Perm.swap x y r)
theorem sortI_perm : ∀ l : List Int, (sortI l).Perm l
  | [] => List.Perm.refl _
  | x :: r => by
    simp only [sortI]
    exact (insI_perm x _).trans (List.Perm.cons x (sortI_perm r))
theorem insI_sorted (x : Int) : ∀ l : List Int, l.Pairwise (· ≤ ·) → (insI x l).Pairwise (· ≤ ·)
  | [], _ => by simp only [insI]; exact List.pairwise_singleton _ _
  | y :: r, h => by
    simp only [insI]
    obtain ⟨h1, h2⟩ := List.pairwise_cons.mp h
    split
    · refine List.pairwise_cons.mpr ⟨fun z hz => ?_, h⟩
      rcases List.mem_cons.mp hz with e | hz
      · omega
      · have := h1 z hz
        omega
    · refine List.pairwise_cons.mpr ⟨fun z hz => ?_, insI_sorted x r h2⟩
      rcases List.mem_cons.mp ((insI_perm x r).mem_iff.mp hz) with e | hz
      · omega
      · exact h1 z hz
theorem sortI_sorted : ∀ l : List Int, (sortI l).Pairwise (· ≤ ·)
  | [] => List.Pairwise.nil
  | x :: r => by
    simp only [sortI]
    exact insI_sorted x _ (sortI_sorted r)
theorem sorted_one {l m : List Int} (p : l.Perm m) (h1 : l.Pairwise (· ≤ ·)) (h2 : m.Pairwise (· ≤ ·)) : l = m :=
  List.Perm.eq_of_pairwise (fun a b _ _ h3 h4 => Int.le_antisymm h3 h4) h1 h2 p
theorem Rps.ints : ∀ ns : List Int, Rps Z F H (ns.map D.int) (ns.map V.int)
  | [] => .nil
  | n :: ns => .cons (by simp only [Rp]) (Rps.ints ns)
theorem cr_sortO (hK : X.K = Z.K) : CallR X (.builtin "sorted") (rC Z sortF) := by
  refine callImp cr_sortedI fun vs H Q ⟨F, os, o, r, e, q⟩ => ?_
  obtain ⟨a, ns, rfl, s, e⟩ := intsF_ok r e
  cases e
  refine ⟨a, ns, rfl, by rw [hK]; exact s, fun ns' p hp hs hn => ?_⟩
  have e : ns' = sortI ns := sorted_one (hp.trans (sortI_perm ns).symm) hs (sortI_sorted ns)
  rw [e]
  exact q _ _ (new_lst hn (Rps.ints _))
end
end Ev
/-! Ev24: sorted(set(a list of ints)). -/
namespace Ev
open PySem PySem.Spec PyProof.Rows L2
/-- the set just made -/
abbrev set0 (w : World) : Obj := { cls := .type "set", dict := none, data := .set #[] 0 (.fresh 0 0 (!w.params.followText "set-order")) }
section
variable {P : Program} {w : World} {A : Around} {E : Value → Shared → Prop} {s : Shared}
set_option maxHeartbeats 3200000 in
theorem set_of_list {l : Addr} {its : Array Value} (ns : List Int) {Q : Value → Shared → Prop} (hh : A.handled = none) (hl : s.heap.IsList l its) (hit : IntsAre its.toList ns) (hb : ns.length + 1 < scanBound)
    (h : ∀ (h2 : Heap) (tk k : Nat), SetR w h2 s.heap.objs.size (fun j => decide (j ∈ ns)) k → k ≤ ns.length → (∀ b o, s.heap.get? b = some o → h2.get? b = some o) → Q (.ref s.heap.objs.size) { s with heap := h2, toks := tk }) :
    wpAny (model P w) A (PySem.call (.type "set") [.ref l]) Q E s := by
  have sz : its.size = ns.length := by
    rw [← Array.length_toList]
    exact IntsAre.length hit
  obtain ⟨c0, tl0, hm0⟩ := F.called_set.mro
  have made0 := F.called_set.made
  have sub0 := F.called_set.sub
  refine wpAny_call <| codeAny_of_tree ?_
  show wpAny _ _ (callAny (.type "set") ⟨[.ref l], []⟩) _ _ _
  refine wpAny_pure (And.intro (Code.quiet_builtin _ (by decide +kernel)) (codeAny_builtin F.entry_type_call ?_))
  rw [Around.under_plain (weight_type_call_type "set" [Value.ref l] []) (by rfl)]
  have g1 := F.called_set.notType
  have g2 := F.called_set.canCreate
  have g3 := F.typeCall_set_1 (Value.ref l)
  repeat (any_goals first | assumption | wp_step)
  refine codeAny_mono
    (code_set_led1 (.ref l) (E := E) (Q₁ := fun ob t => ob = .ref s.heap.objs.size ∧ t = { s with heap := s.heap.push (set0 w) }) ⟨rfl, rfl⟩)
    fun r t hr => ?_
  cases r with
  | error e => exact hr
  | ok fl =>
    cases fl with
    | ret ob =>
      obtain ⟨rfl, rfl⟩ := hr
      have hS : (s.heap.push (set0 w)).get? s.heap.objs.size = some (set0 w) := Heap.get?_push_size _ rfl
      have hT : Shared.TypeIs { s with heap := s.heap.push (set0 w) } (.ref s.heap.objs.size) "set" := ⟨_, hS, rfl⟩
      have hi1 := F.called_set.init.lookup
      have hi2 := F.called_set.init.bind (Value.ref s.heap.objs.size)
      repeat (any_goals first | assumption | wp_step)
      refine codeAny_mono (codeAny_call_builtin (R := wants (fun r t2 => r = Value.none ∧ ∃ h2 tk k, t2 = { s with heap := h2, toks := tk } ∧ SetR w h2 s.heap.objs.size (fun j => decide (j ∈ ns)) k ∧ k ≤ ns.length ∧ ∀ b o, s.heap.get? b = some o → h2.get? b = some o) E)
        F.called_set.init.plain F.entry_set_init (check_set_init_1 hT ?_)) fun r2 t2 hr2 => ?_
      · obtain ⟨⟨oc, od, oda, osl⟩, hol, hcl, nl, hdl⟩ := hl
        dsimp only at hcl hdl
        subst hcl hdl
        have hol1 : (s.heap.push (set0 w)).get? l = some { cls := .type "list", dict := od, data := .seq its nl, slots := osl } := Heap.get?_push_of_some _ hol
        have u1 := F.sub_list_set
        have u2 := F.sub_list_frozenset
        have u3 : (Value.type "list" == Value.type "dict") = false := by decide
        have hl1 : (s.heap.push (set0 w)).IsList l its := ⟨_, hol1, rfl, nl, rfl⟩
        unfold Builtin.«set.__init__» noKeywords Builtin.Frozenset.updateFrom
        generalize hPI : pyIter = PI
        wp_walk
        subst hPI
        refine wpAny_pyIter_list hl1 ?_
        refine wpAny_bind (wpAny_runValue ?_)
        have lS : l < s.heap.objs.size := Heap.lt_size hol
        have hA3 : A.in1.in1.in1.handled = none := by simp [hh]
        have zI : (s.heap.push (set0 w)).objs.size = s.heap.objs.size + 1 := Heap.size_push ..
        have lI : l ≠ (s.heap.push (set0 w)).objs.size := by
          rw [zI]
          exact Nat.ne_of_lt (Nat.lt_succ_of_lt lS)
        have sF : s.heap.objs.size ∉ [(s.heap.push (set0 w)).objs.size, l] := by
          rw [zI]
          simp only [List.mem_cons, List.not_mem_nil, or_false, not_or]
          exact And.intro (Nat.ne_of_lt (Nat.lt_succ_self _)) (Nat.ne_of_gt lS)
        have val : ∀ (i : Nat) (v : Value), its[i]? = some v → ∃ k t, ns[i]? = some k ∧ v = .int k t := fun i v hv => by
          have il : i < ns.length := by
            rw [← sz]
            exact (Array.getElem?_eq_some_iff.mp hv).1
          obtain ⟨t, e⟩ := PyProof.Rows.IntsAre.int_at hit i v (by rw [Array.getElem?_toList, hv])
          refine ⟨ns[i], t, List.getElem?_eq_getElem il, e.trans ?_⟩
          rw [List.getD_eq_getElem?_getD, List.getElem?_eq_getElem il] <;> rfl
        refine set_update_ints ((Walks.list hA3 _ l lI its).toS) s.heap.objs.size sF ns sz hb val (its.size - 0) 0 _ (by omega) (Nat.zero_le _) ⟨⟨_, Heap.get?_push_size _ rfl, rfl, rfl⟩, hl1.push _⟩ ⟨0, Nat.le_refl 0, setR_new_at (Heap.get?_push_of_some _ hS)⟩ fun t3 k hm hk hR => ?_
        obtain ⟨h3, g4, d3, tk3, os3⟩ := t3
        have e1 : g4 = s.gens := hm.gens
        have e2 : d3 = s.drawn := hm.drawn
        have e3 : os3 = s.os := hm.os
        subst e1 e2 e3
        show wpAny _ _ _ _ _ _
        refine wpAny_pure ?_
        show wpAny _ _ (ret .none) _ _ _
        rw [sz] at hk
        refine wpAny_pure ⟨rfl, h3, tk3, k, rfl, hR, hk, fun b o e => ?_⟩
        have b0 := Heap.lt_size e
        refine hm.heap b o ?_ (Heap.get?_push_of_some _ (Heap.get?_push_of_some _ e))
        simp only [List.mem_cons, List.not_mem_nil, or_false, not_or]
        exact ⟨Nat.ne_of_lt b0, by rw [zI]; exact Nat.ne_of_lt (Nat.lt_succ_of_lt b0)⟩
      · cases r2 with
        | error e => exact hr2
        | ok fl2 =>
          cases fl2 with
          | ret r =>
            obtain ⟨rfl, h2, tk, k, rfl, q1, q2, q3⟩ := hr2
            repeat (any_goals first | assumption | wp_step)
            exact h _ _ _ q1 q2 q3
          | _ => exact hr2.elim
    | _ => exact hr.elim
end
end Ev
/-! Ev25: sorted(set(a list of ints)), the rule. -/
namespace Ev
open PySem PySem.Spec PyProof.Rows L2
section
theorem insS_mem {x k : Int} : ∀ {l : List Int}, k ∈ insS x l ↔ k = x ∨ k ∈ l
  | [] => by simp [insS]
  | y :: r => by
    simp only [insS]
    split
    · simp only [List.mem_cons]
    · split
      · rename_i e
        subst e
        simp only [List.mem_cons]
        exact ⟨fun z => .inr z, fun z => z.elim (fun e => .inl e) id⟩
      · simp only [List.mem_cons, insS_mem (l := r)]
        exact ⟨fun z => z.elim (fun e => .inr (.inl e)) fun z => z.elim .inl fun z => .inr (.inr z), fun z => z.elim (fun e => .inr (.inl e)) fun z => z.elim .inl fun z => .inr (.inr z)⟩
theorem insS_up {x : Int} : ∀ {l : List Int}, l.Pairwise (· < ·) → (insS x l).Pairwise (· < ·)
  | [], _ => by simp only [insS]; exact List.pairwise_singleton _ _
  | y :: r, h => by
    obtain ⟨h1, h2⟩ := List.pairwise_cons.mp h
    simp only [insS]
    split
    · refine List.pairwise_cons.mpr ⟨fun z hz => ?_, h⟩
      rcases List.mem_cons.mp hz with e | hz
      · omega
      · have := h1 z hz
        omega
    · split
      · exact h
      · refine List.pairwise_cons.mpr ⟨fun z hz => ?_, insS_up h2⟩
        rcases insS_mem.mp hz with e | hz
        · omega
        · exact h1 z hz
theorem sortS_mem {k : Int} : ∀ {l : List Int}, k ∈ sortS l ↔ k ∈ l
  | [] => by simp [sortS]
  | x :: r => by simp only [sortS, insS_mem, List.mem_cons, sortS_mem (l := r)]
theorem sortS_up : ∀ {l : List Int}, (sortS l).Pairwise (· < ·)
  | [] => List.Pairwise.nil
  | x :: r => insS_up sortS_up
theorem up_one : ∀ {l m : List Int}, l.Pairwise (· < ·) → m.Pairwise (· < ·) → (∀ k, k ∈ l ↔ k ∈ m) → l = m
  | [], [], _, _, _ => rfl
  | [], y :: m, _, _, h => absurd ((h y).mpr List.mem_cons_self) (by simp)
  | x :: l, [], _, _, h => absurd ((h x).mp List.mem_cons_self) (by simp)
  | x :: l, y :: m, h1, h2, h => by
    obtain ⟨a1, a2⟩ := List.pairwise_cons.mp h1
    obtain ⟨b1, b2⟩ := List.pairwise_cons.mp h2
    have e : x = y := by
      rcases List.mem_cons.mp ((h x).mp List.mem_cons_self) with z | z
      · exact z
      · rcases List.mem_cons.mp ((h y).mpr List.mem_cons_self) with z2 | z2
        · exact z2.symm
        · have := a1 y z2
          have := b1 x z
          omega
    subst e
    rw [up_one a2 b2 fun k => ?_]
    constructor
    · intro hk
      rcases List.mem_cons.mp ((h k).mp (List.mem_cons_of_mem _ hk)) with z | z
      · have := a1 k hk
        omega
      · exact z
    · intro hk
      rcases List.mem_cons.mp ((h k).mpr (List.mem_cons_of_mem _ hk)) with z | z
      · have := b1 k hk
        omega
      · exact z
end
section
variable {X : Cx} {Z : Wo}
def tSortSet (K : PySem.W.Frag) (ta : TE) : TE := fun σ H Q => ta σ H fun x H1 => ∃ (l : Addr) (ns : List Int), x = .ref l ∧ SqL K H1 l (ns.map V.int) ∧ ns.length < 64 ∧ ∀ p, H1 p = none → Q (.ref p) (upd H1 p (.lst ((sortS ns).map V.int)))
theorem pe_sortSet {a : Expr} {ta : TE} {p p2 q pos : Pos} (hc : X.calm = true) (hg : Gl X "sorted") (hm : X.mg "sorted" = none) (hg2 : Gl X "set") (hm2 : X.mg "set" = none) (ha : PE X a ta) (na : starEach [a] X.env = (false, eval a X.env) :: starEach [] X.env) :
    PE X (.Call (.Name "sorted" p) [.Call (.Name "set" p2) [a] [] q] [] pos) (tSortSet X.K ta) := by
  refine ⟨fun pins s σ H Q I h => ?_⟩
  refine Call_ (ld_blt I hg hm (show bootBuiltins "sorted" = some (.builtin "sorted") by decide +kernel) (PyProof.Rows.callWith_builtin1 (PyProof.Rows.args_cons ?_ rfl) rfl rfl))
  refine Call_ (ld_blt I hg2 hm2 PyProof.Rows.boot_set (PyProof.Rows.callWith_type1 (PyProof.Rows.args_cons (thn (ha.run pins s σ H _ I h) fun v s1 ⟨x, H1, I1, r1, q1⟩ => PyProof.Rows.args_nil ?_) na) na rfl))
  obtain ⟨l, ns, rfl, hq, hl, q1⟩ := q1
  cases r1
  obtain ⟨its, r, pl, hz⟩ := I1.list hq
  refine set_of_list ns (I1.ok.hd hc) pl.isList (by simpa using RZ.intsAre_vals r) (by unfold scanBound; omega) fun h2 tk k hR hk kp => PyProof.Rows.args_nil ?_
  have I2 : Inv X pins σ H1 { s1 with heap := h2, toks := tk } := I1.kept kp
  refine sorted_set (s := { s1 with heap := h2, toks := tk }) hR (I2.ok.hd hc) (by omega) fun s3 b out c ms k3 g3 o3 hb hp hi hs hms hln => ?_
  have em : ms = sortS ns := up_one hs sortS_up fun j => by rw [hms j, sortS_mem, decide_eq_true_eq]
  subst em
  have hn : H1 b = none := I2.hok.fresh hb
  have hlen : ((sortS ns).map V.int).length ≤ sizeLine := by rw [List.length_map, hln, sizeLine_eq]; omega
  have J : Inv X pins σ (upd H1 b (.lst ((sortS ns).map V.int))) { ({ s1 with heap := h2, toks := tk } : Shared) with heap := s3.heap, gens := s3.gens, drawn := s3.drawn, toks := s3.toks } :=
    I2.call (ch := []) (Un.laid k3 hb hn) (I2.hok.laid k3 hb ⟨hlen, out.toList, c, vals_of_ints hi, hp⟩) (by rw [g3]; exact I2.bare) (fun _ z => nomatch z)
  have e : s3 = { ({ s1 with heap := h2, toks := tk } : Shared) with heap := s3.heap, gens := s3.gens, drawn := s3.drawn, toks := s3.toks } := by
    cases s3
    cases s1
    cases o3
    rfl
  rw [e]
  exact ⟨.ref b, _, J, rfl, q1 b hn⟩
end
end Ev
/-! Ev5: which text an expression is (the look), the context, small rules. -/
namespace Ev
open PySem PySem.Spec PyProof.Rows L2
/-! ### the look -/
/-- names of the law: its defs, its constants, its texts, its errors -/
structure Nm where
  fns : List Str
  cons : List Str
  txt : List Str
  exs : List Str
  ars : List Nat
  told : Option Str
  gd : Bool := false
deriving Inhabited
/-- where one stands: the slots' names, the scope -/
structure Cs where
  N : List Str
  sc : Scope
  lam : Bool
/-- the k-th name -/
def nth (l : List Str) (k : Nat) (x : Str) : Bool := match l[k]? with
  | some y => decide (y = x)
  | none => false
theorem nth_of {l : List Str} {k : Nat} {x : Str} (h : nth l k x = true) : l[k]? = some x := by
  unfold nth at h
  cases e : l[k]? with
  | none => rw [e] at h; cases h
  | some y =>
    rw [e] at h
    rw [of_decide_eq_true h]
def visB (c : Cs) (x : Str) : Bool := match c.sc.names.lookup x with
  | some .local => true
  | some .cell => true
  | some .free => true
  | _ => false
def locB (c : Cs) (x : Str) : Bool := match c.sc.names.lookup x with
  | some .local => true
  | some .cell => true
  | _ => false
def glB (c : Cs) (x : Str) : Bool := match c.sc.names.lookup x with
  | some .globalImplicit => true
  | _ => false
def odd (x : Str) : Bool := (x == ("__debug__" : Str)) || (x == ("__classdict__" : Str)) || (x == ("__name__" : Str))
/-- a name of the def's in slot i; a stored one; a global one -/
def varB (c : Cs) (i : Nat) (x : Str) : Bool := nth c.N i x && (visB c x && !odd x)
def stoB (c : Cs) (i : Nat) (x : Str) : Bool := nth c.N i x && (locB c x && !odd x)
def isStar : Expr → Bool
  | .Starred _ _ => true
  | _ => false
def isSlice : Expr → Bool
  | .Slice _ _ _ _ => true
  | _ => false
/-- it is asked for its truth as a value -/
def plainT : Expr → Bool
  | .UnaryOp .Not _ _ => false
  | .BoolOp _ _ _ => false
  | .IfExp _ _ _ _ => false
  | .Compare _ _ _ _ => false
  | _ => true
def copOf : Cop → CmpOp
  | .eq => .Eq | .ne => .NotEq | .lt => .Lt | .le => .LtE | .gt => .Gt | .ge => .GtE | .isin => .In | .notin => .NotIn | .is_ => .Is | .isnot => .IsNot
def bltS : Blt → Str
  | .len => "len" | .abs => "abs" | .int => "int" | .tuple => "tuple" | .list => "list" | .sum => "sum" | .max => "max" | .min => "min" | .max2 => "max" | .min2 => "min" | .min3 => "min"
  | .all => "all" | .any => "any" | .sorted => "sorted" | .sortedSet => "set" | .dict => "dict"
def tyS : Ty → Str
  | .int => "int" | .bool => "bool" | .str => "str" | .tuple => "tuple" | .list => "list"
def isIte : E → Bool
  | .ite _ _ _ => true
  | _ => false
/-! ### the context -/
structure Gw where
  Z : Wo
  P : Program
  w : World
  mg : Str → Option Value
  base : Heap
  T : Top
  C : Calls
  nm : Nm
  ar : Nat → Nat
/-- what a def of level k promises -/
def spF (Y : Gw) (k f : Nat) : Sp := fun vs H Q E => ∃ (F : Fz) (args : Ev), vs.length = Y.ar f ∧ args.length = vs.length ∧ (∀ i : Nat, args[i]? ≠ some none) ∧ (∀ (j : Nat) (w : W), args[j]? = some (some w) → isOwn w = true → isP w = true) ∧ Sta Y.Z F H (vs.map some) args ∧
  PostG Y.Z E (relE Y.Z) (vs.map some) F H args (Y.C k f args) Q
/-- the built-ins that are used -/
def bltN : List Str := ["repr", "len", "abs", "int", "tuple", "list", "sum", "max", "min", "all", "any", "sorted", "set", "dict", "isinstance", "bool", "str", "range", "enumerate", "zip"]
structure Gok (Y : Gw) : Prop where
  st : StOk Y.Z
  sts : Y.Z.ST = Y.nm.txt
  blt : ∀ x ∈ bltN, Y.mg x = none
  con : ∀ (k : Nat) (x : Str), Y.nm.cons[k]? = some x → ∃ (d : D) (v : V) (u : Value), Y.T.con[k]? = some d ∧ Y.mg x = some u ∧ RelV v u ∧ ∀ F H, Rp Y.Z F H d v
/-- a def's promise; with g it is given only where nothing is being shown (the list of what is under way is known to be empty) -/
structure FnU (g : Bool) (P : Program) (w : World) (K : PySem.W.Frag) (mg : Str → Option Value) (base : Heap) (CX : CXT) (k : Nat) (f : Addr) (fd : FuncData) (ps : List Str) (sp : Sp) : Prop where
  len : ∀ vs H Q E, sp vs H Q E → vs.length = ps.length
  run : ∀ (A : Around) (outer : List Env) (s : Shared) (H : Hp) (args : Args) (us : List Value) (vs : List V) (Q : VK) (E : XK), (g = true → A.guards = some []) → Room k A → Env0 P w K mg base A outer s H → BindsTo s fd args (ps.zip us) → Vals vs us → sp vs H Q E →
    codeAny (model P w) A (.call (.ref f) args) (CR CX outer P w H s Q E) s
theorem FnU.imp {g : Bool} {P : Program} {w : World} {K : PySem.W.Frag} {mg : Str → Option Value} {base : Heap} {CX : CXT} {k : Nat} {f : Addr} {fd : FuncData} {ps : List Str} {sp sp' : Sp} (F : FnU g P w K mg base CX k f fd ps sp) (h : ∀ vs H Q E, sp' vs H Q E → sp vs H Q E) : FnU g P w K mg base CX k f fd ps sp' :=
  ⟨fun vs H Q E q => F.len vs H Q E (h _ _ _ _ q), fun A outer s H args us vs Q E hg hr he hb hv hs => F.run A outer s H args us vs Q E hg hr he hb hv (h _ _ _ _ hs)⟩
theorem FnU.ok {g : Bool} {P : Program} {w : World} {K : PySem.W.Frag} {mg : Str → Option Value} {base : Heap} {CX : CXT} {k : Nat} {f : Addr} {fd : FuncData} {ps : List Str} {sp : Sp} (F : FnU g P w K mg base CX k f fd ps sp) (hg : g = false) : FnOk P w K mg base CX k f fd ps sp :=
  ⟨F.len, fun A outer s H args us vs Q E => F.run A outer s H args us vs Q E fun z => by rw [hg] at z; cases z⟩
structure Fok (Y : Gw) (n : Nat) : Prop where
  fn : ∀ (f : Nat) (x : Str), Y.nm.fns[f]? = some x → ∃ (a : Addr) (fd : FuncData) (ps : List Str), Y.mg x = some (.ref a) ∧ PySem.W.keepIn Y.Z.K (.ref a) = true ∧ L2.Binds Y.Z.K fd ps [] ∧
    ∀ k, k ≤ n → FnU Y.nm.gd Y.P Y.w Y.Z.K Y.mg Y.base (L2.CX Y.P Y.w) k a fd ps (spF Y k f)
structure Good (Y : Gw) (n : Nat) (c : Cs) (E : XK) (X : Cx) : Prop where
  prog : X.prog = Y.P
  w : X.w = Y.w
  K : X.K = Y.Z.K
  mg : X.mg = Y.mg
  base : X.base = Y.base
  N : X.N = c.N
  nd : c.N.Nodup
  vis : ∀ x, visB c x = true → Vis X.env.scope x
  loc : ∀ x, locB c x = true → Loc X.env.scope x ∧ (X.fn x = true ∨ X.env.scope.names.lookup x = some .local)
  gl : ∀ x, glB c x = true → Gl X x
  calm : X.calm = true
  room : Room n X.A
  pass : Passes (L2.CX X.prog X.w) X E
  gd : Y.nm.gd = true → X.A.guards = some []
section
variable {Y : Gw} {n : Nat} {c : Cs} {E : XK} {X : Cx}
theorem odd_no {x : Str} (h : odd x = false) : (x == ("__debug__" : Str)) = false ∧ (x == ("__classdict__" : Str)) = false ∧ x ≠ "__name__" := by
  unfold odd at h
  simp only [Bool.or_eq_false_iff] at h
  exact ⟨h.1.1, h.1.2, fun e => by simp [e] at h⟩
theorem Good.hu (g : Good Y n c E X) : X.A.units + 65 < cLine := by
  have := g.room.un
  omega
/-! ### small rules -/
theorem peImp {e : Expr} {t t' : TE} (h : PE X e t) (i : ∀ σ H Q, t' σ H Q → t σ H Q) : PE X e t' := ⟨fun pins s σ H Q I q => h.run pins s σ H Q I (i σ H Q q)⟩
theorem ptImp {e : Expr} {t t' : TT} (h : PT X e t) (i : ∀ σ H Q, t' σ H Q → t σ H Q) : PT X e t' := ⟨fun pins s σ H Q I q => h.run pins s σ H Q I (i σ H Q q)⟩
theorem paImp {es : List Expr} {t t' : TA} (h : PA X es t) (i : ∀ σ H Q, t' σ H Q → t σ H Q) : PA X es t' := ⟨fun pos pins s σ H Q I q => h.run pos pins s σ H Q I (i σ H Q q)⟩
theorem star_cons {e : Expr} {es : List Expr} {env : Env} (h : isStar e = false) : starEach (e :: es) env = (false, eval e env) :: starEach es env := by
  cases e <;> first | rfl | (cases h)
theorem plain_ix {e : Expr} (h : isSlice e = false) : PlainIx e := by
  intro o i
  cases e <;> first | rfl | (cases h)
theorem plain_true {e : Expr} {env : Env} (h : plainT e = true) : ∀ whole, isTrue e env whole = (do let v ← whole; standAt e.pos; holding [v] (truthy v)) := by
  intro whole
  cases e with
  | UnaryOp op x p => cases op <;> first | rfl | (cases h)
  | BoolOp _ _ _ => cases h
  | IfExp _ _ _ _ => cases h
  | Compare _ _ _ _ => cases h
  | _ => rfl
theorem star_none {es : List Expr} {env : Env} {pos : Pos} (h : es.all (fun e => !isStar e) = true) : (backTo pos (starEach es env)).any (·.1) = false := by
  induction es with
  | nil => rfl
  | cons e es ih =>
    simp only [List.all_cons, Bool.and_eq_true, Bool.not_eq_true'] at h
    rw [star_cons h.1]
    show (false || (backTo pos (starEach es env)).any (·.1)) = false
    rw [ih (by simpa using h.2)] <;> rfl
variable {σ : L2.St} {H : Hp} {α β γ δ : Type}
/-- one part, two parts -/
theorem one {Z : Wo} {rel : Rel γ δ} {f : Ev → R O} {k : O → Ev → R γ} {Q : δ → Hp → Prop} {Q2 : VK} (h : LG Z E rel (fun ρ => (f ρ).bind k) σ H Q)
    (i : ∀ a ρ1 x F1 H1 F0 H0 ρ0, Path Z σ F0 H0 ρ0 σ F1 H1 ρ1 → Out Z F1 H1 σ ρ1 a x → Frs H0 a x → PostG Z E rel σ F0 H0 ρ0 (k a ρ1) Q → Q2 x H1) : LE Z E f σ H Q2 := by
  obtain ⟨F0, H0, ρ0, F, ρ, p, post⟩ := h
  exact run p post fun a ρ1 x F1 H1 p1 p0 r q => i a ρ1 x F1 H1 F0 H0 ρ0 p0 r.1 (r.2.back p) q
theorem two {Z : Wo} {rel : Rel γ δ} {f : Ev → R O} {g : Ev → R O} {k : O → O → Ev → R γ} {Q : δ → Hp → Prop} {Q2 : V → V → Hp → Prop} (h : LG Z E rel (fun ρ => (f ρ).bind fun a ρ1 => (g ρ1).bind (k a)) σ H Q)
    (i : ∀ a b ρ2 x y F2 H2 F0 H0 ρ0, Path Z σ F0 H0 ρ0 σ F2 H2 ρ2 → Out Z F2 H2 σ ρ2 a x → Out Z F2 H2 σ ρ2 b y → PostG Z E rel σ F0 H0 ρ0 (k a b ρ2) Q → Q2 x y H2) :
    LE Z E f σ H fun x H1 => LE Z E g σ H1 fun y H2 => Q2 x y H2 := by
  refine one h fun a ρ1 x F1 H1 F0 H0 ρ0 p o fr post => ?_
  exact run p post fun b ρ2 y F2 H2 p12 p02 r q => i a b ρ2 x y F2 H2 F0 H0 ρ0 p02 (o.step p.st p12 fun _ _ z => z) r.1 q
/-- a value that is there -/
theorem here_d {Z : Wo} {F0 F1 : Fz} {H0 H1 : Hp} {ρ0 ρ1 : Ev} {x : D} {v : V} {Q : VK} (p : Path Z σ F0 H0 ρ0 σ F1 H1 ρ1) (post : PostG Z E (relE Z) σ F0 H0 ρ0 (.ok (.d x) ρ1) Q) (r : Rp Z F1 H1 x v) : Q v H1 :=
  fin_new p post (.here r)
theorem snd_const {Z : Wo} {e : Expr} {d : D} {v : V} (h : PE X e (tC v)) (r : ∀ F H, Rp Z F H d v) : PE X e (LE Z E fun ρ => .ok (.d d) ρ) :=
  peImp h fun σ H Q ⟨F0, H0, ρ0, F, ρ, p, post⟩ => here_d p post (r F H)
theorem snd_var {Z : Wo} {e : Expr} {i : Nat} (h : PE X e (tVar i)) : PE X e (LE Z E (varS i)) := by
  refine peImp h fun σ H Q ⟨F0, H0, ρ0, F, ρ, p, post⟩ => ?_
  unfold varS at post
  split at post
  · rename_i x ex
    obtain ⟨v, e1, r⟩ := p.st.rep i _ ex
    exact ⟨v, e1, here_d p post r⟩
  · exact post.elim
  · rename_i kvs ex
    obtain ⟨v, e1, r⟩ := p.st.rep i _ ex
    exact ⟨v, e1, post v F H p ⟨r, fun z => by cases z⟩⟩
  · rename_i w nx ny ex
    obtain ⟨v, e1, r⟩ := p.st.rep i _ ex
    exact ⟨v, e1, post v F H p ⟨e1, fun z => by cases z⟩⟩
  · exact post.elim
theorem snd_bin {Z : Wo} {a b : Expr} {op : Operator} {h : O → O → Option O} {f g : Ev → R O} {pos : Pos} (ha : PE X a (LE Z E f)) (hb : PE X b (LE Z E g)) (ho : OpR X (binaryOp op) (rN Z h)) :
    PE X (.BinOp a op b pos) (LE Z E fun ρ => (f ρ).bind fun x ρ1 => (g ρ1).bind fun y ρ2 => oko (h (rs ρ2 x) (rs ρ2 y)) ρ2) := by
  refine peImp (pe_op ho ha hb) fun σ H Q q => two q fun a b ρ2 x y F2 H2 F0 H0 ρ0 p oa ob post => ?_
  unfold oko at post
  cases e : h (rs ρ2 a) (rs ρ2 b) with
  | none => rw [e] at post; exact post.elim
  | some o =>
    rw [e] at post
    exact ⟨F2, _, _, o, oa.rv p.st, ob.rv p.st, e, fun v H' nw => fin_new p post nw⟩
theorem snd_cmp {Z : Wo} {a b : Expr} {op : CmpOp} {h : O → O → Option Bool} {f g : Ev → R O} {pos : Pos} (ha : PE X a (LE Z E f)) (hb : PE X b (LE Z E g)) (ho : OpR X (compareOp op) (rNb Z h)) (hm : behindInMarks op b = false) :
    PE X (.Compare a [op] [b] pos) (LE Z E fun ρ => (f ρ).bind fun x ρ1 => (g ρ1).bind fun y ρ2 => okb (h (rs ρ2 x) (rs ρ2 y)) ρ2) := by
  refine peImp (pe_cmpR ho ha hb hm) fun σ H Q q => two q fun a b ρ2 x y F2 H2 F0 H0 ρ0 p oa ob post => ?_
  unfold okb at post
  cases e : h (rs ρ2 a) (rs ρ2 b) with
  | none => rw [e] at post; exact post.elim
  | some o =>
    rw [e] at post
    exact ⟨F2, _, _, o, oa.rv p.st, ob.rv p.st, e, fin_new p post (new_bl o)⟩
/-- a test's end -/
theorem fin_t {Z : Wo} {F0 F1 : Fz} {H0 H1 : Hp} {ρ0 ρ1 : Ev} {b : Bool} {Q : Bool → Hp → Prop} (p : Path Z σ F0 H0 ρ0 σ F1 H1 ρ1) (post : PostG Z E relT σ F0 H0 ρ0 (.ok b ρ1) Q) : Q b H1 := post b F1 H1 p rfl
theorem asT_bl {b : Bool} {ρ : Ev} : asT (.ok (.d (.bl b)) ρ) = .ok b ρ := rfl
theorem bind_assoc {r : R α} {f : α → Ev → R β} {g : β → Ev → R γ} : (r.bind f).bind g = r.bind fun a ρ => (f a ρ).bind g := by cases r <;> rfl
theorem asT_bind {r : R α} {f : α → Ev → R O} : asT (r.bind f) = r.bind fun a ρ => asT (f a ρ) := bind_assoc
theorem snd_cmpT {Z : Wo} {a b : Expr} {op : CmpOp} {h : O → O → Option Bool} {f g : Ev → R O} {pos : Pos} (ha : PE X a (LE Z E f)) (hb : PE X b (LE Z E g)) (ho : OpR X (compareOp op) (rNb Z h)) (hm : behindInMarks op b = false) :
    PT X (.Compare a [op] [b] pos) (LT Z E fun ρ => asT ((f ρ).bind fun x ρ1 => (g ρ1).bind fun y ρ2 => okb (h (rs ρ2 x) (rs ρ2 y)) ρ2)) := by
  refine ptImp (pt_cmpR ho ha hb hm) fun σ H Q q => ?_
  simp only [asT_bind] at q
  refine two q fun a b ρ2 x y F2 H2 F0 H0 ρ0 p oa ob post => ?_
  unfold okb at post
  cases e : h (rs ρ2 a) (rs ρ2 b) with
  | none => rw [e] at post; exact post.elim
  | some o =>
    rw [e] at post
    exact ⟨F2, _, _, o, oa.rv p.st, ob.rv p.st, e, o, rfl, fin_t p post⟩
/-- an expression whose truth is asked -/
theorem snd_truth {Z : Wo} {e : Expr} {f : Ev → R O} (hK : X.K = Z.K) (h : PE X e (LE Z E f)) (hp : plainT e = true) : PT X e (LT Z E fun ρ => asT (f ρ)) := by
  refine ptImp (pt_truth h (plain_true hp)) fun σ H Q q => one q fun a ρ1 x F1 H1 F0 H0 ρ0 p o fr post => ?_
  cases e : truth (rs ρ1 a) with
  | none => rw [e] at post; exact post.elim
  | some b =>
    rw [e] at post
    exact ⟨b, by rw [hK]; exact tru_O (o.rv p.st) e, fin_t p post⟩
theorem snd_not {Z : Wo} {a : Expr} {f : Ev → R O} {pos : Pos} (h : PT X a (LT Z E fun ρ => asT (f ρ))) : PT X (.UnaryOp .Not a pos) (LT Z E fun ρ => asT ((asT (f ρ)).bind fun b ρ1 => .ok (.d (.bl (!b))) ρ1)) := by
  refine ptImp (pt_not h) fun σ H Q ⟨F0, H0, ρ0, F, ρ, p, post⟩ => ?_
  simp only [asT_bind, asT_bl] at post
  exact run p post fun b ρ1 b' F1 H1 _ p1 r q => by
    obtain rfl : b' = b := r
    exact fin_t p1 q
/-- not, as a value -/
theorem snd_notV {Z : Wo} {a : Expr} {pos : Pos} {f : Ev → R O} (hK : X.K = Z.K) (h : PE X a (LE Z E f)) : PE X (.UnaryOp .Not a pos) (LE Z E fun ρ => (asT (f ρ)).bind fun b ρ1 => .ok (.d (.bl (!b))) ρ1) := by
  refine peImp (pe_notT h) fun σ H Q q => ?_
  unfold asT at q
  simp only [bind_assoc] at q
  refine one q fun a ρ1 x F1 H1 F0 H0 ρ0 p o fr post => ?_
  cases e : truth (rs ρ1 a) with
  | none => rw [e] at post; exact post.elim
  | some b =>
    rw [e] at post
    exact ⟨b, by rw [hK]; exact tru_O (o.rv p.st) e, fin_new p post (new_bl _)⟩
end
end Ev
/-! Ev6: rules for expressions: and, or, chains, displays, subscripts, slices, calls of built-ins, methods. -/
namespace Ev
open PySem PySem.Spec PyProof.Rows L2
section
variable {n : Nat} {E : XK} {X : Cx} {Z : Wo} {σ : L2.St} {H : Hp} {α β γ δ : Type}
/-! ### and, or -/
theorem snd_ao1 {op : PySem.BoolOp} {a : Expr} {pos : Pos} {f : Ev → R O} (h : PE X a (LE Z E f)) : PE X (.BoolOp op [a] pos) (LE Z E f) := pe_one h
theorem onB_ok {stop : Bool} {r : R O} {f : Ev → R O} : onB stop r f = r.bind fun o ρ1 => match o with
    | .d (.bl b) => if b = stop then .ok (.d (.bl b)) ρ1 else f ρ1
    | _ => .stuck := rfl
theorem snd_and {a b : Expr} {rest : List Expr} {pos : Pos} {f g : Ev → R O} (ha : PE X a (LE Z E f)) (hb : PE X (.BoolOp .And (b :: rest) pos) (LE Z E g)) :
    PE X (.BoolOp .And (a :: b :: rest) pos) (LE Z E fun ρ => onB false (f ρ) g) := by
  refine peImp (pe_and ha hb) fun σ H Q q => one q fun o ρ1 x F1 H1 F0 H0 ρ0 p oa fr post => ?_
  split at post
  · rename_i b
    refine ⟨b, Rp.inv_bl oa.dp, ?_⟩
    cases b with
    | true => exact ⟨F0, H0, ρ0, F1, ρ1, p, post⟩
    | false => exact fin_new p post (new_bl _)
  · exact post.elim
theorem snd_or {a b : Expr} {rest : List Expr} {pos : Pos} {f g : Ev → R O} (ha : PE X a (LE Z E f)) (hb : PE X (.BoolOp .Or (b :: rest) pos) (LE Z E g)) :
    PE X (.BoolOp .Or (a :: b :: rest) pos) (LE Z E fun ρ => onB true (f ρ) g) := by
  refine peImp (pe_or ha hb) fun σ H Q q => one q fun o ρ1 x F1 H1 F0 H0 ρ0 p oa fr post => ?_
  split at post
  · rename_i b
    refine ⟨b, Rp.inv_bl oa.dp, ?_⟩
    cases b with
    | false => exact ⟨F0, H0, ρ0, F1, ρ1, p, post⟩
    | true => exact fin_new p post (new_bl _)
  · exact post.elim
theorem asT_onB {stop : Bool} {r : R O} {g : Ev → R O} {Q : Bool → Hp → Prop} {F0 : Fz} {H0 : Hp} {ρ0 : Ev} (post : PostG Z E relT σ F0 H0 ρ0 (asT (onB stop r g)) Q) :
    PostG Z E relT σ F0 H0 ρ0 ((asT r).bind fun b ρ1 => if b = stop then .ok b ρ1 else asT (g ρ1)) Q := by
  unfold onB at post
  cases r with
  | ok o ρ1 =>
    simp only [R.bind_ok] at post ⊢
    split at post
    · rename_i b
      rw [asT_bl]
      by_cases e : b = stop
      · rw [if_pos e] at post
        simp only [R.bind_ok]
        rw [if_pos e]
        exact post
      · rw [if_neg e] at post
        simp only [R.bind_ok]
        rw [if_neg e]
        exact post
    · exact post.elim
  | exc c ρ1 => exact post
  | stuck => exact post.elim
theorem snd_andT {a b : Expr} {rest : List Expr} {pos : Pos} {f g : Ev → R O} (ha : PT X a (LT Z E fun ρ => asT (f ρ))) (hb : PW X (.BoolOp .And (b :: rest) pos) (LT Z E fun ρ => asT (g ρ))) :
    PW X (.BoolOp .And (a :: b :: rest) pos) (LT Z E fun ρ => asT (onB false (f ρ) g)) := by
  refine ⟨fun wh pins s σ H Q I q => (pw_and ha hb).run wh pins s σ H Q I ?_⟩
  obtain ⟨F0, H0, ρ0, F, ρ, p, post⟩ := q
  refine run p (asT_onB post) fun c ρ1 c' F1 H1 _ p1 r post => ?_
  obtain rfl : c' = c := r
  cases c' with
  | true =>
    rw [if_pos rfl]
    exact ⟨F0, H0, ρ0, F1, ρ1, p1, post⟩
  | false => exact fin_t p1 post
theorem snd_orT {a b : Expr} {rest : List Expr} {pos : Pos} {f g : Ev → R O} (ha : PT X a (LT Z E fun ρ => asT (f ρ))) (hb : PW X (.BoolOp .Or (b :: rest) pos) (LT Z E fun ρ => asT (g ρ))) :
    PW X (.BoolOp .Or (a :: b :: rest) pos) (LT Z E fun ρ => asT (onB true (f ρ) g)) := by
  refine ⟨fun wh pins s σ H Q I q => (pw_or ha hb).run wh pins s σ H Q I ?_⟩
  obtain ⟨F0, H0, ρ0, F, ρ, p, post⟩ := q
  refine run p (asT_onB post) fun c ρ1 c' F1 H1 _ p1 r post => ?_
  obtain rfl : c' = c := r
  cases c' with
  | false =>
    rw [if_neg Bool.false_ne_true]
    exact ⟨F0, H0, ρ0, F1, ρ1, p1, post⟩
  | true => exact fin_t p1 post
/-! ### chains -/
abbrev chainR (h h' : O → O → Option Bool) (f g k : Ev → R O) (ρ : Ev) : R O := (f ρ).bind fun x ρ1 => (g ρ1).bind fun y ρ2 => R.opt (h (rs ρ2 x) (rs ρ2 y)) fun c =>
  if c = true then (k ρ2).bind fun z ρ3 => okb (h' (rs ρ3 y) (rs ρ3 z)) ρ3 else .ok (.d (.bl false)) ρ2
theorem snd_chain {a b c : Expr} {op op' : CmpOp} {h h' : O → O → Option Bool} {f g k : Ev → R O} {pos : Pos} (ho : OpR X (compareOp op) (rNb Z h)) (ho' : OpR X (compareOp op') (rNb Z h')) (ha : PE X a (LE Z E f)) (hb : PE X b (LE Z E g)) (hc : PE X c (LE Z E k))
    (hm : behindInMarks op b = false) (hm' : behindInMarks op' c = false) :
    PE X (.Compare a [op, op'] [b, c] pos) (LE Z E (chainR h h' f g k)) := by
  refine peImp (pe_chain ho ho' ha hb hc (by exact hm')) fun σ H Q q => two q fun a b ρ2 x y F2 H2 F0 H0 ρ0 p oa ob post => ?_
  cases e : h (rs ρ2 a) (rs ρ2 b) with
  | none => rw [e] at post; exact post.elim
  | some o =>
    rw [e] at post
    refine ⟨F2, _, _, o, oa.rv p.st, ob.rv p.st, e, o, rfl, ?_⟩
    cases o with
    | true =>
      rw [if_pos rfl]
      refine run p post fun z ρ3 w F3 H3 p23 p03 r post => ?_
      unfold okb at post
      cases e : h' (rs ρ3 b) (rs ρ3 z) with
      | none => rw [e] at post; exact post.elim
      | some o =>
        rw [e] at post
        exact ⟨F3, _, _, o, (ob.step p.st p23 fun _ _ z => z).rv p03.st, r.1.rv p03.st, e, fin_new p03 post (new_bl o)⟩
    | false => exact iteF (fin_new p post (new_bl false))
theorem snd_chainT {a b c : Expr} {op op' : CmpOp} {h h' : O → O → Option Bool} {f g k : Ev → R O} {pos : Pos} (ho : OpR X (compareOp op) (rNb Z h)) (ho' : OpR X (compareOp op') (rNb Z h')) (ha : PE X a (LE Z E f)) (hb : PE X b (LE Z E g)) (hc : PE X c (LE Z E k))
    (hm : behindInMarks op b = false) (hm' : behindInMarks op' c = false) :
    PT X (.Compare a [op, op'] [b, c] pos) (LT Z E fun ρ => asT (chainR h h' f g k ρ)) := by
  refine ptImp (pt_chain ho ho' ha hb hc (by exact hm')) fun σ H Q q => ?_
  unfold chainR at q
  simp only [asT_bind] at q
  refine two q fun a b ρ2 x y F2 H2 F0 H0 ρ0 p oa ob post => ?_
  cases e : h (rs ρ2 a) (rs ρ2 b) with
  | none => rw [e] at post; exact post.elim
  | some o =>
    rw [e] at post
    refine ⟨F2, _, _, o, oa.rv p.st, ob.rv p.st, e, o, rfl, ?_⟩
    cases o with
    | true =>
      rw [if_pos rfl]
      simp only [R.opt_some, if_pos, asT_bind] at post
      refine run p post fun z ρ3 w F3 H3 p23 p03 r post => ?_
      unfold okb at post
      cases e : h' (rs ρ3 b) (rs ρ3 z) with
      | none => rw [e] at post; exact post.elim
      | some o =>
        rw [e] at post
        exact ⟨F3, _, _, o, (ob.step p.st p23 fun _ _ z => z).rv p03.st, r.1.rv p03.st, e, o, rfl, fin_t p03 post⟩
    | false => exact iteF ⟨false, rfl, fin_t p post⟩
/-! ### a if t else b -/
theorem snd_ite {c a b : Expr} {pos : Pos} {fc fa fb : Ev → R O} (hc : PT X c (LT Z E fun ρ => asT (fc ρ))) (ha : PE X a (LE Z E fa)) (hb : PE X b (LE Z E fb)) : PE X (.IfExp c a b pos) (LE Z E fun ρ => ifB (asT (fc ρ)) fa fb) := by
  refine peImp (pe_ifExp hc ha hb) fun σ H Q ⟨F0, H0, ρ0, F, ρ, p, post⟩ => ?_
  refine run p post fun k ρ1 k' F1 H1 _ p1 r post => ?_
  obtain rfl : k' = k := r
  cases k' with
  | true =>
    rw [if_pos rfl]
    exact ⟨F0, H0, ρ0, F1, ρ1, p1, post⟩
  | false =>
    rw [if_neg Bool.false_ne_true]
    exact ⟨F0, H0, ρ0, F1, ρ1, p1, post⟩
/-! ### lists of expressions -/
theorem snd_nil : PA X [] (LA Z E fun ρ => .ok [] ρ) := paImp pa_nil fun σ H Q ⟨F0, H0, ρ0, F, ρ, p, post⟩ => post [] F H p rfl
theorem snd_cons {e : Expr} {es : List Expr} {f : Ev → R O} {g : Ev → R (List O)} (h : PE X e (LE Z E f)) (t : PA X es (LA Z E g)) (hs : isStar e = false) :
    PA X (e :: es) (LA Z E fun ρ => (f ρ).bind fun o ρ1 => (g ρ1).bind fun os ρ2 => .ok (o :: os) ρ2) := by
  refine paImp (pa_cons h t (star_cons hs)) fun σ H Q ⟨F0, H0, ρ0, F, ρ, p, post⟩ => ?_
  refine run p post fun o ρ1 v F1 H1 p1 p01 r post => ?_
  refine run p01 post fun os ρ2 vs F2 H2 p12 p02 r2 post => ?_
  have o2 : Out Z F2 H2 σ ρ2 o v := r.1.step p01.st p12 fun _ _ z => z
  exact post (v :: vs) F2 H2 p02 ⟨v, vs, rfl, o2, r.2.back p, fun n a ea => Apart.of_new (new_there r.1 n ea) r2, OutL.back p01 r2⟩
theorem OutL.rvl {F : Fz} {ρ : Ev} {H0 : Hp} (s : Sta Z F H σ ρ) : ∀ {os : List O} {vs : List V}, OutL Z H0 F H σ ρ os vs → RvL Z F H (os.map (rs ρ)) vs
  | [], _, h => h
  | o :: os, _, h => by
    obtain ⟨v, r, rfl, h1, _, _, t⟩ := h
    exact ⟨v, r, rfl, h1.rv s, OutL.rvl s t⟩
/-- all parts -/
theorem many {rel : Rel γ δ} {f : Ev → R (List O)} {k : List O → Ev → R γ} {Q : δ → Hp → Prop} {Q2 : List V → Hp → Prop} (h : LG Z E rel (fun ρ => (f ρ).bind k) σ H Q)
    (i : ∀ os ρ1 vs F1 H1 F0 H0 ρ0, Path Z σ F0 H0 ρ0 σ F1 H1 ρ1 → OutL Z H0 F1 H1 σ ρ1 os vs → PostG Z E rel σ F0 H0 ρ0 (k os ρ1) Q → Q2 vs H1) : LA Z E f σ H Q2 := by
  obtain ⟨F0, H0, ρ0, F, ρ, p, post⟩ := h
  exact run p post fun os ρ1 vs F1 H1 p1 p0 r q => i os ρ1 vs F1 H1 F0 H0 ρ0 p0 (OutL.back p r) q
theorem keeps_len : ∀ {os : List O} {ρ ρ2 : Ev} {xs : List D}, keeps ρ os = some (xs, ρ2) → xs.length = os.length
  | [], ρ, ρ2, xs, h => by
    simp only [keeps, Option.some.injEq, Prod.mk.injEq] at h
    rw [← h.1]; rfl
  | o :: os, ρ, ρ2, xs, h => by
    simp only [keeps] at h
    split at h
    · cases h
    · split at h
      · cases h
      · rename_i e
        simp only [Option.some.injEq, Prod.mk.injEq] at h
        rw [← h.1, List.length_cons, List.length_cons, keeps_len e]
theorem snd_tup {es : List Expr} {f : Ev → R (List O)} {k : Nat} {pos : Pos} (h : PA X es (LA Z E f)) (hl : ∀ ρ os ρ1, f ρ = .ok os ρ1 → os.length ≤ 1000) :
    PE X (.Tuple es k pos) (LE Z E fun ρ => (f ρ).bind fun os ρ1 => R.opt (keeps ρ1 os) fun p => .ok (.d (.tup p.1)) p.2) := by
  refine peImp (pe_tup h) fun σ H Q ⟨F0, H0, ρ0, F, ρ, p, post⟩ => ?_
  refine runE p post fun os ρ1 vs F1 H1 ef p1 p01 r post => ?_
  have hz := hl ρ os ρ1 ef
  have hlen := OutL.len r
  cases ek : keeps ρ1 os with
  | none => rw [ek] at post; exact post.elim
  | some q =>
    obtain ⟨xs, ρ2⟩ := q
    rw [ek] at post
    obtain ⟨F2, p2, rp, _⟩ := keeps_ok p01 (OutL.back p r) ek
    exact ⟨by rw [← hlen, sizeLine_eq]; omega, fun a ha => fin_new p2 post (new_tup ha rp)⟩
theorem snd_lst {es : List Expr} {f : Ev → R (List O)} {pos : Pos} (h : PA X es (LA Z E f)) (hl : ∀ ρ os ρ1, f ρ = .ok os ρ1 → os.length ≤ 1000) :
    PE X (.List es pos) (LE Z E fun ρ => (f ρ).bind fun os ρ1 => R.opt (keeps ρ1 os) fun p => .ok (.L p.1) p.2) := by
  refine peImp (pe_lst h) fun σ H Q ⟨F0, H0, ρ0, F, ρ, p, post⟩ => ?_
  refine runE p post fun os ρ1 vs F1 H1 ef p1 p01 r post => ?_
  have hz := hl ρ os ρ1 ef
  have hlen := OutL.len r
  cases ek : keeps ρ1 os with
  | none => rw [ek] at post; exact post.elim
  | some q =>
    obtain ⟨xs, ρ2⟩ := q
    rw [ek] at post
    obtain ⟨F2, p2, rp, _⟩ := keeps_ok p01 (OutL.back p r) ek
    exact ⟨by rw [← hlen, sizeLine_eq]; omega, fun a ha => fin_new p2 post (new_lst ha rp)⟩
theorem evL_len {T : Top} {C : Calls} : ∀ {es : List Ev.E} {n : Nat} {ρ ρ1 : Ev} {os : List O}, evL T C es n ρ = .ok os ρ1 → os.length = es.length
  | [], n, ρ, ρ1, os, h => by
    simp only [evL, R.ok.injEq] at h
    rw [← h.1]; rfl
  | e :: es, n, ρ, ρ1, os, h => by
    simp only [evL] at h
    cases h1 : evE T C e n ρ with
    | ok o ρ2 =>
      rw [h1] at h
      simp only [R.bind_ok] at h
      cases h2 : evL T C es n ρ2 with
      | ok os' ρ3 =>
        rw [h2] at h
        simp only [R.bind_ok, R.ok.injEq] at h
        rw [← h.1, List.length_cons, List.length_cons, evL_len h2]
      | exc c ρ3 => rw [h2] at h; cases h
      | stuck => rw [h2] at h; cases h
    | exc c ρ2 => rw [h1] at h; cases h
    | stuck => rw [h1] at h; cases h
/-! ### subscripts, slices -/
theorem snd_ix {a b : Expr} {h : O → O → Option D} {f g : Ev → R O} {pos : Pos} (ha : PE X a (LE Z E f)) (hb : PE X b (LE Z E g)) (ho : IxR X (rIxO Z h)) (hs : isSlice b = false) :
    PE X (.Subscript a b pos) (LE Z E fun ρ => (f ρ).bind fun x ρ1 => (g ρ1).bind fun y ρ2 => okd (h (rs ρ2 x) (rs ρ2 y)) ρ2) := by
  refine peImp (pe_ix ho ha hb (plain_ix hs)) fun σ H Q q => two q fun a b ρ2 x y F2 H2 F0 H0 ρ0 p oa ob post => ?_
  unfold okd at post
  cases e : h (rs ρ2 a) (rs ρ2 b) with
  | none => rw [e] at post; exact post.elim
  | some o =>
    rw [e] at post
    exact ⟨F2, _, _, o, oa.rv p.st, ob.rv p.st, e, fun v r => here_d p post r⟩
def relI : Rel (Option Int) (Option Int) := fun _ _ _ _ _ a b => b = a
/-- a slice's bound -/
theorem snd_some {e : Expr} {f : Ev → R O} (h : PE X e (LE Z E f)) : PO X (some e) (fun σ H Q => LG Z E relI (fun ρ => asI (f ρ)) σ H Q) := by
  refine ⟨fun pins s σ H Q I q => (po_some h).run pins s σ H Q I ?_⟩
  refine one q fun a ρ1 x F1 H1 F0 H0 ρ0 p o fr post => ?_
  unfold optInt at post
  split at post
  · exact ⟨_, Rp.inv_int o.dp, post _ F1 H1 p rfl⟩
  · exact post.elim
theorem snd_absent : PO X none (fun σ H Q => LG Z E relI (fun ρ => .ok none ρ) σ H Q) :=
  ⟨fun pins s σ H Q I ⟨F0, H0, ρ0, F, ρ, p, post⟩ => po_none.run pins s σ H Q I (post none F H p rfl)⟩
theorem snd_slice {a : Expr} {lo hi : Option Expr} {f : Ev → R O} {fl fh : Ev → R (Option Int)} {p2 pos : Pos} (hK : X.K = Z.K) (ha : PE X a (LE Z E f)) (hl : PO X lo (fun σ H Q => LG Z E relI fl σ H Q)) (hh : PO X hi (fun σ H Q => LG Z E relI fh σ H Q)) :
    PE X (.Subscript a (.Slice lo hi none p2) pos) (LE Z E fun ρ => (f ρ).bind fun x ρ1 => (fl ρ1).bind fun l ρ2 => (fh ρ2).bind fun h ρ3 => oko (slice (rs ρ3 x) l h) ρ3) := by
  refine peImp (pe_slice (sl_O hK) ha hl hh) fun σ H Q q => one q fun a ρ1 x F1 H1 F0 H0 ρ0 p o fr post => ?_
  refine run p post fun l ρ2 l' F2 H2 p12 p02 r post => ?_
  obtain rfl : l' = l := r
  refine run p02 post fun h ρ3 h' F3 H3 p23 p03 r post => ?_
  obtain rfl : h' = h := r
  have o3 := (o.step p.st p12 fun _ _ z => z).step p02.st p23 fun _ _ z => z
  unfold oko at post
  cases e : slice (rs ρ3 a) l' h' with
  | none => rw [e] at post; exact post.elim
  | some o =>
    rw [e] at post
    exact ⟨F3, _, o, o3.rv p03.st, e, fun v H' nw => fin_new p03 post nw⟩
/-! ### built-ins -/
theorem snd_blt {x : Str} {id : String} {h : List O → Option O} {e : Expr} {es : List Expr} {f : Ev → R (List O)} {p pos : Pos} (hc : CallR X (.builtin id) (rC Z h)) (hg : Gl X x) (hm : X.mg x = none) (hv : bootBuiltins x = some (.builtin id)) (hn : x ≠ "__name__") (hd : (x == ("__debug__" : Str)) = false)
    (ha : PA X (e :: es) (LA Z E f)) (hs : (e :: es).all (fun e => !isStar e) = true) : PE X (.Call (.Name x p) (e :: es) [] pos) (LE Z E fun ρ => (f ρ).bind fun os ρ1 => oko (h (os.map (rs ρ1))) ρ1) := by
  have h1 : isStar e = false ∧ es.all (fun e => !isStar e) = true := by
    simpa only [List.all_cons, Bool.and_eq_true, Bool.not_eq_true'] using hs
  refine peImp (pe_callB hc hg hm hv ha hn hd (star_cons h1.1) (star_none h1.2)) fun σ H Q q => many q fun os ρ1 vs F1 H1 F0 H0 ρ0 p o post => ?_
  unfold oko at post
  cases e : h (os.map (rs ρ1)) with
  | none => rw [e] at post; exact post.elim
  | some z =>
    rw [e] at post
    exact ⟨F1, _, z, OutL.rvl p.st o, e, fun v H' nw => fin_new p post nw⟩
theorem snd_bty {x : Str} {T : String} {h : List O → Option O} {e : Expr} {es : List Expr} {f : Ev → R (List O)} {p pos : Pos} (hc : CallR X (.type T) (rC Z h)) (hg : Gl X x) (hm : X.mg x = none) (hv : bootBuiltins x = some (.type T)) (hn : x ≠ "__name__") (hd : (x == ("__debug__" : Str)) = false)
    (ha : PA X (e :: es) (LA Z E f)) (hs : (e :: es).all (fun e => !isStar e) = true) : PE X (.Call (.Name x p) (e :: es) [] pos) (LE Z E fun ρ => (f ρ).bind fun os ρ1 => oko (h (os.map (rs ρ1))) ρ1) := by
  have h1 : isStar e = false ∧ es.all (fun e => !isStar e) = true := by
    simpa only [List.all_cons, Bool.and_eq_true, Bool.not_eq_true'] using hs
  refine peImp (pe_callTy hc hg hm hv ha hn hd (star_cons h1.1) (star_none h1.2)) fun σ H Q q => many q fun os ρ1 vs F1 H1 F0 H0 ρ0 p o post => ?_
  unfold oko at post
  cases e : h (os.map (rs ρ1)) with
  | none => rw [e] at post; exact post.elim
  | some z =>
    rw [e] at post
    exact ⟨F1, _, z, OutL.rvl p.st o, e, fun v H' nw => fin_new p post nw⟩
/-! ### isinstance -/
def tyN : Ty → String
  | .int => "int" | .bool => "bool" | .str => "str" | .tuple => "tuple" | .list => "list"
theorem sqT_ty {a : Addr} {vs : List V} (h : SqT Z.K H a vs) : TyX Z.K H (.ref a) (.type "tuple") := by
  rcases h with (h | ⟨o, h⟩) | ⟨o, _, _, h, c, _⟩
  · exact .base (.tup h)
  · exact .fTuple h
  · exact .kTuple h c
theorem sqL_ty {a : Addr} {vs : List V} (h : SqL Z.K H a vs) : TyX Z.K H (.ref a) (.type "list") := by
  rcases h with (h | ⟨o, h⟩) | ⟨o, _, _, h, c, _⟩
  · exact .base (.lst h)
  · exact .base (.frz h)
  · exact .kList h c
/-- the type's name, and whether it is one of t -/
theorem isTy_ok {K : PySem.W.Frag} (hK : K = Z.K) {F : Fz} {o : O} {v : V} {t : Ty} {b : Bool} (r : Rv Z F H o v) (e : isTy t o = some b) : ∃ T : String, TyX K H v (.type T) ∧ PySem.W.kitOne K (.type T) (.type (tyN t)) = some b := by
  subst hK
  have kit : ∀ (T : String) (b : Bool), kitB T (tyN t) = some b → PySem.W.kitOne Z.K (.type T) (.type (tyN t)) = some b := fun T b h => kit_ty h
  unfold isTy at e
  split at e
  · rename_i x
    cases x with
    | non =>
      rw [Rp.inv_non r.d]
      refine ⟨_, .base .non, kit _ _ ?_⟩
      cases e
      cases t <;> (dsimp only; decide +kernel)
    | bl y =>
      rw [Rp.inv_bl r.d]
      refine ⟨_, .base (.bl y), kit _ _ ?_⟩
      cases e
      cases t <;> (dsimp only; decide +kernel)
    | int i =>
      rw [Rp.inv_int r.d]
      refine ⟨_, .base (.int i), kit _ _ ?_⟩
      cases e
      cases t <;> (dsimp only; decide +kernel)
    | str k =>
      have r' := r.d
      simp only [Rp] at r'
      obtain ⟨x, _, rfl⟩ := r'
      refine ⟨_, .base (.str x), kit _ _ ?_⟩
      cases e
      cases t <;> (dsimp only; decide +kernel)
    | tup xs =>
      obtain ⟨a, vs, rfl, s, _⟩ := Rp.inv_tup r.d
      refine ⟨_, sqT_ty s, kit _ _ ?_⟩
      cases e
      cases t <;> (dsimp only; decide +kernel)
    | lst xs =>
      obtain ⟨a, vs, rfl, s, _⟩ := Rp.inv_lst r.d
      refine ⟨_, sqL_ty s.sq, kit _ _ ?_⟩
      cases e
      cases t <;> (dsimp only; decide +kernel)
  · cases e
    obtain ⟨a, vs, rfl, s, _⟩ := r.l
    refine ⟨_, sqL_ty (SqL.of s), kit _ _ ?_⟩
    cases t <;> (first | decide +kernel | (dsimp only; decide +kernel))
  · cases e
theorem snd_isi {a : Expr} {f : Ev → R O} {x y : Str} {t : Ty} {p p' pos : Pos} (hK : X.K = Z.K) (ha : PE X a (LE Z E f)) (hg : Gl X x) (hm : X.mg x = none) (hv : bootBuiltins x = some (.builtin "isinstance")) (hn : x ≠ "__name__") (hd : (x == ("__debug__" : Str)) = false)
    (hg' : Gl X y) (hm' : X.mg y = none) (hv' : bootBuiltins y = some (.type (tyN t))) (hn' : y ≠ "__name__") (hd' : (y == ("__debug__" : Str)) = false) (hs : isStar a = false) :
    PE X (.Call (.Name x p) [a, .Name y p'] [] pos) (LE Z E fun ρ => (f ρ).bind fun o ρ1 => okb (isTy t (rs ρ1 o)) ρ1) := by
  have hb : PE X (.Name y p') (tC (.ty (tyN t))) := pe_bltn hg' hm' hv' rfl hn' hd'
  refine peImp (pe_callB call_isi hg hm hv (pa_cons ha (pa_cons hb pa_nil) (star_cons hs)) hn hd (star_cons hs) (by rfl)) fun σ H Q q => one q fun o ρ1 v F1 H1 F0 H0 ρ0 p r fr post => ?_
  unfold okb at post
  cases e : isTy t (rs ρ1 o) with
  | none => rw [e] at post; exact post.elim
  | some b =>
    rw [e] at post
    obtain ⟨T, h1, h2⟩ := isTy_ok hK (r.rv p.st) e
    exact ⟨v, .ty (tyN t), _, _, b, rfl, .ty _, h1, by rw [hK]; exact h2, fin_new p post (new_bl b)⟩
/-! ### methods of a slot's list -/
theorem Sta.ownL {F : Fz} {ρ : Ev} (s : Sta Z F H σ ρ) {i : Nat} {q : Bool} {xs : List D} (e : ρ[i]? = some (some (.L q xs))) : ∃ a vs, σ[i]? = some (some (V.ref a)) ∧ H a = some (.lst vs) ∧ Rps Z F H xs vs := by
  obtain ⟨v, e1, a, vs, rfl, h1, h2, _⟩ := s.rep i _ e
  exact ⟨a, vs, e1, h1, h2⟩
/-- a slot's own list is written -/
theorem set_own {σ0 : L2.St} {F0 F : Fz} {H0 : Hp} {ρ0 ρ : Ev} {i : Nat} {q : Bool} {xs ys : List D} {a : Addr} {ws : List V} (p : Path Z σ0 F0 H0 ρ0 σ F H ρ) (e : ρ[i]? = some (some (.L q xs))) (e2 : σ[i]? = some (some (V.ref a))) (r : Rps Z F H ys ws) :
    Path Z σ0 F0 H0 ρ0 σ F (upd H a (.lst ws)) (ρ.set i (some (.L q ys))) ∧ Rps Z F (upd H a (.lst ws)) ys ws ∧ Up F H F (upd H a (.lst ws)) := by
  have ow : Own σ ρ a := own_of e rfl e2
  obtain ⟨b, vs, e3, h1, h2⟩ := p.st.ownL e
  rw [e2] at e3
  cases (Option.some.inj (Option.some.inj e3))
  have nF := (p.st.kind ow).2
  have u : Up F H F (upd H a (.lst ws)) := ⟨fun c vs q => by
      rw [upd_ne (ne_of q h1 (by intro z; cases z))]; exact q, fun c o w q => by
      rw [upd_ne (ne_of q h1 (by intro z; cases z))]; exact q, fun _ f => f, fun c vs f q => by
      rw [upd_ne (fun z => nF (by rw [← z]; exact f))]; exact q⟩
  have own' : ∀ b, Own σ (ρ.set i (some (.L q ys))) b → Own σ ρ b := fun b ⟨j, w, ej, ho, es⟩ => by
    rcases getset ej with ⟨rfl, z, _⟩ | ⟨hn, z⟩
    · rw [e2] at es
      cases (Option.some.inj (Option.some.inj es))
      exact ow
    · exact own_of z ho es
  have sp : Stp Z (Own σ ρ) F H F (upd H a (.lst ws)) := ⟨fun b o eb n _ => by
      rw [upd_ne (fun z => n (by rw [z]; exact ow))]; exact eb, fun b n => by
      by_cases z : b = a
      · rw [z, upd_same]; exact id
      · rw [upd_ne z]; exact n, fun _ f => f, fun _ f => .inl f⟩
  refine ⟨p.trans ⟨⟨by rw [List.length_set]; exact p.st.len, fun j w ej => ?_, fun j k wj wk b ej ek hj hk sj sk => ?_, ?_, fun b f => sp.there b (p.st.ft b f)⟩, sp, fun b z => .inl (own' b z), fun j w h pw => ?_⟩, r.up u, u⟩
  · rcases getset ej with ⟨rfl, z, _⟩ | ⟨hn, z⟩
    · cases z
      exact ⟨_, e2, a, ws, rfl, upd_same, r.up u, nF⟩
    · obtain ⟨v, e6, r6⟩ := p.st.rep j w z
      refine ⟨v, e6, r6.up u fun b eb ho => ⟨fun o q => ?_, fun f => ?_⟩⟩
      · subst eb
        rw [upd_ne (fun z2 => hn (p.st.inj _ _ _ _ _ z e ho rfl (by rw [← z2]; exact e6) e2))]
        exact q
      · subst eb
        exact (p.st.kind (own_of z ho e6)).2 f
  · have k1 : ∃ wj', ρ[j]? = some (some wj') ∧ isOwn wj' = true := by
      rcases getset ej with ⟨rfl, z, _⟩ | ⟨_, z⟩
      · exact ⟨_, e, rfl⟩
      · exact ⟨_, z, hj⟩
    have k2 : ∃ wk', ρ[k]? = some (some wk') ∧ isOwn wk' = true := by
      rcases getset ek with ⟨rfl, z, _⟩ | ⟨_, z⟩
      · exact ⟨_, e, rfl⟩
      · exact ⟨_, z, hk⟩
    obtain ⟨_, z1, o1⟩ := k1
    obtain ⟨_, z2, o2⟩ := k2
    exact p.st.inj _ _ _ _ _ z1 z2 o1 o2 sj sk
  · intro t ht
    obtain ⟨ps, h1', h2', h3'⟩ := p.st.tabs t ht
    refine ⟨ps, ?_, h2', fun pos cv hc => ?_⟩
    · rw [upd_ne (ne_of h1' h1 (by intro z; cases z))]; exact h1'
    · obtain ⟨c, ec, hcc⟩ := h3' pos cv hc
      refine ⟨c, ec, ?_⟩
      rw [upd_ne (ne_of hcc h1 (by unfold LamX.CodeO; intro z; cases z))]
      exact hcc
  · rcases getset h with ⟨rfl, z, _⟩ | ⟨_, z⟩
    · cases z
      exact ⟨⟨_, e, pw⟩, rfl⟩
    · exact ⟨⟨_, z, pw⟩, rfl⟩
theorem Rps.dropLast {F : Fz} {xs : List D} {vs : List V} (h : Rps Z F H xs vs) : Rps Z F H xs.dropLast vs.dropLast := by
  rw [List.dropLast_eq_take, List.dropLast_eq_take, ← h.len]
  exact h.take _
theorem snd_app {a : Expr} {i : Nat} {x : Str} {f : Ev → R O} {apos cpos p : Pos} (hK : X.K = Z.K) (hv : PE X (.Name x p) (tVar i)) (ha : PE X a (LE Z E f)) (hs : isStar a = false) (hl : (apos.endLine == cpos.line) = true) :
    PE X (.Call (.Attribute (.Name x p) "append" apos) [a] [] cpos) (LE Z E fun ρ => if isL ρ i = true then (f ρ).bind fun x ρ1 => R.opt (keep ρ1 x) fun p => appS i p.1 p.2 else .stuck) := by
  refine peImp (pe_bm PySem.F.plainAttrs_list PySem.F.slot_list_append PySem.F.type_list_append mt_append hv (pa_cons ha pa_nil (star_cons hs)) (by rfl) (by rw [star_cons hs] <;> rfl) hl (star_cons hs) (by rfl)) fun σ H Q ⟨F0, H0, ρ0, F, ρ, p, post⟩ => ?_
  by_cases hi : isL ρ i = true
  · simp only [if_pos hi] at post
    have hq : ∃ q xs, ρ[i]? = some (some (.L q xs)) := by
      unfold isL at hi
      split at hi
      · rename_i q xs e
        exact ⟨q, xs, e⟩
      · cases hi
    obtain ⟨q0, xs0, e0⟩ := hq
    obtain ⟨a0, vs0, es0, eh0, _⟩ := p.st.ownL e0
    refine ⟨.ref a0, es0, .inl ⟨rfl, vs0, by rw [hK]; exact SqL.of eh0⟩, ?_⟩
    refine run p post fun o ρ1 v F1 H1 p1 p01 r post => ?_
    cases ek : keep ρ1 o with
    | none => rw [ek] at post; exact post.elim
    | some z =>
      obtain ⟨y, ρ2⟩ := z
      rw [ek] at post
      obtain ⟨F2, p2, ry, _⟩ := keep_ok p01 r.1 (r.2.back p) ek
      simp only [R.opt_some, appS] at post
      split at post
      · rename_i q xs e2
        obtain ⟨a, vs, es, eh, rx⟩ := p2.st.ownL e2
        rw [es0] at es
        cases (Option.some.inj (Option.some.inj es))
        split at post
        · rename_i hlt
          obtain ⟨p3, _, _⟩ := set_own p2 e2 es0 (rx.append (.cons ry .nil))
          exact ⟨a0, vs, v, rfl, rfl, eh, by rw [← rx.len, sizeLine_eq]; exact hlt, here_d p3 post (by simp only [Rp])⟩
        · exact post.elim
      · exact post.elim
  · simp only [if_neg hi] at post
    exact post.elim
theorem snd_pop {i : Nat} {x : Str} {apos cpos p : Pos} (hK : X.K = Z.K) (hv : PE X (.Name x p) (tVar i)) (hl : (apos.endLine == cpos.line) = true) :
    PE X (.Call (.Attribute (.Name x p) "pop" apos) [] [] cpos) (LE Z E (popS i)) := by
  refine peImp (pe_bm0 PySem.F.plainAttrs_list PySem.F.slot_list_pop PySem.F.type_list_pop mt_pop hv (by rfl) hl) fun σ H Q ⟨F0, H0, ρ0, F, ρ, p, post⟩ => ?_
  unfold popS at post
  split at post
  · rename_i q xs e
    obtain ⟨a, vs, es, eh, rx⟩ := p.st.ownL e
    cases el : xs[xs.length - 1]? with
    | none => rw [el] at post; exact post.elim
    | some d =>
      rw [el] at post
      obtain ⟨v, ev, rv⟩ := rx.get el
      obtain ⟨p3, _, u⟩ := set_own p e es rx.dropLast
      exact ⟨.ref a, es, .inl ⟨rfl, vs, by rw [hK]; exact SqL.of eh⟩, a, vs, v, rfl, rfl, eh, by rw [← rx.len]; exact ev, here_d p3 post (rv.up u)⟩
  · exact post.elim
end
end Ev
/-! Ev7: calls of the law's own defs. -/
namespace Ev
open PySem PySem.Spec PyProof.Rows L2
section
variable {n : Nat} {E : XK} {X : Cx} {Z : Wo} {σ : L2.St} {F : Fz} {H H0 : Hp} {ρ : Ev} {α β γ δ : Type}
theorem mem_walked : ∀ {os : List O} {j s : Nat}, os[j]? = some (.bor s) → s ∈ walked os
  | [], j, s, h => by simp at h
  | o :: os, 0, s, h => by
    have e : o = .bor s := by simpa using h
    rw [e]
    exact List.mem_cons_self
  | o :: os, j + 1, s, h => by
    have ih := mem_walked (os := os) (j := j) (s := s) (by simpa using h)
    cases o with
    | bor i => exact List.mem_cons_of_mem _ ih
    | _ => exact ih
theorem of_walked : ∀ {os : List O} {s : Nat}, s ∈ walked os → ∃ j : Nat, os[j]? = some (.bor s)
  | [], s, h => by cases h
  | o :: os, s, h => by
    cases o with
    | bor i =>
      rcases List.mem_cons.mp h with e | h
      · exact ⟨0, by rw [e]; rfl⟩
      · obtain ⟨j, e⟩ := of_walked h
        exact ⟨j + 1, by simpa using e⟩
    | d x =>
      obtain ⟨j, e⟩ := of_walked (os := os) h
      exact ⟨j + 1, by simpa using e⟩
    | L x =>
      obtain ⟨j, e⟩ := of_walked (os := os) h
      exact ⟨j + 1, by simpa using e⟩
    | M t x =>
      obtain ⟨j, e⟩ := of_walked (os := os) h
      exact ⟨j + 1, by simpa using e⟩
    | F f =>
      obtain ⟨j, e⟩ := of_walked (os := os) h
      exact ⟨j + 1, by simpa using e⟩
    | Z f =>
      obtain ⟨j, e⟩ := of_walked (os := os) h
      exact ⟨j + 1, by simpa using e⟩
theorem once_tail {o : O} {os : List O} (h : onceEach (walked (o :: os)) = true) : onceEach (walked os) = true := by
  cases o with
  | bor i =>
    simp only [walked, onceEach, Bool.and_eq_true] at h
    exact h.2
  | _ => exact h
theorem once_head {i : Nat} {os : List O} (h : onceEach (walked (.bor i :: os)) = true) : i ∉ walked os := by
  simp only [walked, onceEach, Bool.and_eq_true, Bool.not_eq_true'] at h
  intro z
  have h1 := h.1
  rw [List.contains_eq_mem] at h1
  simp [z] at h1
/-- what a call's argument is -/
def handW (ρ : Ev) (o : O) : Option W := match o with
  | .d x => some (W.d x)
  | .L xs => some (W.L true xs)
  | .M t kvs => some (W.M true t kvs)
  | .F _ => none
  | .Z _ => none
  | .bor i => match ρ[i]? with
    | some (some (.L _ xs)) => some (W.L true xs)
    | some (some (.M _ t kvs)) => some (W.M true t kvs)
    | _ => none
theorem handW_isP {o : O} {w : W} (h : handW ρ o = some w) (ow : isOwn w = true) : isP w = true := by
  unfold handW at h
  split at h
  · cases h; cases ow
  · cases h; rfl
  · cases h; rfl
  · cases h
  · cases h
  · split at h
    · cases h; rfl
    · cases h; rfl
    · cases h
theorem handL_cons {o : O} {os : List O} {args : Ev} (h : handL ρ (o :: os) = some args) : ∃ w r, args = some w :: r ∧ handW ρ o = some w ∧ handL ρ os = some r := by
  simp only [handL] at h
  obtain ⟨w, e1, h⟩ := Option.bind_eq_some_iff.mp h
  obtain ⟨r, e2, e3⟩ := Option.map_eq_some_iff.mp h
  refine ⟨w, r, e3.symm, ?_, e2⟩
  unfold handW
  cases o <;> exact e1
theorem handL_len : ∀ {os : List O} {args : Ev}, handL ρ os = some args → args.length = os.length
  | [], args, h => by
    simp only [handL, Option.some.injEq] at h
    rw [← h]; rfl
  | o :: os, args, h => by
    obtain ⟨w, r, rfl, _, h2⟩ := handL_cons h
    rw [List.length_cons, List.length_cons, handL_len h2]
theorem handL_some : ∀ {os : List O} {args : Ev}, handL ρ os = some args → ∀ i : Nat, args[i]? ≠ some none
  | [], args, h, i => by
    simp only [handL, Option.some.injEq] at h
    rw [← h]; simp
  | o :: os, args, h, i => by
    obtain ⟨w, r, rfl, _, h2⟩ := handL_cons h
    cases i with
    | zero => simp
    | succ i => simpa using handL_some h2 i
theorem handL_get : ∀ {os : List O} {args : Ev} {j : Nat} {w : W}, handL ρ os = some args → args[j]? = some (some w) → ∃ o, os[j]? = some o ∧ handW ρ o = some w
  | [], args, j, w, h, e => by
    simp only [handL, Option.some.injEq] at h
    rw [← h] at e
    simp at e
  | o :: os, args, j, w, h, e => by
    obtain ⟨w', r, rfl, h1, h2⟩ := handL_cons h
    cases j with
    | zero =>
      have e2 : w' = w := by simpa using e
      exact ⟨o, rfl, by rw [h1, e2]⟩
    | succ j =>
      obtain ⟨o', e3, h3⟩ := handL_get (j := j) (w := w) h2 (by simpa using e)
      exact ⟨o', by simpa using e3, h3⟩
theorem OutL.get : ∀ {os : List O} {vs : List V} {j : Nat} {o : O}, OutL Z H0 F H σ ρ os vs → os[j]? = some o → ∃ v, vs[j]? = some v ∧ Out Z F H σ ρ o v ∧ Frs H0 o v
  | [], vs, j, o, h, e => by simp at e
  | p :: os, vs, j, o, h, e => by
    obtain ⟨v, r, rfl, h1, h2, _, t⟩ := h
    cases j with
    | zero =>
      have e2 : p = o := by simpa using e
      subst e2
      exact ⟨v, rfl, h1, h2⟩
    | succ j =>
      obtain ⟨w, e3, h3⟩ := OutL.get (j := j) (o := o) t (by simpa using e)
      exact ⟨w, by simpa using e3, h3⟩
theorem Apart.get {a : Addr} : ∀ {os : List O} {vs : List V} {j : Nat} {o : O}, Apart a os vs → os[j]? = some o → isNew o = true → vs[j]? ≠ some (.ref a)
  | [], vs, j, o, h, e, _ => by simp at e
  | p :: os, [], j, o, h, e, _ => by simp
  | p :: os, v :: vs, j, o, h, e, n => by
    cases j with
    | zero =>
      have e2 : p = o := by simpa using e
      subst e2
      intro z
      have z2 : v = .ref a := by simpa using z
      exact h.1 n z2
    | succ j =>
      have := Apart.get (j := j) (o := o) h.2 (by simpa using e) n
      simpa using this
/-- two new ones are not the same -/
theorem OutL.apart : ∀ {os : List O} {vs : List V} {i j : Nat} {o p : O} {a : Addr}, OutL Z H0 F H σ ρ os vs → os[i]? = some o → os[j]? = some p → isNew o = true → isNew p = true → vs[i]? = some (V.ref a) → vs[j]? = some (V.ref a) → i = j
  | [], vs, i, j, o, p, a, h, e1, _, _, _, _, _ => by simp at e1
  | q :: os, vs, i, j, o, p, a, h, e1, e2, n1, n2, v1, v2 => by
    obtain ⟨v, r, rfl, h1, h2, ap, t⟩ := h
    cases i with
    | zero =>
      cases j with
      | zero => rfl
      | succ j =>
        have e3 : q = o := by simpa using e1
        have e4 : v = .ref a := by simpa using v1
        subst e3
        exact absurd (by simpa using v2) ((ap n1 a e4).get (j := j) (o := p) (by simpa using e2) n2)
    | succ i =>
      cases j with
      | zero =>
        have e3 : q = p := by simpa using e2
        have e4 : v = .ref a := by simpa using v2
        subst e3
        exact absurd (by simpa using v1) ((ap n2 a e4).get (j := i) (o := o) (by simpa using e1) n1)
      | succ j =>
        have := OutL.apart (i := i) (j := j) (o := o) (p := p) (a := a) t (by simpa using e1) (by simpa using e2) n1 n2 (by simpa using v1) (by simpa using v2)
        omega
theorem once_ix : ∀ {os : List O} {i j s : Nat}, onceEach (walked os) = true → os[i]? = some (.bor s) → os[j]? = some (.bor s) → i = j
  | [], i, j, s, _, e, _ => by simp at e
  | o :: os, i, j, s, h, e1, e2 => by
    cases i with
    | zero =>
      cases j with
      | zero => rfl
      | succ j =>
        have e3 : o = .bor s := by simpa using e1
        subst e3
        exact absurd (mem_walked (j := j) (by simpa using e2)) (once_head h)
    | succ i =>
      cases j with
      | zero =>
        have e3 : o = .bor s := by simpa using e2
        subst e3
        exact absurd (mem_walked (j := i) (by simpa using e1)) (once_head h)
      | succ j =>
        have := once_ix (once_tail h) (i := i) (j := j) (s := s) (by simpa using e1) (by simpa using e2)
        omega
theorem map_get {vs : List V} {i : Nat} {x : Option V} (h : (vs.map some)[i]? = some x) : ∃ v, vs[i]? = some v ∧ x = some v := by
  rw [List.getElem?_map] at h
  cases e : vs[i]? with
  | none => rw [e] at h; cases h
  | some v =>
    rw [e] at h
    exact ⟨v, rfl, (Option.some.inj h).symm⟩
theorem map_of {vs : List V} {i : Nat} {v : V} (h : vs[i]? = some v) : (vs.map some)[i]? = some (some v) := by rw [List.getElem?_map, h]; rfl
/-- what a handed thing is -/
theorem hand_own {o : O} {w : W} {v : V} {a : Addr} (h : Out Z F H σ ρ o v) (e : handW ρ o = some w) (ow : isOwn w = true) (ev : v = .ref a) :
    (isNew o = true ∧ ¬ Own σ ρ a) ∨ (∃ s, o = .bor s ∧ σ[s]? = some (some (V.ref a)) ∧ Own σ ρ a) := by
  subst ev
  cases o with
  | d x =>
    simp only [handW, Option.some.injEq] at e
    subst e
    cases ow
  | L xs => exact .inl ⟨rfl, Out.newNotOwn h rfl⟩
  | M t kvs => exact .inl ⟨rfl, Out.newNotOwn h rfl⟩
  | F f => simp only [handW] at e; cases e
  | Z kvs => simp only [handW] at e; cases e
  | bor s =>
    refine .inr ⟨s, rfl, h, ?_⟩
    simp only [handW] at e
    split at e
    · rename_i q xs e2
      exact own_of e2 rfl h
    · rename_i q t xs e2
      exact own_of e2 rfl h
    · cases e
theorem hand_rep {o : O} {w : W} {v : V} (s : Sta Z F H σ ρ) (h : Out Z F H σ ρ o v) (e : handW ρ o = some w) : RpW Z F H w v := by
  cases o with
  | d x =>
    simp only [handW, Option.some.injEq] at e
    subst e
    exact h
  | L xs =>
    simp only [handW, Option.some.injEq] at e
    subst e
    obtain ⟨a, vs, rfl, h1, h2, h3, _⟩ := h
    exact ⟨a, vs, rfl, h1, h2, h3⟩
  | M t kvs =>
    simp only [handW, Option.some.injEq] at e
    subst e
    obtain ⟨a, rfl, h1, h3, _⟩ := h
    exact ⟨a, rfl, h1, h3⟩
  | F f => simp only [handW] at e; cases e
  | Z kvs => simp only [handW] at e; cases e
  | bor i =>
    have hs : σ[i]? = some (some v) := h
    simp only [handW] at e
    split at e
    · rename_i q xs e2
      cases e
      obtain ⟨v', e3, r⟩ := s.rep i _ e2
      rw [hs] at e3
      have e4 := Option.some.inj (Option.some.inj e3)
      subst e4
      exact r
    · rename_i q t xs e2
      cases e
      obtain ⟨v', e3, r⟩ := s.rep i _ e2
      rw [hs] at e3
      have e4 := Option.some.inj (Option.some.inj e3)
      subst e4
      exact r
    · cases e
theorem hand_ok {os : List O} {vs : List V} {args : Ev} (s : Sta Z F H σ ρ) (h : OutL Z H0 F H σ ρ os vs) (o : onceEach (walked os) = true) (e : handL ρ os = some args) :
    Sta Z F H (vs.map some) args ∧ (∀ a, Own (vs.map some) args a → (NoO (H0 a) ∧ ¬ Own σ ρ a) ∨ Own σ ρ a) := by
  have len := handL_len e
  have len2 := OutL.len h
  have key : ∀ (i : Nat) (w : W), args[i]? = some (some w) → ∃ p v, os[i]? = some p ∧ handW ρ p = some w ∧ vs[i]? = some v ∧ Out Z F H σ ρ p v ∧ Frs H0 p v := fun i w ei => by
    obtain ⟨p, e1, e2⟩ := handL_get e ei
    obtain ⟨v, e3, e4, e5⟩ := OutL.get h e1
    exact ⟨p, v, e1, e2, e3, e4, e5⟩
  refine ⟨⟨by rw [List.length_map, len, len2], fun i w ei => ?_, fun i j wi wj a ei ej hi hj si sj => ?_, s.tabs, s.ft⟩, fun a ⟨i, w, ei, hi, si⟩ => ?_⟩
  · obtain ⟨p, v, e1, e2, e3, e4, _⟩ := key i w ei
    exact ⟨v, map_of e3, hand_rep s e4 e2⟩
  · obtain ⟨p, v, e1, e2, e3, e4, _⟩ := key i wi ei
    obtain ⟨p', v', e1', e2', e3', e4', _⟩ := key j wj ej
    obtain ⟨u, eu, z⟩ := map_get si
    obtain ⟨u', eu', z'⟩ := map_get sj
    cases z
    cases z'
    rw [e3] at eu
    rw [e3'] at eu'
    cases eu
    cases eu'
    rcases hand_own e4 e2 hi rfl with ⟨n1, o1⟩ | ⟨t, rfl, q1, o1⟩
    · rcases hand_own e4' e2' hj rfl with ⟨n2, o2⟩ | ⟨t', rfl, q2, o2⟩
      · exact OutL.apart h e1 e1' n1 n2 e3 e3'
      · exact absurd o2 o1
    · rcases hand_own e4' e2' hj rfl with ⟨n2, o2⟩ | ⟨t', rfl, q2, o2⟩
      · exact absurd o1 o2
      · have : t = t' := by
          obtain ⟨x, wx, a1, a2, a3⟩ := o1
          have hw : ∀ t, (∃ w, handW ρ (.bor t) = some w ∧ isOwn w = true) → ∃ w', ρ[t]? = some (some w') ∧ isOwn w' = true := fun t ⟨w, hw, how⟩ => by
            simp only [handW] at hw
            split at hw
            · rename_i e; exact ⟨_, e, rfl⟩
            · rename_i e; exact ⟨_, e, rfl⟩
            · cases hw
          obtain ⟨w1, b1, c1⟩ := hw t ⟨_, e2, hi⟩
          obtain ⟨w2, b2, c2⟩ := hw t' ⟨_, e2', hj⟩
          exact s.inj _ _ _ _ _ b1 b2 c1 c2 q1 q2
        subst this
        exact once_ix o e1 e1'
  · obtain ⟨p, v, e1, e2, e3, e4, e5⟩ := key i w ei
    obtain ⟨u, eu, z⟩ := map_get si
    cases z
    rw [e3] at eu
    cases eu
    rcases hand_own e4 e2 hi rfl with ⟨n1, o1⟩ | ⟨t, rfl, q1, o1⟩
    · exact .inl ⟨e5 n1 a rfl, o1⟩
    · exact .inr o1
/-- the slots behind the call -/
theorem handB_ok : ∀ {os : List O} {r ρ ρ2 : Ev}, handB ρ os r = some ρ2 → onceEach (walked os) = true → ρ2.length = ρ.length ∧ (∀ s : Nat, s ∉ walked os → ρ2[s]? = ρ[s]?) ∧
    ∀ (j s : Nat), os[j]? = some (O.bor s) → (∃ p xs0 xs, ρ[s]? = some (some (W.L p xs0)) ∧ r[j]? = some (some (W.L true xs)) ∧ ρ2[s]? = some (some (W.L p xs))) ∨
      (∃ p t k0 k, ρ[s]? = some (some (W.M p t k0)) ∧ r[j]? = some (some (W.M true t k)) ∧ ρ2[s]? = some (some (W.M p t k)))
  | [], r, ρ, ρ2, h, _ => by
    simp only [handB, Option.some.injEq] at h
    subst h
    exact ⟨rfl, fun _ _ => rfl, fun j s e => by simp at e⟩
  | o :: os, r, ρ, ρ2, h, on => by
    have tl := once_tail on
    cases o with
    | bor i =>
      cases r with
      | nil => simp only [handB] at h; cases h
      | cons a r =>
        have nh := once_head on
        simp only [handB] at h
        have fin : ∀ w : Option W, ρ[i]? ≠ none → handB (ρ.set i w) os r = some ρ2 → ρ2.length = ρ.length ∧ (∀ s : Nat, s ∉ i :: walked os → ρ2[s]? = ρ[s]?) ∧ ρ2[i]? = some w ∧
            ∀ (j s : Nat), os[j]? = some (O.bor s) → (∃ p xs0 xs, ρ[s]? = some (some (W.L p xs0)) ∧ r[j]? = some (some (W.L true xs)) ∧ ρ2[s]? = some (some (W.L p xs))) ∨
              (∃ p t k0 k, ρ[s]? = some (some (W.M p t k0)) ∧ r[j]? = some (some (W.M true t k)) ∧ ρ2[s]? = some (some (W.M p t k))) := fun w hi hb => by
          obtain ⟨h1, h2, h3⟩ := handB_ok hb tl
          have hlt : i < ρ.length := by
            cases q : ρ[i]? with
            | none => exact absurd q hi
            | some x => exact (List.getElem?_eq_some_iff.mp q).1
          refine ⟨by rw [h1, List.length_set], fun s hs => ?_, ?_, fun j s e => ?_⟩
          · simp only [List.mem_cons, not_or] at hs
            rw [h2 s hs.2, List.getElem?_set_ne (Ne.symm hs.1)]
          · rw [h2 i nh, List.getElem?_set_self hlt]
          · have hne : s ≠ i := fun z => nh (by rw [← z]; exact mem_walked e)
            have := h3 j s e
            rw [List.getElem?_set_ne (Ne.symm hne)] at this
            exact this
        split at h
        · rename_i p xs0 xs e1
          obtain ⟨h1, h2, h3, h4⟩ := fin _ (by rw [e1]; simp) h
          refine ⟨h1, h2, fun j s e => ?_⟩
          cases j with
          | zero =>
            have e2 : i = s := by
              have : O.bor i = .bor s := by simpa using e
              injection this
            subst e2
            exact .inl ⟨p, xs0, xs, e1, by simp, h3⟩
          | succ j => simpa using h4 j s (by simpa using e)
        · rename_i p t k0 t' k e1
          split at h
          · rename_i ht
            have ht : t = t' := by simpa using ht
            subst ht
            obtain ⟨h1, h2, h3, h4⟩ := fin _ (by rw [e1]; simp) h
            refine ⟨h1, h2, fun j s e => ?_⟩
            cases j with
            | zero =>
              have e2 : i = s := by
                have : O.bor i = .bor s := by simpa using e
                injection this
              subst e2
              exact .inr ⟨p, t, k0, k, e1, by simp, h3⟩
            | succ j => simpa using h4 j s (by simpa using e)
          · cases h
        · cases h
    | d x =>
      cases r with
      | nil => simp only [handB] at h; cases h
      | cons a r =>
        simp only [handB] at h
        obtain ⟨h1, h2, h3⟩ := handB_ok h tl
        refine ⟨h1, h2, fun j s e => ?_⟩
        cases j with
        | zero => simp at e
        | succ j => simpa using h3 j s (by simpa using e)
    | L x =>
      cases r with
      | nil => simp only [handB] at h; cases h
      | cons a r =>
        simp only [handB] at h
        obtain ⟨h1, h2, h3⟩ := handB_ok h tl
        refine ⟨h1, h2, fun j s e => ?_⟩
        cases j with
        | zero => simp at e
        | succ j => simpa using h3 j s (by simpa using e)
    | M t x =>
      cases r with
      | nil => simp only [handB] at h; cases h
      | cons a r =>
        simp only [handB] at h
        obtain ⟨h1, h2, h3⟩ := handB_ok h tl
        refine ⟨h1, h2, fun j s e => ?_⟩
        cases j with
        | zero => simp at e
        | succ j => simpa using h3 j s (by simpa using e)
    | F f =>
      cases r with
      | nil => simp only [handB] at h; cases h
      | cons a r =>
        simp only [handB] at h
        obtain ⟨h1, h2, h3⟩ := handB_ok h tl
        refine ⟨h1, h2, fun j s e => ?_⟩
        cases j with
        | zero => simp at e
        | succ j => simpa using h3 j s (by simpa using e)
    | Z f =>
      cases r with
      | nil => simp only [handB] at h; cases h
      | cons a r =>
        simp only [handB] at h
        obtain ⟨h1, h2, h3⟩ := handB_ok h tl
        refine ⟨h1, h2, fun j s e => ?_⟩
        cases j with
        | zero => simp at e
        | succ j => simpa using h3 j s (by simpa using e)
/-- behind a call: the caller's state -/
theorem back_ok {σ0 : L2.St} {F0 F' : Fz} {H' : Hp} {ρ0 ρ2 r args : Ev} {os : List O} {vs : List V} (p : Path Z σ0 F0 H0 ρ0 σ F H ρ) (h : OutL Z H0 F H σ ρ os vs) (o : onceEach (walked os) = true) (e : handL ρ os = some args)
    (q : Path Z (vs.map some) F H args (vs.map some) F' H' r) (e2 : handB ρ os r = some ρ2) : Path Z σ0 F0 H0 ρ0 σ F' H' ρ2 ∧ ∀ b, Own σ ρ2 b → Own σ ρ b := by
  obtain ⟨sA, oA⟩ := hand_ok p.st h o e
  obtain ⟨b1, b2, b3⟩ := handB_ok e2 o
  have u : Up F H F' H' := sA.up q.sp
  have own' : ∀ b, Own σ ρ2 b → Own σ ρ b := fun b ⟨i, w, ei, hi, si⟩ => by
    by_cases hw : i ∈ walked os
    · obtain ⟨j, ej⟩ := of_walked hw
      rcases b3 j i ej with ⟨p, xs0, xs, c1, _, _⟩ | ⟨p, t, k0, k, c1, _, _⟩
      · exact own_of c1 rfl si
      · exact own_of c1 rfl si
    · rw [b2 i hw] at ei
      exact own_of ei hi si
  refine ⟨⟨⟨by rw [b1]; exact p.st.len, fun i w ei => ?_, fun i j wi wj a ei ej hi hj si sj => ?_, q.st.tabs, q.st.ft⟩, p.sp.trans q.sp fun x ox => ?_, fun b ob => p.sub b (own' b ob), p.pp.trans fun i w ei pw => ?_⟩, own'⟩
  · by_cases hw : i ∈ walked os
    · obtain ⟨j, ej⟩ := of_walked hw
      obtain ⟨v, ev, ov, _⟩ := OutL.get h ej
      have sv : σ[i]? = some (some v) := ov
      rcases b3 j i ej with ⟨p, xs0, xs, c1, c2, c3⟩ | ⟨p, t, k0, k, c1, c2, c3⟩
      · rw [c3] at ei
        cases ei
        obtain ⟨v', ev', rv⟩ := q.st.rep j _ c2
        obtain ⟨v2, ev2, z⟩ := map_get ev'
        cases z
        rw [ev] at ev2
        cases ev2
        exact ⟨v, sv, rv⟩
      · rw [c3] at ei
        cases ei
        obtain ⟨v', ev', rv⟩ := q.st.rep j _ c2
        obtain ⟨v2, ev2, z⟩ := map_get ev'
        cases z
        rw [ev] at ev2
        cases ev2
        exact ⟨v, sv, rv⟩
    · rw [b2 i hw] at ei
      obtain ⟨v, sv, rv⟩ := p.st.rep i w ei
      refine ⟨v, sv, rv.up u fun a ea ho => ?_⟩
      subst ea
      have ow : Own σ ρ a := own_of ei ho sv
      have nA : ¬ Own (vs.map some) args a := fun z => by
        rcases oA a z with ⟨_, z⟩ | _
        · exact z ow
        · obtain ⟨j, w', aj, hj, sj⟩ := z
          obtain ⟨o', f1, f2⟩ := handL_get e aj
          obtain ⟨v', g1, g2, _⟩ := OutL.get h f1
          obtain ⟨v2, k1, k2⟩ := map_get sj
          cases k2
          rw [g1] at k1
          cases k1
          rcases hand_own g2 f2 hj rfl with ⟨_, n⟩ | ⟨s, rfl, m1, _⟩
          · exact n ow
          · have hs : ∃ w', ρ[s]? = some (some w') ∧ isOwn w' = true := by
              simp only [handW] at f2
              split at f2
              · rename_i e; exact ⟨_, e, rfl⟩
              · rename_i e; exact ⟨_, e, rfl⟩
              · cases f2
            obtain ⟨w3, m2, m3⟩ := hs
            have : i = s := p.st.inj _ _ _ _ _ ei m2 ho m3 sv m1
            subst this
            exact hw (mem_walked f1)
      have hk := p.st.kind ow
      refine ⟨fun o eo => q.sp.keep a o eo nA fun ps z => ?_, fun z => ?_⟩
      · subst z
        rcases hk.1 with ⟨_, y⟩ | ⟨_, y⟩ | ⟨_, y⟩ <;> · rw [eo] at y; cases y
      · rcases q.sp.fout a z with y | y | y
        · exact hk.2 y
        · rcases hk.1 with ⟨_, x⟩ | ⟨_, x⟩ | ⟨_, x⟩ <;> · rw [x] at y; cases y
        · exact nA y
  · have k : ∀ (i : Nat) (w : W), ρ2[i]? = some (some w) → isOwn w = true → ∃ w', ρ[i]? = some (some w') ∧ isOwn w' = true := fun i w ei hi => by
      by_cases hw : i ∈ walked os
      · obtain ⟨j, ej⟩ := of_walked hw
        rcases b3 j i ej with ⟨p, xs0, xs, c1, _, _⟩ | ⟨p, t, k0, k, c1, _, _⟩
        · exact ⟨_, c1, rfl⟩
        · exact ⟨_, c1, rfl⟩
      · rw [b2 i hw] at ei
        exact ⟨_, ei, hi⟩
    obtain ⟨_, z1, o1⟩ := k i wi ei hi
    obtain ⟨_, z2, o2⟩ := k j wj ej hj
    exact p.st.inj _ _ _ _ _ z1 z2 o1 o2 si sj
  · rcases oA x ox with ⟨z, _⟩ | z
    · exact .inr z
    · exact p.sub x z
  · by_cases hw : i ∈ walked os
    · obtain ⟨j, ej⟩ := of_walked hw
      rcases b3 j i ej with ⟨p, xs0, xs, c1, c2, c3⟩ | ⟨p, t, k0, k, c1, c2, c3⟩
      · rw [c3] at ei
        cases ei
        exact ⟨⟨_, c1, pw⟩, rfl⟩
      · rw [c3] at ei
        cases ei
        exact ⟨⟨_, c1, pw⟩, rfl⟩
    · rw [b2 i hw] at ei
      exact ⟨⟨_, ei, pw⟩, rfl⟩
end
section
variable {n : Nat} {E : XK} {X : Cx} {Y : Gw} {σ : L2.St} {H : Hp}
/-- what the call wants of its def -/
theorem call_sp {f : Nat} {F F0 : Fz} {H0 : Hp} {ρ0 ρ : Ev} {os : List O} {vs : List V} {Q : VK} (p : Path Y.Z σ F0 H0 ρ0 σ F H ρ) (h : OutL Y.Z H0 F H σ ρ os vs) (har : vs.length = Y.ar f)
    (post : PostG Y.Z E (relE Y.Z) σ F0 H0 ρ0 (callF Y.C n f os ρ) Q) : spF Y n f vs H Q E := by
  unfold callF at post
  split at post
  · rename_i o
    cases e : handL ρ os with
    | none => rw [e] at post; exact post.elim
    | some args =>
      rw [e] at post
      simp only [R.opt_some] at post
      obtain ⟨sA, oA⟩ := hand_ok p.st h o e
      refine ⟨F, args, har, by rw [handL_len e, OutL.len h], handL_some e, fun j w ej ow => by
        obtain ⟨o', _, e2⟩ := handL_get e ej
        exact handW_isP e2 ow, sA, ?_⟩
      cases ec : Y.C n f args with
      | stuck => rw [ec] at post; exact post.elim
      | ok z r =>
        rw [ec] at post
        simp only at post
        split at post
        · exact post.elim
        · rename_i nb
          cases e2 : handB ρ os r with
          | none => rw [e2] at post; exact post.elim
          | some ρ2 =>
            rw [e2] at post
            intro v F' H' q rel
            obtain ⟨p2, own'⟩ := back_ok p h o e q e2
            refine post v F' H' p2 ⟨?_, rel.2.back p⟩
            have ot := rel.1
            have fr := rel.2
            cases z with
            | d x => exact ot
            | F f => exact ot
            | Z kvs => exact ot
            | L xs =>
              obtain ⟨a, ws, rfl, h1, h2, h3, _⟩ := ot
              refine ⟨a, ws, rfl, h1, h2, h3, fun z => ?_⟩
              have e0 := fr rfl a rfl
              rcases (p.st.kind (own' a z)).1 with ⟨_, y⟩ | ⟨_, y⟩ | ⟨_, y⟩ <;> · rw [y] at e0; exact e0.elim
            | M t kvs =>
              obtain ⟨a, rfl, h1, h3, _⟩ := ot
              refine ⟨a, rfl, h1, h3, fun z => ?_⟩
              have e0 := fr rfl a rfl
              rcases (p.st.kind (own' a z)).1 with ⟨_, y⟩ | ⟨_, y⟩ | ⟨_, y⟩ <;> · rw [y] at e0; exact e0.elim
            | bor i => exact absurd rfl nb
      | exc c r =>
        rw [ec] at post
        simp only at post
        cases e2 : handB ρ os r with
        | none => rw [e2] at post; exact post.elim
        | some ρ2 =>
          rw [e2] at post
          intro F' H' q
          obtain ⟨p2, _⟩ := back_ok p h o e q e2
          exact post F' H' p2
  · exact post.elim
/-- a call of a def by its name -/
theorem pe_callU {b : Bool} {CX : CXT} {k : Nat} {f : Addr} {fd : FuncData} {ps : List Str} {sp : Sp} {x : Str} {p pos : Pos} {e : Expr} {es : List Expr} {t : TA} (F : FnU b X.prog X.w X.K X.mg X.base CX k f fd ps sp) (gd : b = true → X.A.guards = some []) (hr : Room k X.A) (hg : Gl X x) (hm : X.mg x = some (.ref f)) (hk : PySem.W.keepIn X.K (.ref f) = true) (hb : Binds X.K fd ps []) (hx : Passes CX X E)
    (ha : PA X (e :: es) t) (hdb : (x == ("__debug__" : Str)) = false) (he : starEach (e :: es) X.env = (false, eval e X.env) :: starEach es X.env) (hpl : (backTo pos (starEach es X.env)).any (·.1) = false) : PE X (.Call (.Name x p) (e :: es) [] pos) (tCall sp [] E t) := by
  constructor
  intro pins s σ H Q I h
  apply wpAny_Call_Name_kw
  apply ld_glob I hg hm _ hdb
  apply PySem.W.callWith_K (h₀ := X.base) I.ok.mod.kin hk _ he hpl
  apply thn (ha.run pos pins s σ H _ I h)
  intro us s1 ⟨vs, H1, I1, r, q⟩
  have q : sp (vs ++ []) H1 Q E := q
  rw [List.append_nil] at q
  refine ⟨I1.kIn, wpAny_call (codeAny_mono (F.run X.A X.stack s1 H1 ⟨us, []⟩ us vs Q E gd hr I1.env0 ?_ r q) ?_)⟩
  · have := hb s1 us I1.kIn (by rw [List.append_nil, ← r.length]; exact F.len _ _ _ _ q)
    rwa [List.append_nil] at this
  · intro a s' c
    match a, c with
    | .error e, c => exact hx pins σ H1 s1 e s' I1 c
    | .ok (.ret u), c => exact I1.after c
/-- f(..) -/
theorem snd_call {c : Cs} {f : Nat} {x : Str} {e : Expr} {es : List Expr} {g : Ev → R (List O)} {p pos : Pos} (G : Good Y n c E X) (K : Fok Y n) (hf : Y.nm.fns[f]? = some x) (hg : Gl X x) (hd : (x == ("__debug__" : Str)) = false)
    (ha : PA X (e :: es) (LA Y.Z E g)) (hs : (e :: es).all (fun e => !isStar e) = true) (har : ∀ ρ os ρ1, g ρ = .ok os ρ1 → os.length = Y.ar f) : PE X (.Call (.Name x p) (e :: es) [] pos) (LE Y.Z E fun ρ => (g ρ).bind fun os ρ1 => callF Y.C n f os ρ1) := by
  obtain ⟨a, fd, ps, hm, hk, hb, FO⟩ := K.fn f x hf
  have FO := FO n (Nat.le_refl _)
  rw [← G.prog, ← G.w, ← G.K, ← G.mg, ← G.base] at FO
  rw [← G.mg] at hm
  rw [← G.K] at hk hb
  have red : ∀ σ H Q, LE Y.Z E (fun ρ => (g ρ).bind fun os ρ1 => callF Y.C n f os ρ1) σ H Q → LA Y.Z E g σ H fun vs H1 => spF Y n f (vs ++ []) H1 Q E := fun σ H Q ⟨F0, H0, ρ0, F, ρ, p, post⟩ => by
    refine runE p post fun os ρ1 vs F1 H1 eg p1 p01 r post => ?_
    rw [List.append_nil]
    exact call_sp p01 (OutL.back p r) (by rw [← OutL.len r]; exact har ρ os ρ1 eg) post
  have h1 : isStar e = false ∧ es.all (fun e => !isStar e) = true := by
    simpa only [List.all_cons, Bool.and_eq_true, Bool.not_eq_true'] using hs
  exact peImp (pe_callU FO G.gd G.room hg hm hk hb G.pass ha hd (star_cons h1.1) (star_none h1.2)) fun σ H Q q => red σ H Q q
end
end Ev
/-! Ev85: repr(a) == repr(b), where nothing else is being shown. -/
namespace Ev
open PySem PySem.Spec PyProof.Rows L2
section
variable {Z : Wo} {F : Fz} {H : Hp}
theorem small_log {i : Int} (h1 : -1000000000000 < i) (h2 : i < 1000000000000) : i.natAbs.log2 < 40 := by
  by_cases z : i.natAbs = 0
  · rw [z]; decide
  · rw [Nat.log2_lt z]
    have : (2 : Nat) ^ 40 = 1099511627776 := by decide
    omega
mutual
theorem shw_show (hs : StOk Z) : ∀ {x : D} {v : V}, Rp Z F H x v → smal x = true → PyData.showable (toPy Z x) = true ∧ PyData.intsShort 13 (toPy Z x) = true ∧ PyData.weight (toPy Z x) ≤ wgt x
  | .non, _, _, _ => ⟨rfl, rfl, Nat.zero_le _⟩
  | .bl _, _, _, _ => ⟨rfl, rfl, Nat.zero_le _⟩
  | .int i, _, _, h => by
    simp only [smal, Bool.and_eq_true, decide_eq_true_eq] at h
    have l := small_log h.1 h.2
    refine ⟨decide_eq_true (by omega), decide_eq_true (PyData.shown_int_le ?_), ?_⟩
    · have : (10 : Nat) ^ 12 = 1000000000000 := by decide
      omega
    · show (if (i == 0) = true then 0 else i.natAbs.log2 + 1) ≤ 40
      split <;> omega
  | .str n, _, r, _ => by
    simp only [Rp] at r
    obtain ⟨x, e, _⟩ := r
    have l := hs.len x (List.mem_of_getElem? e)
    simp only [toPy]
    rw [getD_of e]
    exact ⟨rfl, rfl, l⟩
  | .tup xs, _, r, h => by
    simp only [Rp] at r
    obtain ⟨_, _, _, _, r⟩ := r
    simp only [smal] at h
    obtain ⟨a, b, c⟩ := shws_show hs r h
    simp only [toPy, PyData.showable, PyData.intsShort, PyData.weight, wgt]
    exact ⟨a, b, c⟩
  | .lst xs, _, r, h => by
    simp only [Rp] at r
    obtain ⟨_, _, _, _, r⟩ := r
    simp only [smal] at h
    obtain ⟨a, b, c⟩ := shws_show hs r h
    simp only [toPy, PyData.showable, PyData.intsShort, PyData.weight, wgt]
    exact ⟨a, b, c⟩
theorem shws_show (hs : StOk Z) : ∀ {xs : List D} {vs : List V}, Rps Z F H xs vs → smals xs = true → PyData.showableAll (toPys Z xs) = true ∧ PyData.intsShortAll 13 (toPys Z xs) = true ∧ PyData.weightAll (toPys Z xs) ≤ wgts xs
  | [], _, _, _ => by simp only [toPys]; exact ⟨rfl, rfl, Nat.zero_le _⟩
  | x :: xs, _, r, h => by
    obtain ⟨_, _, _, r1, r2⟩ := r.inv
    simp only [smals, Bool.and_eq_true] at h
    obtain ⟨a, b, c⟩ := shw_show hs r1 h.1
    obtain ⟨a', b', c'⟩ := shws_show hs r2 h.2
    simp only [toPys, PyData.showableAll, PyData.intsShortAll, PyData.weightAll, wgts, a, b, a', b', Bool.and_self]
    refine ⟨trivial, trivial, by omega⟩
end
structure ShowOk (d : D) (p : PyData) : Prop where
  sh : p.showable = true
  nd : p.hasDict = false
  dp : p.depth ≤ 60
  sz : p.shown.length ≤ sizeLine
theorem show_ok (hs : StOk Z) {x : D} {v : V} (r : Rp Z F H x v) (h : shw x = true) : ShowOk x (toPy Z x) := by
  unfold shw at h
  simp only [Bool.and_eq_true, decide_eq_true_eq] at h
  obtain ⟨h1, h2, h3⟩ := h
  obtain ⟨a, b, c⟩ := shw_show hs r h2
  have d := lim_depth (Z := Z) h1
  have l := lay_of hs r
  have e : limit = 60 := rfl
  refine ⟨a, PyData.hasDict_of_canLay _ l, by omega, PyData.shown_fits_of_layable0 (by decide) (by decide) ?_ b⟩
  unfold PyData.layable0
  rw [l, decide_eq_true (by omega : (toPy Z x).depth ≤ 64), decide_eq_true (by have : (2 : Nat) ^ 20 = 1048576 := by decide
                                                                               omega : (toPy Z x).weight ≤ 2 ^ 20)]
  rfl
mutual
theorem beq_eq : ∀ {x y : D}, D.beq x y = true → x = y
  | .non, y, h => by cases y <;> simp [D.beq] at h <;> rfl
  | .bl a, y, h => by cases y <;> simp [D.beq] at h; rw [h]
  | .int a, y, h => by cases y <;> simp [D.beq] at h; rw [h]
  | .str a, y, h => by cases y <;> simp [D.beq] at h; rw [h]
  | .tup xs, y, h => by
    cases y <;> simp only [D.beq] at h <;> first | (rw [beqs_eq h]) | (cases h)
  | .lst xs, y, h => by
    cases y <;> simp only [D.beq] at h <;> first | (rw [beqs_eq h]) | (cases h)
theorem beqs_eq : ∀ {xs ys : List D}, D.beqs xs ys = true → xs = ys
  | [], ys, h => by cases ys <;> simp [D.beqs] at h <;> rfl
  | x :: xs, ys, h => by
    cases ys with
    | nil => simp [D.beqs] at h
    | cons y ys =>
      simp only [D.beqs, Bool.and_eq_true] at h
      rw [beq_eq h.1, beqs_eq h.2]
end
/-- the text of data -/
def rShow (Z : Wo) : List V → Hp → VK → Prop := fun vs H Q => ∃ F v d, vs = [v] ∧ Rp Z F H d v ∧ shw d = true ∧ Q (.str (toPy Z d).shown) H
end
section
variable {X : Cx} {Z : Wo}
theorem call_repr (hK : X.K = Z.K) (hs : StOk Z) (hu : X.A.units + 65 < cLine) (hg : X.A.guards = some []) : CallR X (.builtin "repr") (rShow Z) := by
  intro pins s σ H xs us Q I rv h
  obtain ⟨F, v, d, rfl, r, sh, q⟩ := h
  obtain ⟨u, rfl, ru⟩ := vals1 rv
  have ok := show_ok hs r sh
  have dp : Dp X.K H v (toPy Z d) := by rw [hK]; exact r.dp
  obtain ⟨as, rd⟩ := Dp.reads I (toPy Z d) v u dp ru
  have gone : ∀ (h' : Heap) (t tk : Tok), (∀ b o, s.heap.get? b = some o → h'.get? b = some o) → EP X pins σ Q (.str (toPy Z d).shown t) { s with heap := h', toks := tk } := fun h' t tk k => ⟨.str _, H, I.kept k, ⟨t, rfl⟩, q⟩
  have same : ∀ t : Tok, EP X pins σ Q (.str (toPy Z d).shown t) { s with toks := s.toks + 1 } := fun t => gone s.heap t _ fun b o e => e
  cases d with
  | non =>
    simp only [Rp] at r
    subst r
    cases ru
    exact PySem.P.repr_of_none (same _)
  | bl b =>
    simp only [Rp] at r
    subst r
    cases ru
    exact PySem.P.repr_of_bool (same _)
  | int i =>
    simp only [Rp] at r
    subst r
    obtain ⟨t, rfl⟩ := ru
    have z := ok.sh
    exact PySem.P.repr_of_int (of_decide_eq_true z) (same _)
  | str n =>
    simp only [Rp] at r
    obtain ⟨x, e, rfl⟩ := r
    obtain ⟨t, rfl⟩ := ru
    have z := ok.sz
    have ep : toPy Z (.str n) = .str x := by simp only [toPy]; rw [getD_of e]
    rw [ep] at z same
    exact PySem.P.repr_of_str (same _) z
  | tup xs =>
    simp only [Rp] at r
    obtain ⟨a, vs, rfl, _, _⟩ := r
    cases ru
    exact repr_of_reads' rd ok.sh (PyData.noDict_hsm ok.nd) hg (by have := ok.dp; omega) (fun b o e => e) (fun h' u tk k => gone h' u tk k) ok.sz
  | lst xs =>
    simp only [Rp] at r
    obtain ⟨a, vs, rfl, _, _⟩ := r
    cases ru
    exact repr_of_reads' rd ok.sh (PyData.noDict_hsm ok.nd) hg (by have := ok.dp; omega) (fun b o e => e) (fun h' u tk k => gone h' u tk k) ok.sz
end
section
variable {X : Cx} {Z : Wo} {E : XK} {α : Type}
theorem shown_ok {F : Fz} {H : Hp} {o : O} {v : V} {d : D} (r : Rv Z F H o v) (e : shown o = some d) : ∃ G : Fz, Rp Z G H d v ∧ shw d = true := by
  unfold shown at e
  obtain ⟨x, e1, e2⟩ := Option.bind_eq_some_iff.mp e
  split at e2
  · rename_i h
    cases e2
    obtain ⟨G, q⟩ := look_dp r e1
    exact ⟨G, q, h⟩
  · cases e2
theorem asT_opt {o : Option α} {k : α → R O} : asT (R.opt o k) = R.opt o fun x => asT (k x) := by cases o <;> rfl
/-- == and != of two texts -/
def rTx (ne : Bool) : R2 := fun x y H Q => ∃ a b, x = V.str a ∧ y = V.str b ∧ Q (.bl (if ne then !decide (a = b) else decide (a = b))) H
theorem op_tx (ne : Bool) {op : CmpOp} (hop : op = if ne then .NotEq else .Eq) : OpR X (compareOp op) (rTx ne) := by
  subst hop
  intro pins s σ H x y v u Q I rx ry h
  obtain ⟨a, b, rfl, rfl, q⟩ := h
  have e : decide (V.str a = V.str b) = decide (a = b) := by
    rw [Bool.eq_iff_iff]
    simp
  cases ne with
  | true => exact op_ne pins s σ H _ _ v u Q I rx ry ⟨rfl, by rw [e]; exact q⟩
  | false => exact op_eq pins s σ H _ _ v u Q I rx ry ⟨rfl, by rw [e]; exact q⟩
theorem req_mk {op : CmpOp} {a b : Expr} {f g : Ev → R O} {p1 q1 p2 q2 : Pos} (hK : X.K = Z.K) (hs : StOk Z) (hu : X.A.units + 65 < cLine) (hg : X.A.guards = some []) (hr : Gl X "repr") (hm : X.mg "repr" = none)
    (ha : PE X a (LE Z E f)) (sa : isStar a = false) : PE X (.Call (.Name "repr" p1) [a] [] q1) (tCB (rShow Z) (tCons (LE Z E f) tNil)) :=
  pe_callB (call_repr hK hs hu hg) hr hm (by decide +kernel) (pa_cons ha pa_nil (star_cons sa)) (by decide) (by decide) (star_cons sa) rfl
theorem snd_req {ne : Bool} {op : CmpOp} {a b : Expr} {f g : Ev → R O} {p1 q1 p2 q2 pos : Pos} (hop : op = if ne then .NotEq else .Eq) (hK : X.K = Z.K) (hs : StOk Z) (hu : X.A.units + 65 < cLine) (hg : X.A.guards = some []) (hr : Gl X "repr") (hm : X.mg "repr" = none)
    (ha : PE X a (LE Z E f)) (hb : PE X b (LE Z E g)) (sa : isStar a = false) (sb : isStar b = false) :
    PE X (.Compare (.Call (.Name "repr" p1) [a] [] q1) [op] [.Call (.Name "repr" p2) [b] [] q2] pos) (LE Z E fun ρ => (f ρ).bind fun x ρ1 => R.opt (shown (rs ρ1 x)) fun d => (g ρ1).bind fun y ρ2 => reqS ne d (rs ρ2 y) ρ2) := by
  have m1 := req_mk (op := op) (b := b) (g := g) (p1 := p1) (q1 := q1) (p2 := p2) (q2 := q2) hK hs hu hg hr hm ha sa
  have m2 := req_mk (op := op) (b := a) (g := f) (p1 := p2) (q1 := q2) (p2 := p1) (q2 := q1) hK hs hu hg hr hm hb sb
  refine peImp (pe_cmpR (op_tx ne hop) m1 m2 (by cases op <;> rfl)) fun σ H Q q => ?_
  show LE Z E f σ H fun x H1 => rShow Z [x] H1 fun t H1' => LE Z E g σ H1' fun y H2 => rShow Z [y] H2 fun u H2' => rTx ne t u H2' Q
  refine one q fun x ρ1 v F1 H1 F0 H0 ρ0 p o fr post => ?_
  cases e : shown (rs ρ1 x) with
  | none => rw [e] at post; exact post.elim
  | some d =>
    rw [e] at post
    obtain ⟨G, r, sh⟩ := shown_ok (o.rv p.st) e
    refine ⟨G, v, d, rfl, r, sh, ?_⟩
    refine run p post fun y ρ2 w F2 H2 p12 p02 r2 q2 => ?_
    unfold reqS at q2
    cases e2 : shown (rs ρ2 y) with
    | none => rw [e2] at q2; exact q2.elim
    | some d2 =>
      rw [e2, R.opt_some] at q2
      split at q2
      · rename_i hb
        have ed := beq_eq hb
        subst ed
        obtain ⟨G2, r2', sh2⟩ := shown_ok (r2.1.rv p02.st) e2
        refine ⟨G2, w, d, rfl, r2', sh2, _, _, rfl, rfl, ?_⟩
        rw [decide_eq_true rfl]
        have q3 := fin_new p02 q2 (new_bl (!ne))
        cases ne <;> exact q3
      · exact q2.elim
theorem snd_reqT {ne : Bool} {op : CmpOp} {a b : Expr} {f g : Ev → R O} {p1 q1 p2 q2 pos : Pos} (hop : op = if ne then .NotEq else .Eq) (hK : X.K = Z.K) (hs : StOk Z) (hu : X.A.units + 65 < cLine) (hg : X.A.guards = some []) (hr : Gl X "repr") (hm : X.mg "repr" = none)
    (ha : PE X a (LE Z E f)) (hb : PE X b (LE Z E g)) (sa : isStar a = false) (sb : isStar b = false) :
    PT X (.Compare (.Call (.Name "repr" p1) [a] [] q1) [op] [.Call (.Name "repr" p2) [b] [] q2] pos) (LT Z E fun ρ => asT ((f ρ).bind fun x ρ1 => R.opt (shown (rs ρ1 x)) fun d => (g ρ1).bind fun y ρ2 => reqS ne d (rs ρ2 y) ρ2)) := by
  have m1 := req_mk (op := op) (b := b) (g := g) (p1 := p1) (q1 := q1) (p2 := p2) (q2 := q2) hK hs hu hg hr hm ha sa
  have m2 := req_mk (op := op) (b := a) (g := f) (p1 := p2) (q1 := q2) (p2 := p1) (q2 := q1) hK hs hu hg hr hm hb sb
  refine ptImp (pt_cmpR (op_tx ne hop) m1 m2 (by cases op <;> rfl)) fun σ H Q q => ?_
  simp only [asT_bind, asT_opt] at q
  show LE Z E f σ H fun x H1 => rShow Z [x] H1 fun t H1' => LE Z E g σ H1' fun y H2 => rShow Z [y] H2 fun u H2' => rTx ne t u H2' fun z H' => ∃ k, z = .bl k ∧ Q k H'
  refine one q fun x ρ1 v F1 H1 F0 H0 ρ0 p o fr post => ?_
  cases e : shown (rs ρ1 x) with
  | none => rw [e] at post; exact post.elim
  | some d =>
    rw [e] at post
    obtain ⟨G, r, sh⟩ := shown_ok (o.rv p.st) e
    refine ⟨G, v, d, rfl, r, sh, ?_⟩
    refine run p post fun y ρ2 w F2 H2 p12 p02 r2 q2 => ?_
    unfold reqS at q2
    cases e2 : shown (rs ρ2 y) with
    | none => rw [e2] at q2; exact q2.elim
    | some d2 =>
      rw [e2, R.opt_some] at q2
      split at q2
      · rename_i hb
        have ed := beq_eq hb
        subst ed
        obtain ⟨G2, r2', sh2⟩ := shown_ok (r2.1.rv p02.st) e2
        refine ⟨G2, w, d, rfl, r2', sh2, _, _, rfl, rfl, ?_⟩
        rw [decide_eq_true rfl]
        have q3 := fin_t p02 q2
        cases ne <;> exact ⟨_, rfl, q3⟩
      · exact q2.elim
end
end Ev
/-! Ev80: enumerate of a tuple. -/
namespace PySem
set_option maxHeartbeats 1000000 in
theorem ev_meets_enumerate {v : Value} {o : Obj} {H : Heap → Prop} (B : Begins v o H) :
    Meets (Builtin.«enumerate.__new__» ⟨[.type "enumerate", v], []⟩) (fun _ R s => H s.heap ∧
      R (.ok (.ret (.ref (s.heap.push o).objs.size))) { s with heap := (s.heap.push o).push { cls := .type "enumerate", data := .fields #[.none, .bool false, .ref s.heap.objs.size, rawInt 0, .none, .none] } }) :=
  .of_wp fun prog w A R s h => by
    obtain ⟨hp, g, d, tk, os⟩ := s; obtain ⟨h1, h⟩ := h
    have hsub := sub_enumerate
    have q1 : ∀ {A' : Around} {E : Value → Shared → Prop} {Q : Value → Shared → Prop}, Q (.ref hp.objs.size) ⟨hp.push o, g, d, tk, os⟩ → wpAny (model prog w) A' (pyIter v) Q E ⟨hp, g, d, tk, os⟩ :=
      fun q => B.iter prog w _ _ ⟨hp, g, d, tk, os⟩ _ h1 q
    wp_walk using q1
    refine wpAny_stack_any fun st => wpAny_pure ?_
    split
    · rename_i c _ _ _ _ _
      cases (c == Value.type "enumerate")
      · wp_walk using q1
        exact ⟨_, rfl, h⟩
      · wp_walk using q1
        exact ⟨_, rfl, h⟩
    · wp_walk using q1
      exact ⟨_, rfl, h⟩
theorem ev_call_enumerate {prog : Program} {w : World} {A : Around} {E : Value → Shared → Prop} {s : Shared} {v : Value} {o : Obj} {H : Heap → Prop} {Q : Value → Shared → Prop} (B : Begins v o H) (h1 : H s.heap)
    (h : ∀ h', IsEnum h' (s.heap.objs.size + 1) s.heap.objs.size 0 .none → h'.get? s.heap.objs.size = some o → h'.objs.size = s.heap.objs.size + 2 →
      (∀ b o, s.heap.get? b = some o → h'.get? b = some o) → Q (.ref (s.heap.objs.size + 1)) { s with heap := h' }) :
    wpAny (model prog w) A (call (.type "enumerate") [v]) Q E s := by
  refine callType_new F.called_enumerate (by decide) (F.typeCall_enumerate_1 _) (F.newCall_enumerate_1 _) (fun obj => F.args_object_init_2 obj _) F.entry_enumerate_new
    (ev_meets_enumerate B) ⟨h1, ?_⟩
  have hz : (s.heap.push o).objs.size = s.heap.objs.size + 1 := Heap.size_push ..
  show _ ∧ _
  rw [hz]
  have he : IsEnum ((s.heap.push o).push { cls := .type "enumerate", data := .fields #[.none, .bool false, .ref s.heap.objs.size, rawInt 0, .none, .none] }) (s.heap.objs.size + 1) s.heap.objs.size 0 .none := by
    have := Heap.get?_push_size (s.heap.push o) (o := { cls := .type "enumerate", data := .fields #[.none, .bool false, .ref s.heap.objs.size, rawInt 0, .none, .none] }) rfl
    rw [hz] at this; exact this
  refine ⟨⟨_, he, rfl⟩, h _ he (Heap.get?_push_of_some _ (Heap.get?_push_size _ B.free)) (by rw [Heap.size_push, hz]) fun b o x => Heap.get?_push_of_some _ (Heap.get?_push_of_some _ x)⟩
end PySem
namespace Ev
open PySem PySem.Spec PyProof.Rows L2
/-- the tuple at a as it stands at each turn, each item in a new pair -/
def IteT (K : PySem.W.Frag) (a : Addr) : It :=
  ⟨fun i H => ∃ (xs : List V) (x : V), SqT K H a xs ∧ xs[i]? = some x, fun i H v H' => ∃ T x, v = .ref T ∧ H T = none ∧ H' = upd H T (.tup [.int (i : Nat), x]) ∧ ∀ xs, SqT K H a xs → xs[i]? = some x, fun i H => ∃ xs : List V, SqT K H a xs ∧ xs.length ≤ i⟩
theorem turn_enumT {P : Program} {w : World} {K : PySem.W.Frag} {elts : List Expr} {kk : Nat} {tpos : Pos} (a e it : Addr) :
    Turn P w K (.Tuple elts kk tpos) (IteT K a) [e, it] e (fun i h => (∃ old, IsEnum h e it ((i : Nat) : Int) old) ∧ h.IsTupleIter it a i ∧ e ≠ it ∧ a ≠ it ∧ a ≠ e) where
  mem := by simp
  obj := fun i h st b hb => by
    obtain ⟨⟨old, he⟩, ⟨o, ho, hc, hd⟩, _⟩ := st
    have e' : b = e ∨ b = it := by simpa using hb
    rcases e' with z | z
    · rw [z]; exact ⟨_, he, fun v q => nomatch q⟩
    · rw [z]; exact ⟨o, ho, fun v q => by rw [hd] at q; cases q⟩
  keep := fun i h h' st k => let ⟨⟨old, he⟩, hi, hne⟩ := st; ⟨⟨old, k e (by simp) _ he⟩, hi.at fun o q => k it (by simp) o q, hne⟩
  item := by
    intro X hP hw hK hc i pins s σ H E I hf st hg
    subst hP hw hK
    obtain ⟨⟨old, he⟩, hit, hne, hai, hae⟩ := st
    obtain ⟨xs, x, hq, hx⟩ := hg
    obtain ⟨its, rv, p, hz⟩ := I.tuple hq
    obtain ⟨u, hu, ru⟩ := rv.get hx
    have hel : e < s.heap.objs.size := Heap.lt_size he
    have hil : it < s.heap.objs.size := by obtain ⟨_, q, _⟩ := hit; exact Heap.lt_size q
    have hlt : i < its.toArray.size := by
      have : i < its.length := (List.getElem?_eq_some_iff.mp hu).1
      simpa using this
    refine wpAny_pyNext_enum_itemD (Draws.tuple (A := X.A.in1) (show X.A.in1.handled = none from I.ok.hd hc) it a hai its.toArray) he ⟨hit, show s.heap.IsTuple a its.toArray from p⟩ hlt hne (by
      intro z
      rcases List.mem_cons.mp z with z | z
      · exact hne z
      · exact hae (List.mem_singleton.mp z).symm) fun x1 h' tk hx1 ho hit' hT hsz hk => ?_
    obtain rfl : x1 = u := by
      rw [List.getElem?_toArray, hu] at hx1
      exact (Option.some.inj hx1).symm
    refine ⟨_, rfl, wpAny_letOwnedTupleGo_enum (s := { s with heap := h', toks := tk + 1 }) ho fun h'' he' sb => ?_⟩
    have hT2 : h''.get? s.heap.objs.size = some { cls := .type "tuple", data := .seq #[.int i tk, x1] } := (sb.2 _ (Nat.ne_of_gt hel)).trans hT
    have new : ObjOk X.prog X.w (upd H s.heap.objs.size (.tup [.int (i : Nat), x])) h'' s.heap.objs.size (.tup [.int (i : Nat), x]) :=
      ⟨by show 2 ≤ sizeLine; decide, [.int i tk, x1], .cons ⟨_, rfl⟩ (.cons ru .nil), ⟨_, hT2, rfl, _, rfl⟩⟩
    have I1 : Inv X pins σ (upd H s.heap.objs.size (.tup [.int (i : Nat), x])) { s with heap := h'', toks := tk + 1 } :=
      I.turnedNew (ch := [e, it]) (fun b ob hb q => (sb.2 b (fun z => hb (by simp [z]))).trans (hk b ob (fun z => hb (by simp [z])) (fun z => hb (by simp [z])) q)) hf (Nat.le_refl _) new
    refine ⟨.ref s.heap.objs.size, _, I1, rfl, ⟨_, x, rfl, I.hok.fresh (Nat.le_refl _), rfl, fun ys hy => by rw [I.tuple_inj hy hq]; exact hx⟩, ⟨⟨x1, ?_⟩, hit'.1.at fun o q => (sb.2 it (Ne.symm hne)).trans q, hne, hai, hae⟩, fun b hb => ?_⟩
    · have e1 : ((i + 1 : Nat) : Int) = (i : Int) + 1 := by omega
      rw [e1]; exact he'
    · have hb' : b < s.heap.objs.size := by
        have e' : b = e ∨ b = it := by simpa using hb
        rcases e' with z | z
        · rw [z]; exact hel
        · rw [z]; exact hil
      rw [upd_ne (Nat.ne_of_lt hb')]
      exact (hf b hb).1
  done := by
    intro X hP hw hK hc i pins s σ H E I hf st hg
    subst hP hw hK
    obtain ⟨⟨old, he⟩, hit, hne, hai, hae⟩ := st
    obtain ⟨xs, hq, hx⟩ := hg
    obtain ⟨its, rv, p, hz⟩ := I.tuple hq
    obtain ⟨f0, f1, f2, f3, f4, f5⟩ := hf it (by simp)
    have hl := rv.length
    exact ev_enum_end (I.ok.hd hc) he hit (show s.heap.IsTuple a its.toArray from p) (by simp; omega) fun h' eb => ⟨rfl, I.turned (t' := s.toks) (fun b o hb q => eb b o hb q) f0 f1 f3 f4 f5⟩
  self := fun A i s Q E st h => let ⟨⟨_, he⟩, _⟩ := st; wpAny_pyIter_enum he h
where
  ev_enum_end {prog : Program} {w : World} {A : Around} {E : Value → Shared → Prop} {s : Shared} {e it l : Addr} {i : Nat} {items : Array Value} {old : Value} {Q : Option Value → Shared → Prop} (hh : A.handled = none)
    (he : IsEnum s.heap e it i old) (hit : s.heap.IsTupleIter it l i) (hl : s.heap.IsTuple l items) (hx : items[i]? = none)
    (hQ : ∀ h', Heap.ExtBut it s.heap h' → Q none { s with heap := h' }) : wpAny (model prog w) A (pyNext (.ref e)) Q E s := by
    have hT : s.TypeIs (.ref e) "enumerate" := ⟨_, he, rfl⟩
    unfold pyNext
    refine wpAny_bind (wpAny_attempt (wpAny_callSpecial?_slot (name := Str.ofString "__next__") hT F.slot_enumerate_next
      (wpAny_call_entry F.slot_enumerate_next hT F.entry_enumerate_next ?_ (F.args_enumerate_next_1 _))))
    show wpAny _ _ (field (.ref e) 2 >>= _) _ _ _
    refine wpAny_bind (wpAny_field he rfl (x := .ref it) rfl ?_)
    refine wpAny_bind (wpAny_nextOf_tuple_end hh hit hl hx fun h' x he' hx' => ?_)
    obtain ⟨o, ho, hc⟩ := hx'
    refine wpAny_bind (wpAny_isInstance (T := "StopIteration") (b := true) ⟨o, ho, hc⟩ isSubtype_stop ?_)
    exact wpAny_pure (hQ _ he')
/-- enumerate of a list, of a tuple -/
def iEnumA (K : PySem.W.Frag) (ta : TA) : TI := fun σ H R => ta σ H fun vs H1 => ∃ a xs, vs = [.ref a] ∧ ((SqL K H1 a xs ∧ R (Ite K a) H1) ∨ (SqT K H1 a xs ∧ R (IteT K a) H1))
theorem pi_enumA {X : Cx} {e : Expr} {ta : TA} {p pos tpos : Pos} {elts : List Expr} {kk : Nat} (hg : Gl X "enumerate") (hm : X.mg "enumerate" = none) (ha : PA X [e] ta) (hs : starEach [e] X.env = [(false, eval e X.env)] := by rfl) :
    PI X (.Tuple elts kk tpos) (.Call (.Name "enumerate" p) [e] [] pos) (iEnumA X.K ta) := by
  refine ⟨fun pins s σ H R I h => ?_⟩
  refine Call_ (ld_blt I hg hm boot_enumerate (PyProof.Rows.callWith_type1 (thn (ha.run pos pins s σ H _ I h) fun us s1 ⟨vs, H1, I1, r1, q1⟩ => ?_) hs rfl))
  obtain ⟨a, xs, ex, q1⟩ := q1
  subst ex
  cases r1 with
  | cons r rr =>
    cases rr
    cases r
    have fr2 : ∀ b, b ∈ [s1.heap.objs.size + 1, s1.heap.objs.size] → FpOk X pins H1 b := fun b hb => by
      have e' : b = s1.heap.objs.size + 1 ∨ b = s1.heap.objs.size := by simpa using hb
      have hle : s1.heap.objs.size ≤ b := by
        rcases e' with z | z
        · rw [z]; exact Nat.le_add_right _ _
        · rw [z]; exact Nat.le_refl _
      exact I1.fpOk hle (I1.hok.fresh hle)
    rcases q1 with ⟨hq, q⟩ | ⟨hq, q⟩
    · obtain ⟨its, rv, p', hz⟩ := I1.list hq
      refine call_enumerate_list p'.isList fun h' he hit hsz hk => wpAny_pyIter_enum he ?_
      have I2 : Inv X pins σ H1 { s1 with heap := h' } := I1.kept (t' := s1.toks) hk
      exact ⟨s1.heap.objs.size + 1, [s1.heap.objs.size + 1, s1.heap.objs.size], _, _, H1, rfl, I2, turn_enum a (s1.heap.objs.size + 1) s1.heap.objs.size, ⟨⟨.none, he⟩, hit, Nat.succ_ne_self _⟩, fr2, q⟩
    · obtain ⟨its, rv, p', hz⟩ := I1.tuple hq
      obtain ⟨o1, ho1, _⟩ := id p'
      have hal : a < s1.heap.objs.size := Heap.lt_size ho1
      refine ev_call_enumerate (begins_tuple a its.toArray) (show s1.heap.IsTuple a its.toArray from p') fun h' he hit hsz hk => wpAny_pyIter_enum he ?_
      have I2 : Inv X pins σ H1 { s1 with heap := h' } := I1.kept (t' := s1.toks) hk
      exact ⟨s1.heap.objs.size + 1, [s1.heap.objs.size + 1, s1.heap.objs.size], _, _, H1, rfl, I2, turn_enumT a (s1.heap.objs.size + 1) s1.heap.objs.size, ⟨⟨.none, he⟩, ⟨_, hit, rfl, rfl⟩, Nat.succ_ne_self _, Nat.ne_of_lt hal, Nat.ne_of_lt (Nat.lt_succ_of_lt hal)⟩, fr2, q⟩
end Ev
/-! Ev81: dicts of int keys, by values. -/
namespace Ev
open PySem PySem.Spec PyProof.Rows L2
section
variable {X : Cx} {Z : Wo} {F : Fz} {H : Hp}
theorem key_int {k : Key} {x : D} {i : Int} (h : keyD Z k x) : (eqb x (.int i) = true) = (k = .inl i) := by
  cases k with
  | inl j =>
    obtain rfl : x = .int j := h
    simp [eqb]
  | inr s =>
    obtain ⟨n, _, rfl⟩ := h
    simp [eqb]
theorem key_dec {k : Key} {x : D} {i : Int} (h : keyD Z k x) : eqb x (.int i) = decide (k = .inl i) := by
  rw [Bool.eq_iff_iff]
  simp only [decide_eq_true_eq]
  exact Iff.of_eq (key_int h)
theorem dk_find {i : Int} : ∀ {ps : List (Key × V)} {kvs : List (D × D)}, Paired (DicK Z F H) ps kvs → (match findK (.int i) kvs with
    | some d => ∃ v, valV ps (.inl i) = some v ∧ Rp Z F H d v
    | none => valV ps (.inl i) = none)
  | _, _, .nil => rfl
  | p :: ps, q :: kvs, .cons h t => by
    obtain ⟨h1, h2⟩ := h
    obtain ⟨x, d⟩ := q
    have e := key_int (i := i) h1
    by_cases b : p.1 = .inl i
    · have b2 : eqb x (.int i) = true := by rw [e]; exact b
      simp only [findK, b2, if_true]
      exact ⟨p.2, valV_pos b, h2⟩
    · have b2 : ¬ eqb x (.int i) = true := by rw [e]; exact b
      simp only [findK, if_neg b2]
      rw [valV_neg b]
      exact dk_find t
theorem dk_any {i : Int} : ∀ {ps : List (Key × V)} {kvs : List (D × D)}, Paired (DicK Z F H) ps kvs → (ps.any fun kv => decide (kv.1 = .inl i)) = kvs.any fun p => eqb p.1 (.int i)
  | _, _, .nil => rfl
  | p :: ps, q :: kvs, .cons h t => by
    rw [List.any_cons, List.any_cons, dk_any t, key_dec h.1]
theorem dk_put {i : Int} {d : D} {v : V} {ps : List (Key × V)} {kvs : List (D × D)} (h : Paired (DicK Z F H) ps kvs) (r : Rp Z F H d v) : Paired (DicK Z F H) (L2.putK ps (.inl i) v) (putK (.int i) d kvs) := by
  unfold L2.putK putK
  rw [dk_any h]
  split
  · exact go h
  · exact Paired.snoc h ⟨rfl, r⟩
where
  go : ∀ {ps : List (Key × V)} {kvs : List (D × D)}, Paired (DicK Z F H) ps kvs → Paired (DicK Z F H) (ps.map fun (kv : Key × V) => if kv.1 = (Sum.inl i : Key) then (kv.1, v) else kv) (kvs.map fun (p : D × D) => if eqb p.1 (.int i) = true then (p.1, d) else p)
    | _, _, .nil => .nil
    | p :: ps, q :: kvs, .cons h t => by
      rw [List.map_cons, List.map_cons]
      refine .cons ?_ (go t)
      have e := key_int (i := i) h.1
      by_cases b : p.1 = .inl i
      · have b2 : eqb q.1 (.int i) = true := by rw [e]; exact b
        rw [if_pos b, if_pos b2]
        exact ⟨h.1, r⟩
      · have b2 : ¬ eqb q.1 (.int i) = true := by rw [e]; exact b
        rw [if_neg b, if_neg b2]
        exact h
/-- a dict as it stands -/
theorem dict_at {o : O} {v : V} {kvs : List (D × D)} (r : Rv Z F H o v) (e : dictOf o = some kvs) : ∃ a ps, v = .ref a ∧ Rd H a (.dK ps) ∧ Paired (DicK Z F H) ps kvs := by
  unfold dictOf at e
  split at e
  · cases e
    obtain ⟨a, rfl, ps, h1, h2⟩ := r
    exact ⟨a, ps, rfl, .inl h1, h2⟩
  · cases e
    obtain ⟨a, rfl, o, ps, h1, h2⟩ := r
    exact ⟨a, ps, rfl, .inr ⟨o, h1⟩, h2⟩
  · cases e
theorem keyOk_of {k : D} (h : keyOk k = true) : ∃ i, k = .int i := by
  cases k <;> first | exact ⟨_, rfl⟩ | (simp [keyOk] at h)
/-! ### d[k] -/
theorem ix_dictV (hu : X.A.units + 1 < cLine) : IxR X (fun x y H Q => ∃ a v, x = .ref a ∧ DGet H a y (some v) ∧ Q v H) := by
  intro value slice pins s σ H x y v u Q I rx ry ⟨a, w, ex, g, q⟩ hs
  subst ex
  obtain rfl : v = Value.ref a := rx
  exact tail_any (dict_typeIs I g) PySem.F.slot_dict_getitem.lookup (d_getItem hu I g ry fun w' s3 I3 rw' => ⟨w, H, I3, rw', q⟩) hs
theorem dget_of {a : Addr} {ps : List (Key × V)} {kvs : List (D × D)} {i : Int} (h : Rd H a (.dK ps)) (p : Paired (DicK Z F H) ps kvs) : (∃ d v, findK (.int i) kvs = some d ∧ DGet H a (.int i) (some v) ∧ Rp Z F H d v) ∨ (findK (.int i) kvs = none ∧ DGet H a (.int i) none) := by
  have q := dk_find (i := i) p
  cases e : findK (.int i) kvs with
  | none =>
    rw [e] at q
    exact .inr ⟨rfl, .inl ⟨ps, .inl i, h, rfl, q.symm⟩⟩
  | some d =>
    rw [e] at q
    obtain ⟨v, e1, r⟩ := q
    exact .inl ⟨d, v, rfl, .inl ⟨ps, .inl i, h, rfl, e1.symm⟩, r⟩
theorem ix_dictO {x y : V} {o o2 : O} {kvs : List (D × D)} {d : D} (ra : Rv Z F H o x) (rb : Rv Z F H o2 y) (e0 : dictOf o = some kvs) (e : ixDict kvs o2 = some d) : ∃ a v, x = .ref a ∧ DGet H a y (some v) ∧ Rp Z F H d v := by
  obtain ⟨a, ps, rfl, h, p⟩ := dict_at ra e0
  unfold ixDict at e
  split at e
  · split at e
    · rename_i k hk
      obtain ⟨i, rfl⟩ := keyOk_of hk
      have ey : y = .int i := Rp.inv_int (Rv.d rb)
      subst ey
      rcases dget_of (i := i) h p with ⟨d', v, e1, g, r⟩ | ⟨e1, _⟩
      · rw [e1] at e
        cases e
        exact ⟨a, v, rfl, g, r⟩
      · rw [e1] at e
        cases e
    · cases e
  · cases e
theorem ix_O (hK : X.K = Z.K) (hu : X.A.units + 1 < cLine) : IxR X (rIxO Z index) := by
  refine ixImp ((ix_seqO hK).or (ix_dictV hu)) fun x y H Q ⟨F, a, b, d, ra, rb, e, q⟩ => ?_
  unfold index at e
  split at e
  · obtain ⟨p, v, ep, g, r⟩ := ix_dictO ra rb rfl e
    exact .inr ⟨p, v, ep, g, q v r⟩
  · obtain ⟨p, v, ep, g, r⟩ := ix_dictO ra rb rfl e
    exact .inr ⟨p, v, ep, g, q v r⟩
  · exact .inl ⟨F, _, b, d, ra, rb, e, q⟩
/-! ### k in d -/
theorem op_dinV (hu : X.A.units + 1 < cLine) : OpR X (compareOp .In) (fun x y H Q => ∃ a o, y = .ref a ∧ DGet H a x o ∧ Q (.bl o.isSome) H) := by
  intro pins s σ H x y v u Q I rx ry ⟨a, o, ey, g, q⟩
  subst ey
  obtain rfl : u = Value.ref a := ry
  exact d_in hu I g rx fun s3 I3 => ⟨.bl o.isSome, H, I3, rfl, q⟩
theorem op_dnotinV (hu : X.A.units + 1 < cLine) : OpR X (compareOp .NotIn) (fun x y H Q => ∃ a o, y = .ref a ∧ DGet H a x o ∧ Q (.bl (!o.isSome)) H) := by
  intro pins s σ H x y v u Q I rx ry ⟨a, o, ey, g, q⟩
  subst ey
  obtain rfl : u = Value.ref a := ry
  exact d_notIn hu I g rx fun s3 I3 => ⟨.bl (!o.isSome), H, I3, rfl, q⟩
theorem in_dictO {x y : V} {o o2 : O} {kvs : List (D × D)} {b : Bool} (ra : Rv Z F H o x) (rb : Rv Z F H o2 y) (e0 : dictOf o2 = some kvs) (e : inDict o kvs = some b) : ∃ a w, y = .ref a ∧ DGet H a x w ∧ w.isSome = b := by
  obtain ⟨a, ps, rfl, h, p⟩ := dict_at rb e0
  unfold inDict at e
  split at e
  · split at e
    · rename_i k hk
      obtain ⟨i, rfl⟩ := keyOk_of hk
      have ey : x = .int i := Rp.inv_int (Rv.d ra)
      subst ey
      cases e
      rcases dget_of (i := i) h p with ⟨d', v, e1, g, r⟩ | ⟨e1, g⟩
      · exact ⟨a, some v, rfl, g, by rw [e1]; rfl⟩
      · exact ⟨a, none, rfl, g, by rw [e1]; rfl⟩
    · cases e
  · cases e
theorem op_inO (hK : X.K = Z.K) (hs : StOk Z) (hu : X.A.units + 65 < cLine) : OpR X (compareOp .In) (rNb Z inO) := by
  have key := (op_inSeq hK hs hu).or (op_dinV (X := X) (by omega))
  intro pins s σ H x y v u Q I rx ry ⟨F, a, b, o, ra, rb, e, q⟩
  refine key pins s σ H x y v u Q I rx ry ?_
  unfold inO at e
  split at e
  · obtain ⟨p, w, ep, g, r⟩ := in_dictO ra rb rfl e
    exact .inr ⟨p, w, ep, g, by rw [r]; exact q⟩
  · obtain ⟨p, w, ep, g, r⟩ := in_dictO ra rb rfl e
    exact .inr ⟨p, w, ep, g, by rw [r]; exact q⟩
  · exact .inl ⟨F, a, _, o, ra, rb, e, q⟩
theorem op_notinO (hK : X.K = Z.K) (hs : StOk Z) (hu : X.A.units + 65 < cLine) : OpR X (compareOp .NotIn) (rNb Z fun a b => (inO a b).map (!·)) := by
  have key := (op_notinSeq hK hs hu).or (op_dnotinV (X := X) (by omega))
  intro pins s σ H x y v u Q I rx ry ⟨F, a, b, o, ra, rb, e, q⟩
  refine key pins s σ H x y v u Q I rx ry ?_
  obtain ⟨k, e', rfl⟩ := Option.map_eq_some_iff.mp (show (inO a b).map (!·) = some o from e)
  unfold inO at e'
  split at e'
  · obtain ⟨p, w, ep, g, r⟩ := in_dictO ra rb rfl e'
    exact .inr ⟨p, w, ep, g, by rw [r]; exact q⟩
  · obtain ⟨p, w, ep, g, r⟩ := in_dictO ra rb rfl e'
    exact .inr ⟨p, w, ep, g, by rw [r]; exact q⟩
  · exact .inl ⟨F, a, _, !k, ra, rb, (by show (inSeq a _).map (!·) = _; rw [e']; rfl), q⟩
/-! ### len, sorted, dict -/
theorem call_lenD2 : CallR X (.builtin "len") (fun xs H Q => ∃ a kvs, xs = [V.ref a] ∧ Rd H a (.dK kvs) ∧ Q (.int kvs.length) H) := by
  intro pins s σ H xs us Q I r h
  obtain ⟨a, kvs, rfl, ha, q⟩ := h
  obtain ⟨u, rfl, ru⟩ := vals1 r
  cases ru
  exact d_len I ha fun t s' I' => ⟨.int kvs.length, H, I', ⟨t, rfl⟩, q⟩
theorem cr_lenO (hK : X.K = Z.K) : CallR X (.builtin "len") (rC Z lenO) := by
  have dict : ∀ {o o2 : O} {vs : List V} {F : Fz} {H : Hp} {Q : VK} {kvs : List (D × D)}, RvL Z F H [o] vs → dictOf o = some kvs → lenD kvs = some o2 → (∀ v H', NewO Z F H o2 v H' → Q v H') → ∃ a ps, vs = [V.ref a] ∧ Rd H a (.dK ps) ∧ Q (.int ps.length) H := by
    intro o o2 vs F H Q kvs r e0 e q
    obtain ⟨v, rfl, rv⟩ := r.one
    obtain ⟨a, ps, rfl, h, p⟩ := dict_at rv e0
    unfold lenD at e
    cases e
    refine ⟨a, ps, rfl, h, ?_⟩
    rw [Paired.length p]
    exact q _ _ (new_int _)
  refine callImp ((cr_len hK).or call_lenD2) fun vs H Q ⟨F, os, o, r, e, q⟩ => ?_
  unfold lenO at e
  split at e
  · exact .inr (dict r rfl e q)
  · exact .inr (dict r rfl e q)
  · exact .inl ⟨F, _, o, r, e, q⟩
theorem dk_ints : ∀ {kvs : List (D × D)} {ps : List (Key × V)} {ns : List Int}, Paired (DicK Z F H) ps kvs → intsOf (kvs.map (·.1)) = some ns → ps.map (·.1) = ns.map Sum.inl
  | [], _, ns, .nil, e => by
    simp only [List.map_nil, intsOf, Option.some.injEq] at e
    rw [← e]
    rfl
  | q :: kvs, p :: ps, ns, .cons h t, e => by
    obtain ⟨x, d⟩ := q
    rw [List.map_cons] at e
    cases x with
    | int i =>
      simp only [intsOf] at e
      obtain ⟨ms, e1, rfl⟩ := Option.map_eq_some_iff.mp e
      rw [List.map_cons, List.map_cons, dk_ints t e1]
      have k : keyD Z p.1 (.int i) := h.1
      generalize p.1 = pk at k
      cases pk with
      | inl j =>
        have : D.int i = D.int j := k
        cases this
        rfl
      | inr s => obtain ⟨n, _, z⟩ := k; cases z
    | _ => simp only [intsOf] at e; cases e
theorem cr_sortedO (hK : X.K = Z.K) (hc : X.calm = true) : CallR X (.builtin "sorted") (rC Z sortO) := by
  have dict : ∀ {o o2 : O} {vs : List V} {F : Fz} {H : Hp} {Q : VK} {kvs : List (D × D)}, RvL Z F H [o] vs → dictOf o = some kvs → sortD kvs = some o2 → (∀ v H', NewO Z F H o2 v H' → Q v H') →
      ∃ (a : Addr) (ps : List (Key × V)) (ks : List Int), vs = [.ref a] ∧ Rd H a (.dK ps) ∧ ps.map (·.1) = ks.map Sum.inl ∧ ks.length < 64 ∧ ∀ (ys : List Int) (p : Addr), ys.Perm ks → ys.Pairwise (· ≤ ·) → H p = none → Q (.ref p) (upd H p (.lst (ys.map V.int))) := by
    intro o o2 vs F H Q kvs r e0 e q
    obtain ⟨v, rfl, rv⟩ := r.one
    obtain ⟨a, ps, rfl, h, p⟩ := dict_at rv e0
    obtain ⟨ns, en, e⟩ := Option.bind_eq_some_iff.mp e
    split at e
    · rename_i hl
      cases e
      refine ⟨a, ps, ns, rfl, h, dk_ints p en, hl, fun ys b hp hs hn => ?_⟩
      have e : ys = sortI ns := sorted_one (hp.trans (sortI_perm ns).symm) hs (sortI_sorted ns)
      rw [e]
      exact q _ _ (new_lst hn (Rps.ints _))
    · cases e
  refine callImp ((cr_sortO hK).or (call_sortedDI hc)) fun vs H Q ⟨F, os, o, r, e, q⟩ => ?_
  unfold sortO at e
  split at e
  · exact .inr (dict r rfl e q)
  · exact .inr (dict r rfl e q)
  · exact .inl ⟨F, _, o, r, e, q⟩
theorem pairs_at : ∀ {xs : List D} {ps : List (D × D)} {vs : List V}, pairsOf xs = some ps → (ps.all fun p => keyOk p.1) = true → Rps Z F H xs vs →
    ∃ (as : List Addr) (kvs : List (Key × V)), vs = as.map V.ref ∧ Paired (fun p kv => SqT Z.K H p [kV kv.1, kv.2]) as kvs ∧ Paired (DicK Z F H) kvs ps
  | [], ps, vs, e, _, r => by
    simp only [pairsOf, Option.some.injEq] at e
    subst e
    exact ⟨[], [], r.inv0, .nil, .nil⟩
  | x :: xs, ps, vs, e, hk, r => by
    unfold pairsOf at e
    split at e
    · rename_i h; cases h
    · rename_i a b xs' h
      cases h
      obtain ⟨qs, e1, rfl⟩ := Option.map_eq_some_iff.mp e
      rw [List.all_cons, Bool.and_eq_true] at hk
      obtain ⟨v, r', rfl, h1, h2⟩ := r.inv
      obtain ⟨as, kvs, e2, p1, p2⟩ := pairs_at e1 hk.2 h2
      obtain ⟨t, ws, rfl, sq, rr⟩ := Rp.inv_tup h1
      obtain ⟨w1, r1, rfl, g1, rr⟩ := rr.inv
      obtain ⟨w2, r2, rfl, g2, rr⟩ := rr.inv
      have := rr.inv0
      subst this
      obtain ⟨i, rfl⟩ := keyOk_of hk.1
      obtain rfl := Rp.inv_int g1
      exact ⟨t :: as, (.inl i, w2) :: kvs, by rw [e2]; rfl, .cons sq p1, .cons ⟨rfl, g2⟩ p2⟩
    · cases e
theorem dictFrom_at : ∀ {ps : List (D × D)} {kvs acc : List (Key × V)} {dacc : List (D × D)}, Paired (DicK Z F H) kvs ps → (ps.all fun p => keyOk p.1) = true → Paired (DicK Z F H) acc dacc → Paired (DicK Z F H) (mergeK acc kvs) (dictFrom dacc ps)
  | [], _, acc, dacc, .nil, _, h => by
    simp only [dictFrom]
    exact h
  | p :: ps, kv :: kvs, acc, dacc, .cons h t, hk, ha => by
    obtain ⟨x, d⟩ := p
    rw [List.all_cons, Bool.and_eq_true] at hk
    obtain ⟨i, ei⟩ := keyOk_of hk.1
    have ei : x = .int i := ei
    subst ei
    simp only [dictFrom]
    show Paired _ (mergeK (L2.putK acc kv.1 kv.2) kvs) _
    have k : kv.1 = .inl i := by rw [← key_int (Z := Z) h.1]; simp [eqb]
    rw [k]
    exact dictFrom_at t hk.2 (dk_put ha h.2)
theorem new_dict {ps : List (Key × V)} {kvs : List (D × D)} {a : Addr} (ha : H a = none) (p : Paired (DicK Z F H) ps kvs) : NewO Z F H (.M false kvs) (.ref a) (upd H a (.dK ps)) := by
  have sm : Same H (upd H a (.dK ps)) := fun b o e => by
    rw [upd_ne (fun z => by rw [z, ha] at e; cases e)]; exact e
  refine ⟨sm, a, rfl, ha, by rw [upd_same]; simp, ps, upd_same, L2.Paired.mapP p fun _ _ q => ⟨q.1, q.2.up (.of_same sm)⟩⟩
theorem cr_dictO (hK : X.K = Z.K) (hc : X.calm = true) : CallR X (.type "dict") (rC Z dictF) := by
  refine callImp (call_dictP hc) fun vs H Q ⟨F, os, o, r, e, q⟩ => ?_
  unfold dictF at e
  split at e
  · obtain ⟨xs, ei, e⟩ := Option.bind_eq_some_iff.mp e
    obtain ⟨ps, ep, e⟩ := Option.bind_eq_some_iff.mp e
    split at e
    · rename_i hk
      cases e
      obtain ⟨v, rfl, rv⟩ := r.one
      obtain ⟨a, ws, rfl, sq, rr⟩ := itemsL_sq rv ei
      obtain ⟨as, kvs, rfl, p1, p2⟩ := pairs_at ep hk rr
      rw [hK]
      exact ⟨a, as, kvs, rfl, sq, p1, fun b hb => q _ _ (new_dict hb (dictFrom_at p2 hk .nil))⟩
    · cases e
  · cases e
/-! ### sum of a tuple -/
theorem call_sumT (hc : X.calm = true) : CallR X (.builtin "sum") (fun vs H Q => ∃ (a : Addr) (ns : List Int), vs = [V.ref a] ∧ SqT X.K H a (ns.map V.int) ∧ Q (.int ns.sum) H) := by
  intro pins s σ H vs us Q I r h
  obtain ⟨a, ns, rfl, hs, q⟩ := h
  obtain ⟨its, rv, hl, _⟩ := I.tuple hs
  rw [Vals.ref1 r]
  have hi := rv.ints
  obtain ⟨xs, e⟩ := hi.allInts.items
  have hn : numsOf (intItems xs).toList = ns := by rw [← e]; exact hi.numsOf
  rw [nums_intItems] at hn
  rw [e] at hl
  refine PySem.W.ktm_sumG (I.ok.hd hc) hl fun h' tk t' hk => ?_
  rw [preSum_eq, List.take_of_length_le (by simp), hn]
  exact ⟨.int _, H, I.kept hk, ⟨_, rfl⟩, q⟩
theorem cr_sumO2 (hK : X.K = Z.K) (hc : X.calm = true) : CallR X (.builtin "sum") (rC Z sumO) := by
  refine callImp ((cr_sumO hK hc).or (call_sumT hc)) fun vs H Q ⟨F, os, o, r, e, q⟩ => ?_
  unfold sumO at e
  split at e
  · obtain ⟨ns, en, rfl⟩ := Option.map_eq_some_iff.mp e
    obtain ⟨v, rfl, rv⟩ := r.one
    obtain ⟨a, vs, rfl, sq, rr⟩ := Rp.inv_tup (Rv.d rv)
    obtain ⟨rfl, _⟩ := ints_of en rr
    exact .inr ⟨a, ns, rfl, by rw [hK]; exact sq, q _ _ (new_int _)⟩
  · exact .inl ⟨F, _, o, r, e, q⟩
end
end Ev
/-! Ev8: what is walked; targets; slots forgotten. -/
namespace Ev
open PySem PySem.Spec PyProof.Rows L2
mutual
theorem D.beq_eq : ∀ {x y : D}, D.beq x y = true → x = y
  | .non, y, h => by cases y <;> first | rfl | (simp only [D.beq] at h; cases h)
  | .bl a, y, h => by cases y <;> first | (simp only [D.beq, beq_iff_eq] at h; rw [h]) | (simp only [D.beq] at h; cases h)
  | .int a, y, h => by cases y <;> first | (simp only [D.beq, beq_iff_eq] at h; rw [h]) | (simp only [D.beq] at h; cases h)
  | .str a, y, h => by cases y <;> first | (simp only [D.beq, beq_iff_eq] at h; rw [h]) | (simp only [D.beq] at h; cases h)
  | .tup xs, y, h => by
    cases y with
    | tup ys =>
      simp only [D.beq] at h
      rw [D.beqs_eq h]
    | _ => simp only [D.beq] at h; cases h
  | .lst xs, y, h => by
    cases y with
    | lst ys =>
      simp only [D.beq] at h
      rw [D.beqs_eq h]
    | _ => simp only [D.beq] at h; cases h
theorem D.beqs_eq : ∀ {xs ys : List D}, D.beqs xs ys = true → xs = ys
  | [], ys, h => by cases ys <;> first | rfl | (simp only [D.beqs] at h; cases h)
  | x :: xs, ys, h => by
    cases ys with
    | nil => simp only [D.beqs] at h; cases h
    | cons y ys =>
      simp only [D.beqs, Bool.and_eq_true] at h
      rw [D.beq_eq h.1, D.beqs_eq h.2]
end
section
variable {n : Nat} {E : XK} {X : Cx} {Z : Wo} {σ σ' σ1 σ2 : L2.St} {F F' F1 : Fz} {H H' H1 H0 : Hp} {ρ ρ' ρ1 : Ev} {α β γ δ : Type}
theorem stands_get : ∀ {ws : List Nat} {i : Nat}, stands ρ ρ' ws = true → i ∈ ws → ∃ p q xs, ρ[i]? = some (some (W.L p xs)) ∧ ρ'[i]? = some (some (W.L q xs))
  | [], i, _, h => by cases h
  | j :: ws, i, h, m => by
    simp only [stands, Bool.and_eq_true] at h
    rcases List.mem_cons.mp m with e | m
    · subst e
      have h1 := h.1
      split at h1
      · rename_i p xs q ys e1 e2
        exact ⟨p, q, xs, e1, by rw [e2, D.beqs_eq h1]⟩
      · cases h1
    · exact stands_get h.2 m
theorem stands_mem : ∀ {ws vs : List Nat}, stands ρ ρ' ws = true → (∀ i ∈ vs, i ∈ ws) → stands ρ ρ' vs = true
  | ws, [], _, _ => rfl
  | ws, i :: vs, h, m => by
    obtain ⟨p, q, xs, e1, e2⟩ := stands_get h (m i List.mem_cons_self)
    have r : D.beqs xs xs = true := beqs_refl xs
    simp only [stands, e1, e2, r, Bool.true_and]
    exact stands_mem h fun j hj => m j (List.mem_cons_of_mem _ hj)
where
  beq_refl : ∀ x : D, D.beq x x = true
    | .non => rfl
    | .bl _ => by simp [D.beq]
    | .int _ => by simp [D.beq]
    | .str _ => by simp [D.beq]
    | .tup xs => by simp only [D.beq]; exact beqs_refl xs
    | .lst xs => by simp only [D.beq]; exact beqs_refl xs
  beqs_refl : ∀ xs : List D, D.beqs xs xs = true
    | [] => rfl
    | x :: xs => by simp only [D.beqs, beq_refl x, beqs_refl xs, Bool.and_self]
/-! ### what is walked -/
/-- the items, as long as St stands -/
structure Iw (Z : Wo) (J : It) (xs : List D) (St : Fz → Hp → Prop) : Prop where
  go : ∀ (i : Nat) F H, St F H → i < xs.length → J.go i H
  stop : ∀ F H, St F H → J.stop xs.length H
  yld : ∀ (i : Nat) x F H v H', St F H → xs[i]? = some x → J.yld i H v H' → Same H H' ∧ Rp Z F H' x v
/-- later: what data lean on is there, and what was new then -/
structure Later (Z : Wo) (H0 : Hp) (σ : L2.St) (F : Fz) (H : Hp) (ρ : Ev) (σ' : L2.St) (F' : Fz) (H' : Hp) (ρ' : Ev) : Prop where
  st : Sta Z F' H' σ' ρ'
  up : Up F H F' H'
  new : ∀ b o, NoO (H0 b) → H b = some o → ¬ Own σ ρ b → (∀ ps, o ≠ .tbl ps) → H' b = some o
theorem Path.later (s : Sta Z F H σ ρ) (p : Path Z σ F H ρ σ' F' H' ρ') : Later Z H0 σ F H ρ σ' F' H' ρ' := ⟨p.st, s.up p.sp, fun b o _ e n t => p.sp.keep b o e n t⟩
def relJ (Z : Wo) : Rel (List D × List Nat) It := fun σ H0 F H ρ p J => ∃ St, Iw Z J p.1 St ∧
  ∀ σ' F' H' ρ', Later Z H0 σ F H ρ σ' F' H' ρ' → (∀ i ∈ p.2, σ'[i]? = σ[i]?) → stands ρ ρ' p.2 = true → St F' H'
abbrev LI (Z : Wo) (E : XK) (f : Ev → R (List D × List Nat)) : TI := fun σ H R => LG Z E (relJ Z) f σ H R
/-- a walked value stays -/
theorem stays {o : O} {v : V} {xs : List D} (p : Later Z H0 σ F H ρ σ' F' H' ρ') (h : Out Z F H σ ρ o v) (fr : Frs H0 o v) (e : items (rs ρ o) = some xs) (hw : ∀ i ∈ walked [o], σ'[i]? = σ[i]?) (st : stands ρ ρ' (walked [o]) = true) :
    ∃ a vs, v = .ref a ∧ (if isT (rs ρ o) = true then SqT Z.K H' a vs else SqL Z.K H' a vs) ∧ Rps Z F' H' xs vs := by
  have u := p.up
  cases o with
  | d x =>
    have hx : Rp Z F H x v := h
    cases x with
    | tup ys =>
      simp only [rs, items, Option.some.injEq] at e
      subst e
      obtain ⟨a, vs, rfl, q, r⟩ := Rp.inv_tup hx
      exact ⟨a, vs, rfl, by simpa only [rs, isT, if_true] using u.sqT q, r.up u⟩
    | lst ys =>
      simp only [rs, items, Option.some.injEq] at e
      subst e
      obtain ⟨a, vs, rfl, q, r⟩ := Rp.inv_lst hx
      exact ⟨a, vs, rfl, by simpa only [rs, isT, Bool.false_eq_true, if_false] using (u.sl q).sq, r.up u⟩
    | _ => simp [rs, items] at e
  | L ys =>
    simp only [rs, items, Option.some.injEq] at e
    subst e
    obtain ⟨a, vs, rfl, q, r, h3, h4⟩ := h
    exact ⟨a, vs, rfl, by simpa only [rs, isT, Bool.false_eq_true, if_false] using SqL.of (p.new a _ (fr rfl a rfl) q h4 fun _ z => by cases z), r.up u⟩
  | M t kvs => simp [rs, items] at e
  | F f => simp [rs, items] at e
  | Z kvs => simp [rs, items] at e
  | bor i =>
    have hs : σ[i]? = some (some v) := h
    obtain ⟨q1, q2, ys, e1, e2⟩ := stands_get st (show i ∈ walked [O.bor i] from List.mem_cons_self)
    have er : rs ρ (.bor i) = .L ys := by simp only [rs, e1]
    rw [er] at e ⊢
    simp only [items, Option.some.injEq] at e
    subst e
    obtain ⟨a, vs, es, eh, r⟩ := p.st.ownL e2
    rw [hw i List.mem_cons_self, hs] at es
    cases (Option.some.inj (Option.some.inj es))
    exact ⟨a, vs, rfl, by simpa only [isT, Bool.false_eq_true, if_false] using SqL.of eh, r⟩
theorem iw_list {a : Addr} {xs : List D} : Iw Z (Itl Z.K a) xs (fun F H => ∃ vs, SqL Z.K H a vs ∧ Rps Z F H xs vs) := by
  refine ⟨fun i F H ⟨vs, q, r⟩ hi => ?_, fun F H ⟨vs, q, r⟩ => ⟨vs, q, by rw [r.len]; exact Nat.le_refl _⟩, fun i x F H v H' ⟨vs, q, r⟩ e y => ?_⟩
  · rw [r.len] at hi
    exact ⟨vs, vs[i], q, by simp [hi]⟩
  · obtain ⟨rfl, y⟩ := y
    obtain ⟨w, ew, rw'⟩ := r.get e
    rw [y vs q] at ew
    cases ew
    exact ⟨.refl _, rw'⟩
theorem iw_tup {a : Addr} {xs : List D} : Iw Z (Itt Z.K a) xs (fun F H => ∃ vs, SqT Z.K H a vs ∧ Rps Z F H xs vs) := by
  refine ⟨fun i F H ⟨vs, q, r⟩ hi => ?_, fun F H ⟨vs, q, r⟩ => ⟨vs, q, by rw [r.len]; exact Nat.le_refl _⟩, fun i x F H v H' ⟨vs, q, r⟩ e y => ?_⟩
  · rw [r.len] at hi
    exact ⟨vs, vs[i], q, by simp [hi]⟩
  · obtain ⟨rfl, y⟩ := y
    obtain ⟨w, ew, rw'⟩ := r.get e
    rw [y vs q] at ew
    cases ew
    exact ⟨.refl _, rw'⟩
theorem iw_range {lo hi : Int} : Iw Z (Itr lo (hi - lo).toNat) (upTo lo hi) (fun _ _ => True) := by
  have hl : (upTo lo hi).length = (hi - lo).toNat := by simp [upTo]
  refine ⟨fun i F H _ h => by rw [hl] at h; exact h, fun F H _ => by rw [hl]; exact Nat.le_refl _, fun i x F H v H' _ e y => ?_⟩
  obtain ⟨rfl, rfl⟩ := y
  have hi' : i < (upTo lo hi).length := (List.getElem?_eq_some_iff.mp e).1
  rw [hl] at hi'
  simp only [upTo, List.getElem?_map, List.getElem?_range hi', Option.map_some, Option.some.injEq] at e
  subst e
  exact ⟨.refl _, by simp only [Rp]⟩
/-- the keys of a dict that is never written again -/
theorem rp_key {k : Key} {x : D} (h : keyD Z k x) : Rp Z F H x (kV k) := by
  cases k with
  | inl i =>
    obtain rfl : x = .int i := h
    simp only [Rp]
    rfl
  | inr s =>
    obtain ⟨n, e, rfl⟩ := h
    simp only [Rp]
    exact ⟨s, e, rfl⟩
theorem iw_keys {a : Addr} {o : Obj} {ps : List (Key × V)} {kvs : List (D × D)} (hp : Paired (DicK Z F H) ps kvs) : Iw Z (Itk a o ps) (kvs.map (·.1)) (fun _ H => H a = some (.frz o (.dK ps))) := by
  have hl : ps.length = kvs.length := Paired.length hp
  refine ⟨fun i F H h hi => ?_, fun F H h => ⟨h, by rw [List.length_map, hl]; exact Nat.le_refl _⟩, fun i x F H v H' h e y => ?_⟩
  · rw [List.length_map, ← hl] at hi
    exact ⟨h, hi⟩
  · obtain ⟨rfl, k, w, ek, rfl⟩ := y
    refine ⟨.refl _, ?_⟩
    obtain ⟨q, eq, kd, _⟩ := L2.paired_get hp ek
    rw [List.getElem?_map, eq] at e
    cases e
    exact rp_key kd
theorem enum_get : ∀ {xs : List D} {k i : Nat} {x : D}, (enumFrom k xs)[i]? = some x → ∃ y, xs[i]? = some y ∧ x = .tup [.int ((k + i : Nat) : Int), y]
  | [], k, i, x, h => by simp [enumFrom] at h
  | y :: r, k, 0, x, h => by
    simp only [enumFrom, List.getElem?_cons_zero, Option.some.injEq] at h
    exact ⟨y, rfl, by rw [← h]; rfl⟩
  | y :: r, k, i + 1, x, h => by
    simp only [enumFrom, List.getElem?_cons_succ] at h
    obtain ⟨z, e1, e2⟩ := enum_get h
    exact ⟨z, by simpa using e1, by rw [e2]; congr 3; congr 1; omega⟩
theorem enum_len : ∀ {xs : List D} {k : Nat}, (enumFrom k xs).length = xs.length
  | [], k => rfl
  | y :: r, k => by simp only [enumFrom, List.length_cons, enum_len]
theorem rp_pair {T : Addr} {x y : D} {v w : V} (hT : H T = none) (hx : Rp Z F H x v) (hy : Rp Z F H y w) : Same H (upd H T (.tup [v, w])) ∧ Rp Z F (upd H T (.tup [v, w])) (.tup [x, y]) (.ref T) := by
  have sm : Same H (upd H T (.tup [v, w])) := fun b o e => by
    rw [upd_ne (fun z => by rw [z, hT] at e; cases e)]; exact e
  refine ⟨sm, ?_⟩
  simp only [Rp]
  exact ⟨T, _, rfl, .inl (.inl upd_same), .cons (hx.up (.of_same sm)) (.cons (hy.up (.of_same sm)) .nil)⟩
theorem iw_enum {a : Addr} {xs : List D} : Iw Z (Ite Z.K a) (enumFrom 0 xs) (fun F H => ∃ vs, SqL Z.K H a vs ∧ Rps Z F H xs vs) := by
  refine ⟨fun i F H ⟨vs, q, r⟩ hi => ?_, fun F H ⟨vs, q, r⟩ => ⟨vs, q, by rw [enum_len, r.len]; exact Nat.le_refl _⟩, fun i x F H v H' ⟨vs, q, r⟩ e y => ?_⟩
  · rw [enum_len, r.len] at hi
    exact ⟨vs, vs[i], q, by simp [hi]⟩
  · obtain ⟨T, w, rfl, hT, rfl, y⟩ := y
    obtain ⟨z, e1, rfl⟩ := enum_get e
    obtain ⟨w', ew, rw'⟩ := r.get e1
    rw [y vs q] at ew
    cases ew
    exact rp_pair hT (by simp only [Rp, Nat.zero_add]) rw'
theorem iw_enumT {a : Addr} {xs : List D} : Iw Z (IteT Z.K a) (enumFrom 0 xs) (fun F H => ∃ vs, SqT Z.K H a vs ∧ Rps Z F H xs vs) := by
  refine ⟨fun i F H ⟨vs, q, r⟩ hi => ?_, fun F H ⟨vs, q, r⟩ => ⟨vs, q, by rw [enum_len, r.len]; exact Nat.le_refl _⟩, fun i x F H v H' ⟨vs, q, r⟩ e y => ?_⟩
  · rw [enum_len, r.len] at hi
    exact ⟨vs, vs[i], q, by simp [hi]⟩
  · obtain ⟨T, w, rfl, hT, rfl, y⟩ := y
    obtain ⟨z, e1, rfl⟩ := enum_get e
    obtain ⟨w', ew, rw'⟩ := r.get e1
    rw [y vs q] at ew
    cases ew
    exact rp_pair hT (by simp only [Rp, Nat.zero_add]) rw'
theorem zip_get {xs ys : List D} {i : Nat} {x : D} (h : ((xs.zip ys).map fun p => D.tup [p.1, p.2])[i]? = some x) : ∃ a b, xs[i]? = some a ∧ ys[i]? = some b ∧ x = .tup [a, b] := by
  rw [List.getElem?_map] at h
  obtain ⟨p, e, rfl⟩ := Option.map_eq_some_iff.mp h
  have e2 := List.getElem?_zip_eq_some.mp e
  exact ⟨p.1, p.2, e2.1, e2.2, rfl⟩
theorem iw_zip {a b : Addr} {xs ys : List D} : Iw Z (Itz Z.K a b) ((xs.zip ys).map fun p => .tup [p.1, p.2]) (fun F H => (∃ vs, SqL Z.K H a vs ∧ Rps Z F H xs vs) ∧ ∃ vs, SqL Z.K H b vs ∧ Rps Z F H ys vs) := by
  refine ⟨fun i F H ⟨⟨vs, q, r⟩, ⟨ws, q2, r2⟩⟩ hi => ?_, fun F H ⟨⟨vs, q, r⟩, ⟨ws, q2, r2⟩⟩ => ⟨vs, ws, q, q2, ?_⟩, fun i x F H v H' ⟨⟨vs, q, r⟩, ⟨ws, q2, r2⟩⟩ e y => ?_⟩
  · rw [List.length_map, List.length_zip, r.len, r2.len] at hi
    exact ⟨vs, ws, vs[i]'(by omega), ws[i]'(by omega), q, q2, by simp, by simp⟩
  · rw [List.length_map, List.length_zip, r.len, r2.len]
    omega
  · obtain ⟨T, w, w2, rfl, hT, rfl, y1, y2⟩ := y
    obtain ⟨a, b, e1, e2, rfl⟩ := zip_get e
    obtain ⟨w', ew, rw1⟩ := r.get e1
    rw [y1 vs q] at ew
    cases ew
    obtain ⟨w', ew, rw2⟩ := r2.get e2
    rw [y2 ws q2] at ew
    cases ew
    exact rp_pair hT rw1 rw2
theorem iw_zipT {a b : Addr} {xs ys : List D} : Iw Z (RZ.ItzT Z.K a b) ((xs.zip ys).map fun p => .tup [p.1, p.2]) (fun F H => (∃ vs, SqT Z.K H a vs ∧ Rps Z F H xs vs) ∧ ∃ vs, SqT Z.K H b vs ∧ Rps Z F H ys vs) := by
  refine ⟨fun i F H ⟨⟨vs, q, r⟩, ⟨ws, q2, r2⟩⟩ hi => ?_, fun F H ⟨⟨vs, q, r⟩, ⟨ws, q2, r2⟩⟩ => ⟨vs, ws, q, q2, ?_⟩, fun i x F H v H' ⟨⟨vs, q, r⟩, ⟨ws, q2, r2⟩⟩ e y => ?_⟩
  · rw [List.length_map, List.length_zip, r.len, r2.len] at hi
    exact ⟨vs, ws, vs[i]'(by omega), ws[i]'(by omega), q, q2, by simp, by simp⟩
  · rw [List.length_map, List.length_zip, r.len, r2.len]
    omega
  · obtain ⟨T, w, w2, rfl, hT, rfl, y1, y2⟩ := y
    obtain ⟨a, b, e1, e2, rfl⟩ := zip_get e
    obtain ⟨w', ew, rw1⟩ := r.get e1
    rw [y1 vs q] at ew
    cases ew
    obtain ⟨w', ew, rw2⟩ := r2.get e2
    rw [y2 ws q2] at ew
    cases ew
    exact rp_pair hT rw1 rw2

/-! ### the sources -/
theorem isT_eq {o : O} (h : isT o = true) : ∃ xs, o = .d (.tup xs) := by
  unfold isT at h
  split at h
  · exact ⟨_, rfl⟩
  · cases h
/-- what an iteration wants of one value -/
theorem snd_seq {tg e : Expr} {f : Ev → R O} (hK : X.K = Z.K) (h : PE X e (LE Z E f)) :
    PI X tg e (LI Z E fun ρ => (f ρ).bind fun o ρ1 => R.opt (walk .seq [rs ρ1 o]) fun xs => .ok (xs, walked [o]) ρ1) := by
  refine ⟨fun pins s σ H R I ⟨F0, H0, ρ0, F, ρ, p, post⟩ => ?_⟩
  by_cases bz : ∃ o ρ1, f ρ = .ok o ρ1 ∧ ∃ kvs, rs ρ1 o = .Z kvs
  · obtain ⟨o, ρ1, e1, kvs, e2⟩ := bz
    refine (pi_keys h).run pins s σ H R I (runE p post fun o' ρ1' v F1 H1 e1' p1 p01 r post => ?_)
    rw [e1] at e1'
    cases e1'
    have ew : walk .seq [rs ρ1 o] = some (kvs.map (·.1)) := by rw [e2]; rfl
    rw [ew] at post
    have rv := r.1.rv p01.st
    rw [e2] at rv
    obtain ⟨a, rfl, ob, ps, eh, pk⟩ := rv
    refine ⟨a, ob, rfl, .inl ⟨ps, eh, post _ F1 H1 p01 ⟨_, iw_keys pk, fun σ' F' H' ρ' q hw st => q.up.frzs _ _ _ eh⟩⟩⟩
  have nz : ∀ {o : O} {ρ1 : Ev} {xs : List D}, f ρ = .ok o ρ1 → walk .seq [rs ρ1 o] = some xs → items (rs ρ1 o) = some xs := fun {o ρ1 xs} e1 ew => by
    have ew : walkS (rs ρ1 o) = some xs := ew
    unfold walkS at ew
    split at ew
    · rename_i kvs ez
      exact absurd ⟨o, ρ1, e1, kvs, ez⟩ bz
    · exact ew
  by_cases b : ∃ o ρ1, f ρ = .ok o ρ1 ∧ isT (rs ρ1 o) = true
  · obtain ⟨o, ρ1, e1, e2⟩ := b
    refine (pi_tup h).run pins s σ H R I (runE p post fun o' ρ1' v F1 H1 e1' p1 p01 r post => ?_)
    rw [e1] at e1'
    cases e1'
    cases ew : walk .seq [rs ρ1 o] with
    | none => rw [ew] at post; exact post.elim
    | some xs =>
      rw [ew] at post
      have ei : items (rs ρ1 o) = some xs := nz e1 ew
      have key := fun σ' F' H' ρ' q hw st => stays (σ' := σ') (F' := F') (H' := H') (ρ' := ρ') q r.1 (r.2.back p) ei hw st
      obtain ⟨a, vs, rfl, q1, q2⟩ : ∃ a vs, v = .ref a ∧ SqT Z.K H1 a vs ∧ Rps Z F1 H1 xs vs := by
        obtain ⟨ys, ey⟩ := isT_eq e2
        have rv := r.1.rv p01.st
        rw [ey] at rv ei
        cases ei
        exact Rp.inv_tup rv
      rw [hK]
      refine ⟨a, rfl, ⟨vs, q1⟩, post _ F1 H1 p01 ⟨_, iw_tup, fun σ' F' H' ρ' q hw st => ?_⟩⟩
      obtain ⟨a', vs', e', h1, h2⟩ := key σ' F' H' ρ' q hw st
      cases e'
      rw [if_pos e2] at h1
      exact ⟨vs', h1, h2⟩
  · refine (pi_list h).run pins s σ H R I (runE p post fun o ρ1 v F1 H1 e1 p1 p01 r post => ?_)
    have e2 : isT (rs ρ1 o) = false := by
      cases q : isT (rs ρ1 o) with
      | false => rfl
      | true => exact absurd ⟨o, ρ1, e1, q⟩ b
    cases ew : walk .seq [rs ρ1 o] with
    | none => rw [ew] at post; exact post.elim
    | some xs =>
      rw [ew] at post
      have ei : items (rs ρ1 o) = some xs := nz e1 ew
      have key := fun σ' F' H' ρ' q hw st => stays (σ' := σ') (F' := F') (H' := H') (ρ' := ρ') q r.1 (r.2.back p) ei hw st
      obtain ⟨a, vs, rfl, q1, q2⟩ := seq_now p01.st r.1 ei e2
      rw [hK]
      refine ⟨a, rfl, ⟨vs, q1⟩, post _ F1 H1 p01 ⟨_, iw_list, fun σ' F' H' ρ' q hw st => ?_⟩⟩
      obtain ⟨a', vs', e', h1, h2⟩ := key σ' F' H' ρ' q hw st
      cases e'
      rw [if_neg (by rw [e2]; decide)] at h1
      exact ⟨vs', h1, h2⟩
where
  seq_now {o : O} {v : V} {xs : List D} {F : Fz} {H : Hp} {ρ : Ev} {σ : L2.St} (s : Sta Z F H σ ρ) (h : Out Z F H σ ρ o v) (e : items (rs ρ o) = some xs) (b : isT (rs ρ o) = false) : ∃ a vs, v = .ref a ∧ SqL Z.K H a vs ∧ Rps Z F H xs vs := by
    have rv := h.rv s
    generalize rs ρ o = z at e b rv
    unfold items at e
    split at e
    · cases b
    · cases e
      obtain ⟨a, vs, rfl, q, r⟩ := Rp.inv_lst (Rv.d rv)
      exact ⟨a, vs, rfl, q.sq, r⟩
    · cases e
      obtain ⟨a, vs, rfl, q, r⟩ := Rv.l rv
      exact ⟨a, vs, rfl, SqL.of q, r⟩
    · cases e
/-- range(..) -/
theorem snd_range {tg : Expr} {e : Expr} {es : List Expr} {g : Ev → R (List O)} {p pos : Pos} (hl : ∀ ρ os ρ1, g ρ = .ok os ρ1 → os.length = (e :: es).length) (hg : Gl X "range") (hm : X.mg "range" = none) (ha : PA X (e :: es) (LA Z E g)) (hs : (e :: es).all (fun e => !isStar e) = true) (h2 : es.length ≤ 1) :
    PI X tg (.Call (.Name "range" p) (e :: es) [] pos) (LI Z E fun ρ => iterF .rng (g ρ)) := by
  have h1 : isStar e = false ∧ es.all (fun e => !isStar e) = true := by
    simpa only [List.all_cons, Bool.and_eq_true, Bool.not_eq_true'] using hs
  cases es with
  | nil =>
    refine ⟨fun pins s σ H R I ⟨F0, H0, ρ0, F, ρ, p, post⟩ => (pi_range1 hg hm ha (star_cons h1.1)).run pins s σ H R I (runE p post fun os ρ1 vs F1 H1 e1 p1 p01 r post => ?_)⟩
    have hl := hl _ _ _ e1
    match os, hl with
    | [o], _ =>
      obtain ⟨v, w, rfl, ov, _, _, t⟩ := r
      obtain rfl : w = [] := t
      cases ew : walk .rng ([o].map (rs ρ1)) with
      | none => rw [ew] at post; exact post.elim
      | some xs =>
        rw [ew] at post
        simp only [List.map_cons, List.map_nil] at ew
        have rv := ov.rv p01.st
        generalize rs ρ1 o = z at ew rv
        unfold walk at ew
        split at ew <;> try (cases ew)
        · rename_i hk _; cases hk
        · rename_i n hk he
          cases he
          split at ew
          · rename_i hr
            cases ew
            simp only [inR, Bool.and_eq_true, decide_eq_true_eq] at hr
            have : v = .int n := Rp.inv_int (Rv.d rv)
            refine ⟨n, by rw [this], hr.1, hr.2, post _ F1 H1 p01 ⟨_, ?_, fun _ _ _ _ _ _ _ => trivial⟩⟩
            have := iw_range (Z := Z) (lo := 0) (hi := n)
            rwa [Int.sub_zero] at this
          · cases ew
        · rename_i he; cases he
        · rename_i he; cases he
        · rename_i hk _; cases hk
        · rename_i he; cases he
  | cons e2 es =>
    obtain rfl : es = [] := by simpa using h2
    have h3 : isStar e2 = false := by simpa using h1.2
    refine ⟨fun pins s σ H R I ⟨F0, H0, ρ0, F, ρ, p, post⟩ => (pi_range2 hg hm ha (by rw [star_cons h1.1, star_cons h3]; rfl) (star_cons h3)).run pins s σ H R I (runE p post fun os ρ1 vs F1 H1 e1 p1 p01 r post => ?_)⟩
    have hl := hl _ _ _ e1
    match os, hl with
    | [o, o2], _ =>
      obtain ⟨v, w, rfl, ov, _, _, t⟩ := r
      obtain ⟨v2, w, rfl, ov2, _, _, t⟩ := t
      obtain rfl : w = [] := t
      cases ew : walk .rng ([o, o2].map (rs ρ1)) with
      | none => rw [ew] at post; exact post.elim
      | some xs =>
        rw [ew] at post
        simp only [List.map_cons, List.map_nil] at ew
        have rv := ov.rv p01.st
        have rv2 := ov2.rv p01.st
        generalize rs ρ1 o = z at ew rv
        generalize rs ρ1 o2 = z2 at ew rv2
        unfold walk at ew
        split at ew <;> try (cases ew)
        · rename_i he; cases he
        · rename_i he; cases he
        · rename_i a b hk he
          cases he
          split at ew
          · rename_i hr
            cases ew
            simp only [inR, Bool.and_eq_true, decide_eq_true_eq] at hr
            have t1 : v = .int a := Rp.inv_int (Rv.d rv)
            have t2 : v2 = .int b := Rp.inv_int (Rv.d rv2)
            exact ⟨a, b, by rw [t1, t2], ⟨hr.1.1, hr.1.2, hr.2.1, hr.2.2⟩, post _ F1 H1 p01 ⟨_, iw_range, fun _ _ _ _ _ _ _ => trivial⟩⟩
          · cases ew
        · rename_i he; cases he
        · rename_i he; cases he
        · rename_i hk _; cases hk
/-- a list, a tuple, as it stands now -/
theorem now_at {o : O} {v : V} {xs : List D} (s : Sta Z F H σ ρ) (h : Out Z F H σ ρ o v) (e : items (rs ρ o) = some xs) : ∃ a vs, v = .ref a ∧ (if isT (rs ρ o) = true then SqT Z.K H a vs else SqL Z.K H a vs) ∧ Rps Z F H xs vs := by
  cases q : isT (rs ρ o) with
  | true =>
    obtain ⟨ys, ey⟩ := isT_eq q
    have rv := h.rv s
    rw [ey] at rv e
    cases e
    obtain ⟨a, vs, e1, e2, e3⟩ := Rp.inv_tup (Rv.d rv)
    exact ⟨a, vs, e1, by rw [if_pos rfl]; exact e2, e3⟩
  | false =>
    obtain ⟨a, vs, e1, e2, e3⟩ := snd_seq.seq_now s h e q
    exact ⟨a, vs, e1, by rw [if_neg (by decide)]; exact e2, e3⟩
theorem itemsL_items {o : O} {xs : List D} (h : itemsL o = some xs) : items o = some xs ∧ isT o = false := by
  unfold itemsL at h
  split at h
  · cases h; exact ⟨rfl, rfl⟩
  · cases h; exact ⟨rfl, rfl⟩
  · cases h
theorem snd_enum {e : Expr} {elts : List Expr} {kk : Nat} {g : Ev → R (List O)} {p pos tpos : Pos} (hK : X.K = Z.K) (hl : ∀ ρ os ρ1, g ρ = .ok os ρ1 → os.length = 1) (hg : Gl X "enumerate") (hm : X.mg "enumerate" = none) (ha : PA X [e] (LA Z E g)) (hs : isStar e = false) :
    PI X (.Tuple elts kk tpos) (.Call (.Name "enumerate" p) [e] [] pos) (LI Z E fun ρ => iterF .enum (g ρ)) := by
  refine ⟨fun pins s σ H R I ⟨F0, H0, ρ0, F, ρ, p, post⟩ => (pi_enumA hg hm ha (star_cons hs)).run pins s σ H R I (runE p post fun os ρ1 vs F1 H1 e1 p1 p01 r post => ?_)⟩
  have hl := hl _ _ _ e1
  match os, hl with
  | [o], _ =>
    obtain ⟨v, w, rfl, ov, of, _, t⟩ := r
    obtain rfl : w = [] := t
    cases ei : items (rs ρ1 o) with
    | none =>
      have e2 : walk .enum ([o].map (rs ρ1)) = none := by
        show (items (rs ρ1 o)).map _ = none
        rw [ei]; rfl
      rw [e2] at post
      exact post.elim
    | some xs =>
      have e2 : walk .enum ([o].map (rs ρ1)) = some (enumFrom 0 xs) := by
        show (items (rs ρ1 o)).map _ = _
        rw [ei]; rfl
      rw [e2] at post
      have key := fun σ' F' H' ρ' q hw st => stays (σ' := σ') (F' := F') (H' := H') (ρ' := ρ') q ov (of.back p) ei hw st
      obtain ⟨a, ws, rfl, q1, q2⟩ := now_at p01.st ov ei
      rw [hK]
      refine ⟨a, ws, rfl, ?_⟩
      cases b1 : isT (rs ρ1 o) with
      | true =>
        rw [if_pos b1] at q1
        refine .inr ⟨q1, post _ F1 H1 p01 ⟨_, iw_enumT, fun σ' F' H' ρ' q hw st => ?_⟩⟩
        obtain ⟨a', vs', e', h1, h2⟩ := key σ' F' H' ρ' q hw st
        cases e'
        rw [if_pos b1] at h1
        exact ⟨vs', h1, h2⟩
      | false =>
        rw [if_neg (by rw [b1]; decide)] at q1
        refine .inl ⟨q1, post _ F1 H1 p01 ⟨_, iw_enum, fun σ' F' H' ρ' q hw st => ?_⟩⟩
        obtain ⟨a', vs', e', h1, h2⟩ := key σ' F' H' ρ' q hw st
        cases e'
        rw [if_neg (by rw [b1]; decide)] at h1
        exact ⟨vs', h1, h2⟩
theorem walked_cons (o : O) (os : List O) : walked (o :: os) = walked [o] ++ walked os := by cases o <;> rfl
theorem snd_zip {e e2 : Expr} {elts : List Expr} {kk : Nat} {g : Ev → R (List O)} {p pos tpos : Pos} (hK : X.K = Z.K) (hl : ∀ ρ os ρ1, g ρ = .ok os ρ1 → os.length = 2) (hg : Gl X "zip") (hm : X.mg "zip" = none) (ha : PA X [e, e2] (LA Z E g)) (hs : isStar e = false) (hs2 : isStar e2 = false) :
    PI X (.Tuple elts kk tpos) (.Call (.Name "zip" p) [e, e2] [] pos) (LI Z E fun ρ => iterF .zip (g ρ)) := by
  refine ⟨fun pins s σ H R I ⟨F0, H0, ρ0, F, ρ, p, post⟩ => (RZ.pi_zipA hg hm ha (star_cons hs) (by rw [star_cons hs2]; rfl)).run pins s σ H R I (runE p post fun os ρ1 vs F1 H1 e1 p1 p01 r post => ?_)⟩
  have hl := hl _ _ _ e1
  match os, hl with
  | [o, o2], _ =>
    obtain ⟨v, w, rfl, ov, of, _, t⟩ := r
    obtain ⟨v2, w, rfl, ov2, of2, _, t⟩ := t
    obtain rfl : w = [] := t
    have ew : walk .zip ([o, o2].map (rs ρ1)) = if isT (rs ρ1 o) = isT (rs ρ1 o2) then (match items (rs ρ1 o), items (rs ρ1 o2) with
      | some xs, some ys => some ((xs.zip ys).map fun p => .tup [p.1, p.2])
      | _, _ => none) else none := rfl
    rw [ew] at post
    split at post
    · rename_i hT
      cases ei : items (rs ρ1 o) with
      | none => rw [ei] at post; exact post.elim
      | some xs =>
        cases ei2 : items (rs ρ1 o2) with
        | none => rw [ei, ei2] at post; exact post.elim
        | some ys =>
          rw [ei, ei2] at post
          have hm1 : ∀ i ∈ walked [o], i ∈ walked [o, o2] := fun i h => by rw [walked_cons]; exact List.mem_append_left _ h
          have hm2 : ∀ i ∈ walked [o2], i ∈ walked [o, o2] := fun i h => by rw [walked_cons]; exact List.mem_append_right _ h
          have key := fun σ' F' H' ρ' q (hw : ∀ i ∈ walked [o, o2], σ'[i]? = σ[i]?) st => stays (σ' := σ') (F' := F') (H' := H') (ρ' := ρ') q ov (of.back p) ei (fun i h => hw i (hm1 i h)) (stands_mem st hm1)
          have key2 := fun σ' F' H' ρ' q (hw : ∀ i ∈ walked [o, o2], σ'[i]? = σ[i]?) st => stays (σ' := σ') (F' := F') (H' := H') (ρ' := ρ') q ov2 (of2.back p) ei2 (fun i h => hw i (hm2 i h)) (stands_mem st hm2)
          obtain ⟨a, ws, rfl, q1, q2⟩ := now_at p01.st ov ei
          obtain ⟨b, ws2, rfl, q3, q4⟩ := now_at p01.st ov2 ei2
          rw [hK]
          refine ⟨a, b, ws, ws2, rfl, ?_⟩
          cases b1 : isT (rs ρ1 o) with
          | true =>
            have b2 : isT (rs ρ1 o2) = true := by rw [← hT, b1]
            rw [if_pos b1] at q1
            rw [if_pos b2] at q3
            refine .inr ⟨q1, q3, post _ F1 H1 p01 ⟨_, iw_zipT, fun σ' F' H' ρ' q hw st => ?_⟩⟩
            obtain ⟨a', vs', e', h1, h2⟩ := key σ' F' H' ρ' q hw st
            cases e'
            obtain ⟨a', vs2', e', h3, h4⟩ := key2 σ' F' H' ρ' q hw st
            cases e'
            rw [if_pos b1] at h1
            rw [if_pos b2] at h3
            exact ⟨⟨vs', h1, h2⟩, vs2', h3, h4⟩
          | false =>
            have b2 : isT (rs ρ1 o2) = false := by rw [← hT, b1]
            rw [if_neg (by rw [b1]; decide)] at q1
            rw [if_neg (by rw [b2]; decide)] at q3
            refine .inl ⟨q1, q3, post _ F1 H1 p01 ⟨_, iw_zip, fun σ' F' H' ρ' q hw st => ?_⟩⟩
            obtain ⟨a', vs', e', h1, h2⟩ := key σ' F' H' ρ' q hw st
            cases e'
            obtain ⟨a', vs2', e', h3, h4⟩ := key2 σ' F' H' ρ' q hw st
            cases e'
            rw [if_neg (by rw [b1]; decide)] at h1
            rw [if_neg (by rw [b2]; decide)] at h3
            exact ⟨⟨vs', h1, h2⟩, vs2', h3, h4⟩
    · exact post.elim
end
end Ev
/-! Ev9: targets; slots forgotten and put back; the list comprehension. -/
namespace Ev
open PySem PySem.Spec PyProof.Rows L2
section
variable {n : Nat} {E : XK} {X : Cx} {Z : Wo} {σ σ' σ0 σ1 σ2 : L2.St} {F F' F0 F1 F2 : Fz} {H H' H1 H0 H2 : Hp} {ρ ρ' ρ0 ρ1 ρ2 : Ev} {α β γ δ : Type}
/-! ### targets -/
/-- a slot takes data -/
theorem put_d {i : Nat} {x : D} {v : V} (s : Sta Z F H σ ρ) (r : Rp Z F H x v) : Path Z σ F H ρ (σ.set i (some v)) F H (ρ.set i (some (.d x))) := by
  refine ⟨⟨by rw [List.length_set, List.length_set]; exact s.len, fun j w ej => ?_, fun j k wj wk a ej ek hj hk sj sk => ?_, s.tabs, s.ft⟩, .refl, fun b ⟨j, w, ej, ho, es⟩ => .inl ?_, fun j w h pw => ?_⟩
  · rcases getset ej with ⟨rfl, z, hl⟩ | ⟨hn, z⟩
    · cases z
      rw [s.len] at hl
      exact ⟨v, List.getElem?_set_self hl, r⟩
    · rw [List.getElem?_set_ne (Ne.symm hn)]
      exact s.rep j w z
  · rcases getset ej with ⟨rfl, z, _⟩ | ⟨n1, z⟩
    · cases z; cases hj
    · rcases getset ek with ⟨rfl, z2, _⟩ | ⟨n2, z2⟩
      · cases z2; cases hk
      · rw [List.getElem?_set_ne (Ne.symm n1)] at sj
        rw [List.getElem?_set_ne (Ne.symm n2)] at sk
        exact s.inj _ _ _ _ _ z z2 hj hk sj sk
  · rcases getset ej with ⟨rfl, z, _⟩ | ⟨n1, z⟩
    · cases z; cases ho
    · rw [List.getElem?_set_ne (Ne.symm n1)] at es
      exact own_of z ho es
  · rcases getset h with ⟨rfl, z, _⟩ | ⟨n1, z⟩
    · cases z; cases pw
    · exact ⟨⟨_, z, pw⟩, by rw [List.getElem?_set_ne (Ne.symm n1)]⟩
/-- a slot takes a def -/
theorem put_F {i f : Nat} {v : V} (s : Sta Z F H σ ρ) (r : Z.f1 f = true ∧ v = .ref (Z.fa f)) : Path Z σ F H ρ (σ.set i (some v)) F H (ρ.set i (some (.F f))) := by
  refine ⟨⟨by rw [List.length_set, List.length_set]; exact s.len, fun j w ej => ?_, fun j k wj wk a ej ek hj hk sj sk => ?_, s.tabs, s.ft⟩, .refl, fun b ⟨j, w, ej, ho, es⟩ => .inl ?_, fun j w h pw => ?_⟩
  · rcases getset ej with ⟨rfl, z, hl⟩ | ⟨hn, z⟩
    · cases z
      rw [s.len] at hl
      exact ⟨v, List.getElem?_set_self hl, r⟩
    · rw [List.getElem?_set_ne (Ne.symm hn)]
      exact s.rep j w z
  · rcases getset ej with ⟨rfl, z, _⟩ | ⟨n1, z⟩
    · cases z; cases hj
    · rcases getset ek with ⟨rfl, z2, _⟩ | ⟨n2, z2⟩
      · cases z2; cases hk
      · rw [List.getElem?_set_ne (Ne.symm n1)] at sj
        rw [List.getElem?_set_ne (Ne.symm n2)] at sk
        exact s.inj _ _ _ _ _ z z2 hj hk sj sk
  · rcases getset ej with ⟨rfl, z, _⟩ | ⟨n1, z⟩
    · cases z; cases ho
    · rw [List.getElem?_set_ne (Ne.symm n1)] at es
      exact own_of z ho es
  · rcases getset h with ⟨rfl, z, _⟩ | ⟨n1, z⟩
    · cases z; cases pw
    · exact ⟨⟨_, z, pw⟩, by rw [List.getElem?_set_ne (Ne.symm n1)]⟩
/-- what a target wants -/
def LGt (Z : Wo) (t : Tg) : TG := fun v σ H Q => ∃ F ρ x ρ', Sta Z F H σ ρ ∧ Rp Z F H x v ∧ bindT t x ρ = some ρ' ∧ ∀ σ', Path Z σ F H ρ σ' F H ρ' → (∀ i, i ∉ slots t → σ'[i]? = σ[i]?) → σ'.length = σ.length → Q σ' H
def LGts (Z : Wo) (ts : List Tg) : TGs := fun vs σ H Q => ∃ F ρ xs ρ', Sta Z F H σ ρ ∧ Rps Z F H xs vs ∧ bindTs ts xs ρ = some ρ' ∧ ∀ σ', Path Z σ F H ρ σ' F H ρ' → (∀ i, i ∉ slotss ts → σ'[i]? = σ[i]?) → σ'.length = σ.length → Q σ' H
theorem pgImp {e : Expr} {t t' : TG} (h : PG X e t) (i : ∀ v σ H Q, t' v σ H Q → t v σ H Q) : PG X e t' := ⟨fun pins s σ H v u Q I r q => h.run pins s σ H v u Q I r (i v σ H Q q)⟩
theorem pgsImp {e : List Expr} {t t' : TGs} (h : PGs X e t) (i : ∀ v σ H Q, t' v σ H Q → t v σ H Q) : PGs X e t' := ⟨fun pins s σ H v u Q I r q => h.run pins s σ H v u Q I r (i v σ H Q q)⟩
theorem snd_nm {e : Expr} {i : Nat} (h : PG X e (gName i)) : PG X e (LGt Z (.nm i)) := by
  refine pgImp h fun v σ H Q ⟨F, ρ, x, ρ', s, r, e, q⟩ => ?_
  simp only [bindT, store] at e
  split at e
  · cases e
    refine q _ (put_d s r) (fun j hj => ?_) (by rw [List.length_set])
    have : i ≠ j := fun z => hj (by rw [z]; simp only [slots, List.mem_singleton])
    rw [List.getElem?_set_ne this]
  · cases e
theorem snd_tnil : PGs X [] (LGts Z []) := by
  refine pgsImp pgs_nil fun v σ H Q ⟨F, ρ, xs, ρ', s, r, e, q⟩ => ?_
  cases xs with
  | nil =>
    simp only [bindTs, Option.some.injEq] at e
    subst e
    exact ⟨r.inv0, q σ (.refl s) (fun _ _ => rfl) rfl⟩
  | cons x xs => simp [bindTs] at e
theorem snd_tcons {e : Expr} {es : List Expr} {t : Tg} {ts : List Tg} (h : PG X e (LGt Z t)) (h2 : PGs X es (LGts Z ts)) (hs : (assignEach (e :: es) X.env).map (·.2) = PySem.assign e X.env :: (assignEach es X.env).map (·.2)) : PGs X (e :: es) (LGts Z (t :: ts)) := by
  refine pgsImp (pgs_cons h h2 hs) fun v σ H Q ⟨F, ρ, xs, ρ', s, r, e, q⟩ => ?_
  cases xs with
  | nil => simp [bindTs] at e
  | cons x xs =>
    simp only [bindTs] at e
    obtain ⟨ρ1, e1, e2⟩ := Option.bind_eq_some_iff.mp e
    obtain ⟨w, vs, rfl, r1, r2⟩ := r.inv
    refine ⟨w, vs, rfl, F, ρ, x, ρ1, s, r1, e1, fun σ1 p1 k1 l1 => ⟨F, ρ1, xs, ρ', p1.st, r2, e2, fun σ2 p2 k2 l2 => q σ2 (p1.trans p2) (fun i hi => ?_) (l2.trans l1)⟩⟩
    simp only [slotss, List.mem_append, not_or] at hi
    rw [k2 i hi.2, k1 i hi.1]
theorem bindTs_len : ∀ {ts : List Tg} {xs : List D} {ρ ρ' : Ev}, bindTs ts xs ρ = some ρ' → xs.length = ts.length
  | [], xs, ρ, ρ', h => by
    cases xs with
    | nil => rfl
    | cons x xs => simp [bindTs] at h
  | t :: ts, xs, ρ, ρ', h => by
    cases xs with
    | nil => simp [bindTs] at h
    | cons x xs =>
      simp only [bindTs] at h
      obtain ⟨ρ1, e1, e2⟩ := Option.bind_eq_some_iff.mp h
      rw [List.length_cons, List.length_cons, bindTs_len e2]
theorem snd_tp {es : List Expr} {ts : List Tg} {k : Nat} {pos : Pos} (hK : X.K = Z.K) (hc : X.calm = true) (h : PGs X es (LGts Z ts)) (hn : (assignEach es X.env).length = ts.length) (hst : (assignEach es X.env).findIdx? (·.1) = none) :
    PG X (.Tuple es k pos) (LGt Z (.tp ts)) := by
  refine pgImp (pg_tup hc h hn hst) fun v σ H Q ⟨F, ρ, x, ρ', s, r, e, q⟩ => ?_
  cases x with
  | tup xs =>
    simp only [bindT] at e
    obtain ⟨a, vs, rfl, sq, rs'⟩ := Rp.inv_tup r
    exact ⟨a, vs, rfl, by rw [hK]; exact sq, by rw [← rs'.len]; exact bindTs_len e, F, ρ, xs, ρ', s, rs', e, q⟩
  | _ => simp [bindT] at e
/-! ### slots forgotten, put back -/
theorem wipeE_len : ∀ (own : List Nat) (ρ : Ev), (wipe ρ own).length = ρ.length
  | [], _ => rfl
  | i :: own, ρ => by simp only [wipe, List.length_set, wipeE_len own]
theorem wipeE_in : ∀ {own : List Nat} {ρ : Ev} {i : Nat} {w : W}, (wipe ρ own)[i]? = some (some w) → i ∉ own ∧ ρ[i]? = some (some w)
  | [], ρ, i, w, h => ⟨by simp, h⟩
  | j :: own, ρ, i, w, h => by
    simp only [wipe] at h
    rcases getset h with ⟨rfl, z, _⟩ | ⟨hn, z⟩
    · cases z
    · obtain ⟨h1, h2⟩ := wipeE_in z
      exact ⟨by simp only [List.mem_cons, not_or]; exact ⟨hn, h1⟩, h2⟩
theorem wipeE_out : ∀ {own : List Nat} {ρ : Ev} {i : Nat}, i ∉ own → (wipe ρ own)[i]? = ρ[i]?
  | [], ρ, i, h => rfl
  | j :: own, ρ, i, h => by
    simp only [List.mem_cons, not_or] at h
    simp only [wipe]
    rw [List.getElem?_set_ne (Ne.symm h.1), wipeE_out h.2]
theorem back_len : ∀ (own : List Nat) (ρ0 ρ : Ev), (back ρ0 ρ own).length = ρ.length
  | [], _, _ => rfl
  | i :: own, ρ0, ρ => by simp only [back, List.length_set, back_len own]
theorem back_in : ∀ {own : List Nat} {ρ0 ρ : Ev} {i : Nat}, i ∈ own → i < ρ.length → (back ρ0 ρ own)[i]? = some (ρ0[i]?.getD none)
  | j :: own, ρ0, ρ, i, h, hl => by
    simp only [back]
    by_cases e : i = j
    · subst e
      rw [List.getElem?_set_self (by rw [back_len]; exact hl)]
    · rw [List.getElem?_set_ne (Ne.symm e)]
      rcases List.mem_cons.mp h with z | z
      · exact absurd z e
      · exact back_in z hl
theorem back_out : ∀ {own : List Nat} {ρ0 ρ : Ev} {i : Nat}, i ∉ own → (back ρ0 ρ own)[i]? = ρ[i]?
  | [], _, _, _, _ => rfl
  | j :: own, ρ0, ρ, i, h => by
    simp only [List.mem_cons, not_or] at h
    simp only [back]
    rw [List.getElem?_set_ne (Ne.symm h.1), back_out h.2]
/-- fewer slots -/
theorem wipe_path (own : List Nat) (s : Sta Z F H σ ρ) : Path Z σ F H ρ (L2.wipe σ own) F H (wipe ρ own) := by
  have key : ∀ (i : Nat) (w : W), (wipe ρ own)[i]? = some (some w) → ρ[i]? = some (some w) ∧ (L2.wipe σ own)[i]? = σ[i]? := fun i w h => by
    obtain ⟨h1, h2⟩ := wipeE_in h
    exact ⟨h2, wipe_out h1⟩
  refine ⟨⟨by rw [wipeE_len, wipe_length]; exact s.len, fun i w e => ?_, fun i j wi wj a ei ej hi hj si sj => ?_, s.tabs, s.ft⟩, .refl, fun b ⟨i, w, e, ho, es⟩ => .inl ?_, fun i w h pw => ⟨⟨w, (key i w h).1, pw⟩, (key i w h).2⟩⟩
  · obtain ⟨h1, h2⟩ := key i w e
    rw [h2]
    exact s.rep i w h1
  · obtain ⟨h1, h2⟩ := key i wi ei
    obtain ⟨h3, h4⟩ := key j wj ej
    rw [h2] at si
    rw [h4] at sj
    exact s.inj _ _ _ _ _ h1 h3 hi hj si sj
  · obtain ⟨h1, h2⟩ := key i w e
    rw [h2] at es
    exact own_of h1 ho es
/-- back to the outer slots -/
theorem back_path (own : List Nat) (s : Sta Z F1 H1 σ ρ1) (p : Path Z (L2.wipe σ own) F1 H1 (wipe ρ1 own) (L2.wipe σ own) F H ρ) : Path Z σ F1 H1 ρ1 σ F H (back ρ1 ρ own) ∧ (∀ b, Own σ (back ρ1 ρ own) b → Own σ ρ1 b ∨ Own (L2.wipe σ own) ρ b) := by
  have hlen : ρ.length = ρ1.length := by rw [p.st.len, wipe_length, s.len]
  have w0 := wipe_path own s
  have key : ∀ (i : Nat) (w : W), (back ρ1 ρ own)[i]? = some (some w) → (i ∈ own ∧ ρ1[i]? = some (some w)) ∨ (i ∉ own ∧ ρ[i]? = some (some w) ∧ (L2.wipe σ own)[i]? = σ[i]?) := fun i w h => by
    by_cases hi : i ∈ own
    · have hl : i < ρ.length := by
        have := (List.getElem?_eq_some_iff.mp h).1
        rwa [back_len] at this
      rw [back_in hi hl] at h
      refine .inl ⟨hi, ?_⟩
      have h := Option.some.inj h
      cases q : ρ1[i]? with
      | none => rw [q] at h; cases h
      | some z => rw [q] at h; exact congrArg some h
    · rw [back_out hi] at h
      exact .inr ⟨hi, h, wipe_out hi⟩
  have u : Up F1 H1 F H := w0.st.up p.sp
  have own2 : ∀ b, Own σ (back ρ1 ρ own) b → Own σ ρ1 b ∨ Own (L2.wipe σ own) ρ b := fun b ⟨i, w, e, ho, es⟩ => by
    rcases key i w e with ⟨_, h⟩ | ⟨hi, h, h2⟩
    · exact .inl (own_of h ho es)
    · rw [← h2] at es
      exact .inr (own_of h ho es)
  have own' : ∀ b, Own σ (back ρ1 ρ own) b → Own σ ρ1 b ∨ NoO (H1 b) := fun b h => by
    rcases own2 b h with h | h
    · exact .inl h
    · rcases p.sub b h with z | z
      · rcases w0.sub b z with z | z
        · exact .inl z
        · exact .inr z
      · exact .inr z
  -- a list of a slot that was forgotten
  have off : ∀ (i : Nat) (w : W) a, i ∈ own → ρ1[i]? = some (some w) → isOwn w = true → σ[i]? = some (some (V.ref a)) → ¬ Own (L2.wipe σ own) (wipe ρ1 own) a := fun i w a hi e ho es ⟨j, w', ej, hj, sj⟩ => by
    obtain ⟨k1, k2⟩ := wipeE_in ej
    rw [wipe_out k1] at sj
    have : i = j := s.inj _ _ _ _ _ e k2 ho hj es sj
    exact k1 (by rw [← this]; exact hi)
  refine ⟨⟨⟨by rw [back_len, hlen]; exact s.len, fun i w e => ?_, fun i j wi wj a ei ej hi hj si sj => ?_, p.st.tabs, p.st.ft⟩, w0.sp.trans p.sp (fun x h => w0.sub x h), own', fun i w e pw => ?_⟩, own2⟩
  · rcases key i w e with ⟨hi, h⟩ | ⟨hi, h, h2⟩
    · obtain ⟨v, ev, r⟩ := s.rep i w h
      refine ⟨v, ev, r.up u fun a ea ho => ?_⟩
      subst ea
      have no := off i w a hi h ho ev
      have hk := s.kind (own_of h ho ev)
      refine ⟨fun o eo => p.sp.keep a o eo no fun ps z => ?_, fun z => ?_⟩
      · subst z
        rcases hk.1 with ⟨_, y⟩ | ⟨_, y⟩ | ⟨_, y⟩ <;> · rw [eo] at y; cases y
      · rcases p.sp.fout a z with y | y | y
        · exact hk.2 y
        · rcases hk.1 with ⟨_, x⟩ | ⟨_, x⟩ | ⟨_, x⟩ <;> · rw [x] at y; cases y
        · exact no y
    · rw [← h2]
      exact p.st.rep i w h
  · have cross : ∀ (i j : Nat) (wi wj : W), i ∈ own → ρ1[i]? = some (some wi) → isOwn wi = true → σ[i]? = some (some (V.ref a)) → j ∉ own → ρ[j]? = some (some wj) → isOwn wj = true → (L2.wipe σ own)[j]? = some (some (V.ref a)) → False := fun i j wi wj hi ei ho si hj ej hoj sj => by
      rcases p.sub a (own_of ej hoj sj) with z | z
      · exact off i wi a hi ei ho si z
      · have hk := s.kind (own_of ei ho si)
        rcases hk.1 with ⟨_, x⟩ | ⟨_, x⟩ | ⟨_, x⟩ <;> · rw [x] at z; cases z
    rcases key i wi ei with ⟨ii, h⟩ | ⟨ii, h, h2⟩
    · rcases key j wj ej with ⟨jj, h'⟩ | ⟨jj, h', h2'⟩
      · exact s.inj _ _ _ _ _ h h' hi hj si sj
      · exact (cross i j wi wj ii h hi si jj h' hj (by rw [h2']; exact sj)).elim
    · rcases key j wj ej with ⟨jj, h'⟩ | ⟨jj, h', h2'⟩
      · exact (cross j i wj wi jj h' hj sj ii h hi (by rw [h2]; exact si)).elim
      · exact p.st.inj _ _ _ _ _ h h' hi hj (by rw [h2]; exact si) (by rw [h2']; exact sj)
  · rcases key i w e with ⟨_, h⟩ | ⟨hi, h, h2⟩
    · exact ⟨⟨w, h, pw⟩, rfl⟩
    · obtain ⟨⟨w1, z1, z2⟩, _⟩ := p.pp i w h pw
      exact ⟨⟨w1, (wipeE_in z1).2, z2⟩, rfl⟩
/-! ### a new list that grows -/
/-- the new list at D, which no slot holds -/
structure CI (Z : Wo) (σ0 : L2.St) (F0 : Fz) (H0 : Hp) (ρ0 : Ev) (D : Addr) (σ : L2.St) (F : Fz) (H : Hp) (ρ : Ev) (acc : List Ev.D) : Prop where
  path : Path Z σ0 F0 H0 ρ0 σ F H ρ
  lst : ∃ vs, H D = some (.lst vs) ∧ Rps Z F H acc vs
  nf : ¬ F D
  no : ¬ Own σ ρ D
theorem CI.step {D : Addr} {acc : List Ev.D} (c : CI Z σ0 F0 H0 ρ0 D σ F H ρ acc) (p : Path Z σ F H ρ σ' F' H' ρ') : CI Z σ0 F0 H0 ρ0 D σ' F' H' ρ' acc := by
  obtain ⟨vs, e, r⟩ := c.lst
  refine ⟨c.path.trans p, ⟨vs, p.sp.keep D _ e c.no (fun _ z => by cases z), r.up (c.path.st.up p.sp)⟩, fun z => ?_, fun z => ?_⟩
  · rcases p.sp.fout D z with y | y | y
    · exact c.nf y
    · rw [e] at y; cases y
    · exact c.no y
  · rcases p.sub D z with y | y
    · exact c.no y
    · rw [e] at y; cases y
theorem CI.grow {D : Addr} {acc ys : List Ev.D} {ws : List V} (c : CI Z σ0 F0 H0 ρ0 D σ F H ρ acc) (h0 : H0 D = none) (r : Rps Z F H ys ws) : CI Z σ0 F0 H0 ρ0 D σ F (upd H D (.lst ws)) ρ ys := by
  obtain ⟨vs, e, _⟩ := c.lst
  have u : Up F H F (upd H D (.lst ws)) := ⟨fun c vs q => by
      rw [upd_ne (ne_of q e (by intro z; cases z))]; exact q, fun c o w q => by
      rw [upd_ne (ne_of q e (by intro z; cases z))]; exact q, fun _ f => f, fun b vs f q => by
      rw [upd_ne (fun z => c.nf (by rw [← z]; exact f))]; exact q⟩
  have th : ∀ b, ¬ NoO (H b) → ¬ NoO ((upd H D (.lst ws)) b) := fun b n => by
    by_cases z : b = D
    · rw [z, upd_same]; exact id
    · rw [upd_ne z]; exact n
  refine ⟨⟨⟨c.path.st.len, fun i w ei => ?_, c.path.st.inj, ?_, fun b f => th b (c.path.st.ft b f)⟩, ⟨fun b o eb nb t => ?_, fun b n => th b (c.path.sp.there b n), c.path.sp.fin, c.path.sp.fout⟩, c.path.sub, c.path.pp⟩, ⟨ws, upd_same, r.up u⟩, c.nf, c.no⟩
  · obtain ⟨v, ev, rw'⟩ := c.path.st.rep i w ei
    refine ⟨v, ev, rw'.up u fun a ea ho => ?_⟩
    subst ea
    have ow := own_of ei ho ev
    exact ⟨fun o q => by rw [upd_ne (fun z => c.no (by rw [← z]; exact ow))]; exact q, (c.path.st.kind ow).2⟩
  · intro t ht
    obtain ⟨ps, h1', h2', h3'⟩ := c.path.st.tabs t ht
    refine ⟨ps, ?_, h2', fun pos cv hc => ?_⟩
    · rw [upd_ne (ne_of h1' e (by intro z; cases z))]; exact h1'
    · obtain ⟨cc, ec, hcc⟩ := h3' pos cv hc
      refine ⟨cc, ec, ?_⟩
      rw [upd_ne (ne_of hcc e (by unfold LamX.CodeO; intro z; cases z))]
      exact hcc
  · rw [upd_ne (fun z => by rw [z, h0] at eb; cases eb)]
    exact c.path.sp.keep b o eb nb t
/-- an item that is kept -/
theorem CI.keep {D : Addr} {acc : List Ev.D} {o : O} {v : V} {x : Ev.D} (c : CI Z σ0 F0 H0 ρ0 D σ F H ρ acc) (h : Out Z F H σ ρ o v) (hn : isNew o = true → v ≠ .ref D) (f : Frs H0 o v) (e : Ev.keep ρ o = some (x, ρ2)) :
    ∃ F2, CI Z σ0 F0 H0 ρ0 D σ F2 H ρ2 acc ∧ Rp Z F2 H x v := by
  obtain ⟨F2, p2, rx, u, fr, ow⟩ := keep_ok c.path h f e
  obtain ⟨vs, eD, r⟩ := c.lst
  refine ⟨F2, ⟨p2, ⟨vs, eD, r.up u⟩, fun z => ?_, fun z => c.no (ow _ z)⟩, rx⟩
  rcases fr D z with y | ⟨y1, y2 | y2⟩
  · exact c.nf y
  · exact hn y2 y1
  · exact c.no y2
theorem CI.keep' {D : Addr} {acc : List Ev.D} {o : O} {v : V} {x : Ev.D} (c : CI Z σ0 F0 H0 ρ0 D σ F H ρ acc) (h : Out Z F H σ ρ o v) (hn : isNew o = true → v ≠ .ref D) (f : Frs H0 o v) (e : Ev.keep ρ o = some (x, ρ2)) :
    ∃ F2, CI Z σ0 F0 H0 ρ0 D σ F2 H ρ2 acc ∧ Rp Z F2 H x v ∧ (∀ b, F b → F2 b) ∧ ∀ b, Own σ ρ2 b → Own σ ρ b := by
  obtain ⟨F2, p2, rx, u, fr, ow⟩ := keep_ok c.path h f e
  obtain ⟨vs, eD, r⟩ := c.lst
  refine ⟨F2, ⟨p2, ⟨vs, eD, r.up u⟩, fun z => ?_, fun z => c.no (ow _ z)⟩, rx, u.fin, ow⟩
  rcases fr D z with y | ⟨y1, y2 | y2⟩
  · exact c.nf y
  · exact hn y2 y1
  · exact c.no y2
/-- slots forgotten, with as many left alone -/
theorem wipe_same {own : List Nat} {σ σ' : L2.St} (k : ∀ i, i ∉ own → σ'[i]? = (L2.wipe σ own)[i]?) (l : σ'.length = (L2.wipe σ own).length) : L2.wipe σ' own = L2.wipe σ own := by
  have gi : ∀ {own : List Nat} {σ : L2.St} {i : Nat}, i ∈ own → i < σ.length → (L2.wipe σ own)[i]? = some none := by
    intro own
    induction own with
    | nil => intro σ i h; cases h
    | cons j own ih =>
      intro σ i h hl
      unfold L2.wipe
      by_cases e : i = j
      · subst e
        rw [List.getElem?_set_self (by rw [wipe_length]; exact hl)]
      · rw [List.getElem?_set_ne (Ne.symm e)]
        rcases List.mem_cons.mp h with z | z
        · exact absurd z e
        · exact ih z hl
  apply List.ext_getElem?
  intro i
  by_cases hi : i ∈ own
  · by_cases hl : i < σ.length
    · rw [gi hi hl, gi hi (by rw [l, wipe_length]; exact hl)]
    · rw [List.getElem?_eq_none (by rw [wipe_length, l, wipe_length]; omega), List.getElem?_eq_none (by rw [wipe_length]; omega)]
  · rw [wipe_out hi]
    exact k i hi
/-! ### the list comprehension -/
/-- the relation of a test in a turn -/
theorem here {rel : Rel α β} {f : Ev → R α} {Q : β → Hp → Prop} (s : Sta Z F H σ ρ) (h : PostG Z E rel σ F H ρ (f ρ) Q) : LG Z E rel f σ H Q := ⟨F, H, ρ, F, ρ, .refl s, h⟩
theorem snd_comp {elt tg iter : Expr} {ifs : List Expr} {scope : Scope} {own : List (Str × Nat)} {ow : List Nat} {pos : Pos} {gi : Ev → R (List D × List Nat)} {t : Tg} {ft : Ev → R Bool} {fe : Ev → R O} (hc : X.calm = true) (hN : X.N.Nodup) (hi : PI X tg iter (LI Z E gi)) (ok : BlkOk X.N X.env.scope scope own)
    (hw : own.map (·.2) = ow) (hts : ∀ i ∈ slots t, i ∈ ow)
    (hg : ∀ (s : Shared) (H : Hp) (C : Addr) (cl : List (Str × Addr)) (fp : List Addr), PG (X.blk s H scope (compEnvC scope cl C X.env) fp) tg (LGt Z t)) (ht : ∀ (s : Shared) (H : Hp) (C : Addr) (cl : List (Str × Addr)) (fp : List Addr), PTs (X.blk s H scope (compEnvC scope cl C X.env) fp) ifs (LT Z E0 ft))
    (he : ∀ (s : Shared) (H : Hp) (C : Addr) (cl : List (Str × Addr)) (fp : List Addr), PE (X.blk s H scope (compEnvC scope cl C X.env) fp) elt (LE Z E0 fe)) (hs : ∀ x, foldedSetIterable iter X.env x = pure x) :
    PE X (.ListComp elt [⟨tg, iter, ifs, 0⟩] scope pos) (LE Z E fun ρ => (gi ρ).bind fun p ρ1 => compEnd ow ρ1 p.2 (walkL (compTurn ow ρ1 p.2 t ft fe) p.1 [] (wipe ρ1 ow))) := by
  subst hw
  refine peImp (pe_lc hc hN hi ok hg ht he hs) fun σ H Q q => lcImp hts q
where
  lcImp {σ : L2.St} {H : Hp} {Q : VK} {gi : Ev → R (List D × List Nat)} {ow : List Nat} {t : Tg} {ft : Ev → R Bool} {fe : Ev → R O} (hts : ∀ i ∈ slots t, i ∈ ow)
      (q : LE Z E (fun ρ => (gi ρ).bind fun p ρ1 => compEnd ow ρ1 p.2 (walkL (compTurn ow ρ1 p.2 t ft fe) p.1 [] (wipe ρ1 ow))) σ H Q) :
      tLc (LI Z E gi) (LGt Z t) (LT Z E0 ft) (LE Z E0 fe) ow σ H Q := by
    obtain ⟨F0, H0, ρ0, F, ρ, p, post⟩ := q
    refine run p post fun xw ρ1 J F1 H1 p1 p01 r post => ?_
    obtain ⟨xs, ws⟩ := xw
    obtain ⟨St, iw, hst⟩ := r
    intro D hD
    -- what came of it
    unfold compEnd at post
    cases e : walkL (compTurn ow ρ1 ws t ft fe) xs [] (wipe ρ1 ow) with
    | stuck => simp only [e, R.bind_stuck, R.calm] at post; exact post.elim
    | exc c ρ5 => simp only [e, R.bind_exc, R.calm] at post; exact post.elim
    | ok accf ρ5 =>
      simp only [e, R.bind_ok] at post
      by_cases hs5 : stands ρ1 ρ5 ws = true
      · rw [if_pos hs5] at post
        have w0 := wipe_path ow p01.st
        have n1 : ¬ F1 D := fun f => p01.st.ft D f (.none hD)
        have c0 : CI Z (L2.wipe σ ow) F1 H1 (wipe ρ1 ow) D (L2.wipe σ ow) F1 (upd H1 D (.lst [])) (wipe ρ1 ow) [] := by
          have sm : Same H1 (upd H1 D (.lst [])) := fun b o e => by
            rw [upd_ne (fun z => by rw [z, hD] at e; cases e)]; exact e
          refine ⟨(Path.refl w0.st).same sm, ⟨[], upd_same, .nil⟩, n1, fun z => ?_⟩
          rcases (w0.st.kind z).1 with ⟨_, y⟩ | ⟨_, y⟩ | ⟨_, y⟩ <;> · rw [hD] at y; cases y
        refine ⟨fun i m H => m = xs.length - i ∧ i ≤ xs.length ∧ ∃ F ρ acc, CI Z (L2.wipe σ ow) F1 H1 (wipe ρ1 ow) D (L2.wipe σ ow) F H ρ acc ∧ walkL (compTurn ow ρ1 ws t ft fe) (xs.drop i) acc ρ = .ok accf ρ5,
          ⟨xs.length, by omega, Nat.zero_le _, F1, wipe ρ1 ow, [], c0, by rw [List.drop_zero]; exact e⟩, ?_⟩
        rintro i m H ⟨rfl, hi, F, ρ, acc, c, ew⟩
        -- the walked things stand
        have std : stands ρ1 ρ ws = true → St F H := fun h => by
          refine hst _ _ _ _ ((w0.trans c.path).later p01.st) (fun j hj => ?_) h
          obtain ⟨p', q', ys, e1, e2⟩ := stands_get h hj
          obtain ⟨v, ev, _⟩ := c.path.st.rep j _ e2
          obtain ⟨h1, h2⟩ := wipe_some ev
          rw [ev, h1]
        rcases Nat.lt_or_ge i xs.length with hlt | hge
        · -- one more turn
          have ed : xs.drop i = xs[i] :: xs.drop (i + 1) := List.drop_eq_getElem_cons hlt
          rw [ed] at ew
          simp only [walkL] at ew
          have hsd : stands ρ1 ρ ws = true := by
            cases b : stands ρ1 ρ ws with
            | true => rfl
            | false => simp [compTurn, b] at ew
          simp only [compTurn, hsd, if_true] at ew
          refine .inr ⟨iw.go i F H (std hsd) hlt, fun H => ∃ F ρ acc, CI Z (L2.wipe σ ow) F1 H1 (wipe ρ1 ow) D (L2.wipe σ ow) F H ρ acc ∧ walkL (compTurn ow ρ1 ws t ft fe) (xs.drop (i + 1)) acc ρ = .ok accf ρ5,
            fun H' nx => ⟨xs.length - (i + 1), by omega, rfl, hlt, nx⟩, fun v H' y => ?_⟩
          obtain ⟨sm, rx⟩ := iw.yld i xs[i] F H v H' (std hsd) (List.getElem?_eq_getElem hlt) y
          have c1 := c.step ((Path.refl c.path.st).same sm)
          cases eb : bindT t xs[i] ρ with
          | none => rw [eb] at ew; simp at ew
          | some ρ2 =>
            rw [eb] at ew
            simp only [R.opt_some] at ew
            refine ⟨F, ρ, xs[i], ρ2, c1.path.st, rx, eb, fun σ2 pb kb lb => ?_⟩
            have c2 := c1.step pb
            have hwp : L2.wipe σ2 ow = L2.wipe σ ow := by
              refine wipe_same (fun j hj => kb j fun z => hj (hts j z)) lb
            refine ⟨hwp, here c2.path.st ?_⟩
            unfold ifB at ew
            cases et : ft ρ2 with
            | stuck => rw [et] at ew; simp at ew
            | exc k ρ3 => rw [et] at ew; simp at ew
            | ok b ρ3 =>
              rw [et] at ew
              simp only [R.bind_ok] at ew
              intro b' F3 H3 p3 eb'
              have eb' : b' = b := eb'
              subst eb'
              have c3 := c2.step p3
              have p3' : Sta Z F3 H3 σ2 ρ3 := p3.st
              cases b' with
              | false =>
                simp only [Bool.false_eq_true, if_false, R.bind_ok] at ew ⊢
                have wp := wipe_path ow p3'
                rw [hwp] at wp
                exact ⟨F3, wipe ρ3 ow, acc, c3.step wp, ew⟩
              | true =>
                simp only [if_true] at ew ⊢
                refine here p3' ?_
                cases ee : fe ρ3 with
                | stuck => rw [ee] at ew; simp at ew
                | exc k ρ4 => rw [ee] at ew; simp at ew
                | ok o ρ4 =>
                  rw [ee] at ew
                  simp only [R.bind_ok] at ew
                  intro y4 F4 H4 p4 r4
                  have c4 := c3.step p4
                  cases ek : keep ρ4 o with
                  | none => rw [ek] at ew; simp at ew
                  | some kp =>
                    obtain ⟨x5, ρ5'⟩ := kp
                    rw [ek] at ew
                    simp only [R.opt_some] at ew
                    split at ew
                    · rename_i hlen
                      simp only [R.bind_ok] at ew
                      obtain ⟨F5, c5, rx5⟩ := c4.keep r4.1 (fun hn z => by
                        obtain ⟨vs, eD, _⟩ := c3.lst
                        have q := r4.2 hn D z
                        rw [eD] at q
                        cases q) (r4.2.back c3.path) ek
                      obtain ⟨vs, eD, rvs⟩ := c5.lst
                      have wp := wipe_path ow c5.path.st
                      rw [hwp] at wp
                      have c6 := c5.step wp
                      refine ⟨vs, eD, by rw [← rvs.len, sizeLine_eq]; exact hlen, F5, wipe ρ5' ow, acc ++ [x5], ?_, ew⟩
                      exact c6.grow hD (rvs.append (.cons rx5 .nil))
                    · simp at ew
        · -- the end
          have ei : i = xs.length := by omega
          subst ei
          rw [List.drop_length] at ew
          simp only [walkL, R.ok.injEq] at ew
          obtain ⟨rfl, rfl⟩ := ew
          refine .inl ⟨iw.stop F H (std hs5), ?_⟩
          obtain ⟨vs, eD, rvs⟩ := c.lst
          obtain ⟨pb, ob⟩ := back_path ow p01.st c.path
          refine post (.ref D) F H (p01.trans pb) ⟨⟨D, vs, rfl, eD, rvs, c.nf, fun z => ?_⟩, fun _ a ea => ?_⟩
          · rcases ob D z with z | z
            · rcases (p01.st.kind z).1 with ⟨_, y⟩ | ⟨_, y⟩ | ⟨_, y⟩ <;> · rw [hD] at y; cases y
            · exact c.no z
          · cases ea
            exact .of_not fun y => p01.sp.there D y (.none hD)
      · rw [if_neg hs5] at post
        exact post.elim
end
end Ev
/-! Ev10: statements. -/
namespace Ev
open PySem PySem.Spec PyProof.Rows L2
section
variable {n : Nat} {E : XK} {X : Cx} {Z : Wo} {σ σ' σ0 σ1 σ2 : L2.St} {F F' F0 F1 F2 : Fz} {H H' H1 H0 H2 : Hp} {ρ ρ' ρ0 ρ1 ρ2 : Ev} {A B : List Nat} {α β γ δ : Type} {D D' : Ends}
/-- all slots but those of A are as they were -/
structure Agr (A : List Nat) (σ σ' : L2.St) : Prop where
  len : σ'.length = σ.length
  out : ∀ i, i ∉ A → σ'[i]? = σ[i]?
theorem Agr.refl : Agr A σ σ := ⟨rfl, fun _ _ => rfl⟩
theorem Agr.trans (a : Agr A σ σ1) (b : Agr A σ1 σ2) : Agr A σ σ2 := ⟨b.len.trans a.len, fun i h => (b.out i h).trans (a.out i h)⟩
theorem Agr.mono (a : Agr A σ σ') (h : ∀ i ∈ A, i ∈ B) : Agr B σ σ' := ⟨a.len, fun i n => a.out i fun z => n (h i z)⟩
def PostS (Z : Wo) (E : XK) (A : List Nat) (σ : L2.St) (F : Fz) (H : Hp) (ρ : Ev) (r : R Fl) (D : Ends) : Prop := match r with
  | .ok fl ρ' => ∀ σ' F' H', Path Z σ F H ρ σ' F' H' ρ' → Agr A σ σ' → match fl with
    | .nx => D.nx σ' H'
    | .brk => D.bk σ' H'
    | .cont => D.ct σ' H'
    | .ret o => ∀ v, Out Z F' H' σ' ρ' o v → Frs H o v → D.rt v H'
  | .exc c ρ' => ∀ σ' F' H', Path Z σ F H ρ σ' F' H' ρ' → E (Z.cls c) none H'
  | .stuck => False
def LS (Z : Wo) (E : XK) (A : List Nat) (f : Ev → R Fl) : TS := fun D σ H => ∃ F ρ, Sta Z F H σ ρ ∧ PostS Z E A σ F H ρ (f ρ) D
theorem PostS.step {r : R Fl} (h : PostS Z E A σ F H ρ r D) (p : Path Z σ F H ρ σ1 F1 H1 ρ1) (a : Agr A σ σ1) : PostS Z E A σ1 F1 H1 ρ1 r D := by
  cases r with
  | ok fl ρ' =>
    intro σ' F' H' p' a'
    have z := h σ' F' H' (p.trans p') (a.trans a')
    cases fl with
    | nx => exact z
    | brk => exact z
    | cont => exact z
    | ret o => exact fun v ov fr => z v ov (fr.back p)
  | exc c ρ' => exact fun σ' F' H' p' => h σ' F' H' (p.trans p')
  | stuck => exact h
theorem PostS.mono {r : R Fl} (h : PostS Z E B σ F H ρ r D) (m : ∀ i ∈ A, i ∈ B) : PostS Z E A σ F H ρ r D := by
  cases r with
  | ok fl ρ' =>
    intro σ' F' H' p' a'
    exact h σ' F' H' p' (a'.mono m)
  | exc c ρ' => exact h
  | stuck => exact h
theorem psImp {st : Stmt} {t t' : TS} (h : PS X st t) (i : ∀ D σ H, t' D σ H → t D σ H) : PS X st t' := ⟨fun pins s σ H D I q => h.run pins s σ H D I (i D σ H q)⟩
theorem pssImp {st : List Stmt} {t t' : TS} (h : PSs X st t) (i : ∀ D σ H, t' D σ H → t D σ H) : PSs X st t' := ⟨fun pins s σ H D I q => h.run pins s σ H D I (i D σ H q)⟩
theorem PS.more {st : Stmt} {f : Ev → R Fl} (h : PS X st (LS Z E A f)) (m : ∀ i ∈ A, i ∈ B) : PS X st (LS Z E B f) := psImp h fun D σ H ⟨F, ρ, s, p⟩ => ⟨F, ρ, s, p.mono m⟩
theorem PSs.more {st : List Stmt} {f : Ev → R Fl} (h : PSs X st (LS Z E A f)) (m : ∀ i ∈ A, i ∈ B) : PSs X st (LS Z E B f) := pssImp h fun D σ H ⟨F, ρ, s, p⟩ => ⟨F, ρ, s, p.mono m⟩
/-- a part that is no statement runs -/
theorem partS {rel : Rel α β} {f : Ev → R α} {k : α → Ev → R Fl} {Q2 : β → Hp → Prop} (s : Sta Z F H σ ρ) (post : PostS Z E A σ F H ρ ((f ρ).bind k) D)
    (i : ∀ a ρ1 b F1 H1, f ρ = .ok a ρ1 → Path Z σ F H ρ σ F1 H1 ρ1 → rel σ H F1 H1 ρ1 a b → PostS Z E A σ F H ρ (k a ρ1) D → Q2 b H1) : LG Z E rel f σ H Q2 := by
  refine here s ?_
  cases e : f ρ with
  | ok a ρ1 =>
    rw [e] at post
    exact fun b F1 H1 p r => i a ρ1 b F1 H1 e p r post
  | exc c ρ1 =>
    rw [e] at post
    exact fun F1 H1 p => post σ F1 H1 p
  | stuck =>
    rw [e] at post
    exact post
/-! ### blocks -/
theorem snd_bnil : PSs X [] (LS Z E A fun ρ => .ok .nx ρ) := pssImp pss_nil fun D σ H ⟨F, ρ, s, p⟩ => p σ F H (.refl s) .refl
theorem snd_bcons {st : Stmt} {rest : List Stmt} {f g : Ev → R Fl} (h1 : PS X st (LS Z E A f)) (h2 : PSs X rest (LS Z E A g)) : PSs X (st :: rest) (LS Z E A fun ρ => (f ρ).bind fun fl ρ1 => match fl with
    | .nx => g ρ1
    | fl => .ok fl ρ1) := by
  refine pssImp (pss_cons h1 h2) fun D σ H ⟨F, ρ, s, p⟩ => ⟨F, ρ, s, ?_⟩
  cases e : f ρ with
  | stuck => simp only [e] at p; exact p
  | exc c ρ1 => simp only [e] at p; exact p
  | ok fl ρ1 =>
    simp only [e, R.bind_ok] at p
    intro σ' F' H' p' a'
    cases fl with
    | nx => exact ⟨F', ρ1, p'.st, p.step p' a'⟩
    | brk => exact p σ' F' H' p' a'
    | cont => exact p σ' F' H' p' a'
    | ret o => exact p σ' F' H' p' a'
theorem snd_pass {pos : Pos} : PS X (.Pass pos) (LS Z E A fun ρ => .ok .nx ρ) := psImp ps_pass fun D σ H ⟨F, ρ, s, p⟩ => p σ F H (.refl s) .refl
theorem snd_brk {pos : Pos} : PS X (.Break pos) (LS Z E A fun ρ => .ok .brk ρ) := psImp ps_break fun D σ H ⟨F, ρ, s, p⟩ => p σ F H (.refl s) .refl
theorem snd_cont {pos : Pos} : PS X (.Continue pos) (LS Z E A fun ρ => .ok .cont ρ) := psImp ps_continue fun D σ H ⟨F, ρ, s, p⟩ => p σ F H (.refl s) .refl
theorem snd_doc {x j pos pos'} : PS X (.Expr (.Constant (.str x) j pos) pos') (LS Z E A fun ρ => .ok .nx ρ) := psImp ps_doc fun D σ H ⟨F, ρ, s, p⟩ => p σ F H (.refl s) .refl
theorem snd_ex {e : Expr} {f : Ev → R O} {pos : Pos} (h : PE X e (LE Z E f)) (hs : swapsWith e none pos.line X.env = pure false) : PS X (.Expr e pos) (LS Z E A fun ρ => (f ρ).bind fun _ ρ1 => .ok .nx ρ1) :=
  psImp (ps_expr h hs) fun D σ H ⟨F, ρ, s, p⟩ => partS s p fun a ρ1 b F1 H1 _ p1 r post => post σ F1 H1 p1 .refl
theorem snd_ret {e : Expr} {f : Ev → R O} {pos : Pos} (h : PE X e (LE Z E f)) : PS X (.Return (some e) pos) (LS Z E A fun ρ => (f ρ).bind fun o ρ1 => .ok (.ret o) ρ1) :=
  psImp (ps_ret h) fun D σ H ⟨F, ρ, s, p⟩ => partS s p fun a ρ1 b F1 H1 _ p1 r post => post σ F1 H1 p1 .refl b r.1 r.2
theorem snd_retN {pos : Pos} : PS X (.Return none pos) (LS Z E A fun ρ => .ok (.ret (.d .non)) ρ) :=
  psImp ps_retN fun D σ H ⟨F, ρ, s, p⟩ => p σ F H (.refl s) .refl .non (by show Rp Z F H .non .non; simp only [Rp]) fun z => by cases z
theorem snd_if {c : Expr} {a b : List Stmt} {fc : Ev → R Bool} {fa fb : Ev → R Fl} {pos : Pos} (hc : PT X c (LT Z E fc)) (ha : PSs X a (LS Z E A fa)) (hb : PSs X b (LS Z E A fb)) : PS X (.If c a b pos) (LS Z E A fun ρ => ifB (fc ρ) fa fb) := by
  refine psImp (ps_if hc ha hb) fun D σ H ⟨F, ρ, s, p⟩ => partS s p fun b ρ1 b' F1 H1 _ p1 r post => ?_
  obtain rfl : b' = b := r
  cases b' with
  | true => exact ⟨F1, ρ1, p1.st, post.step p1 .refl⟩
  | false => exact ⟨F1, ρ1, p1.st, post.step p1 .refl⟩
/-! ### stores -/
theorem free_lt {i : Nat} (h : free ρ i = true) : i < ρ.length := by
  unfold free at h
  cases e : ρ[i]? with
  | none => rw [e] at h; cases h
  | some w => exact (List.getElem?_eq_some_iff.mp e).1
theorem agr_set {i : Nat} {v : V} (h : i ∈ A) : Agr A σ (σ.set i (some v)) := ⟨by rw [List.length_set], fun j hj => by
  rw [List.getElem?_set_ne (fun z => hj (by rw [← z]; exact h))]⟩
/-- a slot takes a new list, dict -/
theorem put_new {i : Nat} {w : W} {o : O} {v : V} (p : Path Z σ0 F0 H0 ρ0 σ F H ρ) (h : Out Z F H σ ρ o v) (f : Frs H0 o v) (hn : isNew o = true) (hw : (∃ xs, o = .L xs ∧ w = .L false xs) ∨ ∃ t kvs, o = .M t kvs ∧ w = .M false t kvs) :
    Path Z σ0 F0 H0 ρ0 (σ.set i (some v)) F H (ρ.set i (some w)) := by
  obtain ⟨a, ev, rw', na⟩ : ∃ a, v = .ref a ∧ RpW Z F H w v ∧ ¬ Own σ ρ a := by
    rcases hw with ⟨xs, rfl, rfl⟩ | ⟨t, kvs, rfl, rfl⟩
    · obtain ⟨a, vs, rfl, h1, h2, h3, h4⟩ := h
      exact ⟨a, rfl, ⟨a, vs, rfl, h1, h2, h3⟩, h4⟩
    · obtain ⟨a, rfl, h1, h3, h4⟩ := h
      exact ⟨a, rfl, ⟨a, rfl, h1, h3⟩, h4⟩
  subst ev
  have hp : isP w = false := by rcases hw with ⟨xs, rfl, rfl⟩ | ⟨t, kvs, rfl, rfl⟩ <;> rfl
  have own' : ∀ b, Own (σ.set i (some (.ref a))) (ρ.set i (some w)) b → Own σ ρ b ∨ b = a := fun b ⟨j, u, ej, ho, es⟩ => by
    rcases getset ej with ⟨rfl, z, hl⟩ | ⟨n1, z⟩
    · rw [p.st.len] at hl
      rw [List.getElem?_set_self hl] at es
      cases (Option.some.inj (Option.some.inj es))
      exact .inr rfl
    · rw [List.getElem?_set_ne (Ne.symm n1)] at es
      exact .inl (own_of z ho es)
  refine ⟨⟨by rw [List.length_set, List.length_set]; exact p.st.len, fun j u ej => ?_, fun j k wj wk b ej ek hj hk sj sk => ?_, p.st.tabs, p.st.ft⟩, p.sp, fun b ob => ?_, p.pp.trans fun j u ej pu => ?_⟩
  · rcases getset ej with ⟨rfl, z, hl⟩ | ⟨n1, z⟩
    · cases z
      rw [p.st.len] at hl
      exact ⟨_, List.getElem?_set_self hl, rw'⟩
    · rw [List.getElem?_set_ne (Ne.symm n1)]
      exact p.st.rep j u z
  · rcases getset ej with ⟨rfl, z, hl⟩ | ⟨n1, z⟩
    · rcases getset ek with ⟨rfl, z2, _⟩ | ⟨n2, z2⟩
      · rfl
      · rw [p.st.len] at hl
        rw [List.getElem?_set_self hl] at sj
        cases (Option.some.inj (Option.some.inj sj))
        rw [List.getElem?_set_ne (Ne.symm n2)] at sk
        exact absurd (own_of z2 hk sk) na
    · rcases getset ek with ⟨rfl, z2, hl⟩ | ⟨n2, z2⟩
      · rw [p.st.len] at hl
        rw [List.getElem?_set_self hl] at sk
        cases (Option.some.inj (Option.some.inj sk))
        rw [List.getElem?_set_ne (Ne.symm n1)] at sj
        exact absurd (own_of z hj sj) na
      · rw [List.getElem?_set_ne (Ne.symm n1)] at sj
        rw [List.getElem?_set_ne (Ne.symm n2)] at sk
        exact p.st.inj _ _ _ _ _ z z2 hj hk sj sk
  · rcases own' b ob with z | rfl
    · exact p.sub b z
    · exact .inr (f hn b rfl)
  · rcases getset ej with ⟨rfl, z, _⟩ | ⟨n1, z⟩
    · cases z
      rw [hp] at pu
      cases pu
    · exact ⟨⟨_, z, pu⟩, by rw [List.getElem?_set_ne (Ne.symm n1)]⟩
/-- what a slot's taking of a value leaves: what was frozen, what is held -/
structure Put (σ : L2.St) (F : Fz) (H : Hp) (ρ : Ev) (i : Nat) (o : O) (v : V) (F2 : Fz) (ρ2 : Ev) : Prop where
  up : Up F H F2 H
  fr : ∀ b, F2 b → F b ∨ (v = .ref b ∧ (isNew o = true ∨ Own σ ρ b))
  ow : ∀ b, Own (σ.set i (some v)) ρ2 b → Own σ ρ b ∨ (v = .ref b ∧ isNew o = true)
theorem ow_d {i : Nat} {x : Ev.D} {v : V} (b : Addr) (h : Own (σ.set i (some v)) (ρ.set i (some (.d x))) b) : Own σ ρ b := by
  obtain ⟨j, w, ej, ho, es⟩ := h
  rcases getset ej with ⟨rfl, z, _⟩ | ⟨n1, z⟩
  · cases z; cases ho
  · rw [List.getElem?_set_ne (Ne.symm n1)] at es
    exact own_of z ho es
theorem ow_F {i f : Nat} {v : V} (b : Addr) (h : Own (σ.set i (some v)) (ρ.set i (some (.F f))) b) : Own σ ρ b := by
  obtain ⟨j, w, ej, ho, es⟩ := h
  rcases getset ej with ⟨rfl, z, _⟩ | ⟨n1, z⟩
  · cases z; cases ho
  · rw [List.getElem?_set_ne (Ne.symm n1)] at es
    exact own_of z ho es
theorem ow_n {i : Nat} {w : W} {v : V} (hl : ρ.length = σ.length) (b : Addr) (h : Own (σ.set i (some v)) (ρ.set i (some w)) b) : Own σ ρ b ∨ v = .ref b := by
  obtain ⟨j, u, ej, ho, es⟩ := h
  rcases getset ej with ⟨rfl, z, hl2⟩ | ⟨n1, z⟩
  · rw [hl] at hl2
    rw [List.getElem?_set_self hl2] at es
    exact .inr (Option.some.inj (Option.some.inj es))
  · rw [List.getElem?_set_ne (Ne.symm n1)] at es
    exact .inl (own_of z ho es)
/-- name = value -/
theorem assign_ok {i : Nat} {o : O} {v : V} (p : Path Z σ0 F0 H0 ρ0 σ F H ρ) (h : Out Z F H σ ρ o v) (f : Frs H0 o v) (e : assign ρ i o = some ρ2) :
    ∃ F2, Path Z σ0 F0 H0 ρ0 (σ.set i (some v)) F2 H ρ2 ∧ Put σ F H ρ i o v F2 ρ2 := by
  cases o with
  | d x =>
    simp only [assign, store] at e
    split at e
    · cases e
      exact ⟨F, p.trans (put_d p.st h), .refl, fun _ z => .inl z, fun b z => .inl (ow_d b z)⟩
    · cases e
  | Z kvs => simp only [assign] at e; cases e
  | F f =>
    simp only [assign, store] at e
    split at e
    · cases e
      exact ⟨F, p.trans (put_F p.st h), .refl, fun _ z => .inl z, fun b z => .inl (ow_F b z)⟩
    · cases e
  | L xs =>
    simp only [assign, store] at e
    split at e
    · cases e
      exact ⟨F, put_new p h f rfl (.inl ⟨xs, rfl, rfl⟩), .refl, fun _ z => .inl z, fun b z => (ow_n p.st.len b z).imp id fun z => ⟨z, rfl⟩⟩
    · cases e
  | M t kvs =>
    simp only [assign, store] at e
    split at e
    · cases e
      exact ⟨F, put_new p h f rfl (.inr ⟨t, kvs, rfl, rfl⟩), .refl, fun _ z => .inl z, fun b z => (ow_n p.st.len b z).imp id fun z => ⟨z, rfl⟩⟩
    · cases e
  | bor j =>
    have hs : σ[j]? = some (some v) := h
    simp only [assign] at e
    split at e
    · rename_i xs q
      obtain ⟨v', e3, a, vs, e4, _⟩ := p.st.rep j _ q
      rw [hs] at e3
      have e5 := Option.some.inj (Option.some.inj e3)
      subst e5 e4
      obtain ⟨p2, r⟩ := frz_own p q hs
      simp only [store] at e
      split at e
      · cases e
        refine ⟨_, p2.trans (put_d p2.st r), .frz, fun b z => ?_, fun b z => .inl ?_⟩
        · rcases z with z | rfl
          · exact .inl z
          · exact .inr ⟨rfl, .inr (own_of q rfl hs)⟩
        · obtain ⟨k, w, ej, ho, es⟩ := ow_d b z
          rcases getset ej with ⟨rfl, z, _⟩ | ⟨hn, z⟩
          · cases z; cases ho
          · exact own_of z ho es
      · cases e
    · cases e
/-- another value behind it -/
theorem Out.put {i : Nat} {o o' : O} {v v' : V} (pu : Put σ F H ρ i o v F2 ρ2) (h : Out Z F H σ ρ o' v') (ap : isNew o = true → ∀ a, v = .ref a → isNew o' = true → v' ≠ .ref a) (nb : ∀ k, o' = .bor k → k ≠ i) : Out Z F2 H (σ.set i (some v)) ρ2 o' v' := by
  cases o' with
  | d x => exact Rp.up pu.up h
  | F f => exact h
  | Z kvs =>
    obtain ⟨a, e, h1⟩ := h
    exact ⟨a, e, h1.up pu.up⟩
  | L xs =>
    obtain ⟨a, vs, rfl, h1, h2, h3, h4⟩ := h
    refine ⟨a, vs, rfl, h1, h2.up pu.up, fun z => ?_, fun z => ?_⟩
    · rcases pu.fr a z with z | ⟨z1, z2 | z2⟩
      · exact h3 z
      · exact ap z2 a z1 rfl rfl
      · exact h4 z2
    · rcases pu.ow a z with z | ⟨z1, z2⟩
      · exact h4 z
      · exact ap z2 a z1 rfl rfl
  | M t kvs =>
    obtain ⟨a, rfl, h1, h3, h4⟩ := h
    refine ⟨a, rfl, h1.up pu.up fun _ q => q, fun z => ?_, fun z => ?_⟩
    · rcases pu.fr a z with z | ⟨z1, z2 | z2⟩
      · exact h3 z
      · exact ap z2 a z1 rfl rfl
      · exact h4 z2
    · rcases pu.ow a z with z | ⟨z1, z2⟩
      · exact h4 z
      · exact ap z2 a z1 rfl rfl
  | bor k =>
    have hs : σ[k]? = some (some v') := h
    show (σ.set i (some v))[k]? = _
    rw [List.getElem?_set_ne (Ne.symm (nb k rfl))]
    exact hs
def setAll (σ : L2.St) : List Nat → List V → L2.St
  | i :: is, v :: vs => setAll (σ.set i (some v)) is vs
  | _, _ => σ
theorem OutL.put {i : Nat} {o : O} {v : V} (pu : Put σ F H ρ i o v F2 ρ2) : ∀ {os : List O} {vs : List V}, (isNew o = true → ∀ a, v = .ref a → Apart a os vs) → (∀ k ∈ walked os, k ≠ i) → OutL Z H0 F H σ ρ os vs → OutL Z H0 F2 H (σ.set i (some v)) ρ2 os vs
  | [], _, _, _, h => h
  | o' :: os, _, ap, nb, h => by
    obtain ⟨w, r, rfl, h1, f, a, t⟩ := h
    refine ⟨w, r, rfl, Out.put pu h1 (fun n a e n' => (ap n a e).1 n') (fun k ek => nb k (by rw [ek]; exact List.mem_cons_self)), f, a, OutL.put pu (fun n a e => (ap n a e).2) (fun k hk => nb k ?_) t⟩
    cases o' <;> first | exact hk | exact List.mem_cons_of_mem _ hk
theorem assigns_ok : ∀ {is : List Nat} {os : List O} {vs : List V} {σ : L2.St} {F : Fz} {ρ ρ2 : Ev}, Path Z σ0 F0 H0 ρ0 σ F H ρ → OutL Z H0 F H σ ρ os vs → (∀ k ∈ walked os, k ∉ is) → assigns ρ is os = some ρ2 →
    ∃ F2, Path Z σ0 F0 H0 ρ0 (setAll σ is vs) F2 H ρ2
  | [], os, vs, σ, F, ρ, ρ2, p, h, nb, e => by
    cases os with
    | nil =>
      simp only [assigns, Option.some.injEq] at e
      subst e
      have e2 : vs = [] := h
      subst e2
      exact ⟨F, p⟩
    | cons o os => simp [assigns] at e
  | i :: is, os, vs, σ, F, ρ, ρ2, p, h, nb, e => by
    cases os with
    | nil => simp [assigns] at e
    | cons o os =>
      simp only [assigns] at e
      obtain ⟨ρ1, e1, e2⟩ := Option.bind_eq_some_iff.mp e
      obtain ⟨v, r, rfl, h1, f, ap, t⟩ := h
      obtain ⟨F2, p2, pu⟩ := assign_ok p h1 f e1
      have nb2 : ∀ k ∈ walked os, k ∈ walked (o :: os) := fun k hk => by
        cases o <;> first | exact hk | exact List.mem_cons_of_mem _ hk
      show ∃ F2, Path Z σ0 F0 H0 ρ0 (setAll (σ.set i (some v)) is r) F2 H ρ2
      exact assigns_ok p2 (OutL.put pu ap (fun k hk z => nb k (nb2 k hk) (by rw [z]; exact List.mem_cons_self)) t) (fun k hk z => nb k (nb2 k hk) (List.mem_cons_of_mem _ z)) e2
theorem agr_all : ∀ {is : List Nat} {vs : List V} {σ : L2.St}, Agr is σ (setAll σ is vs)
  | [], vs, σ => by
    unfold setAll
    exact .refl
  | i :: is, [], σ => by
    unfold setAll
    exact .refl
  | i :: is, v :: vs, σ => by
    unfold setAll
    exact (agr_set (A := i :: is) List.mem_cons_self).trans (agr_all.mono fun j hj => List.mem_cons_of_mem _ hj)
theorem nxt_some {o : Option Ev} (h : PostS Z E A σ F H ρ (nxt o) D) : ∃ ρ2, o = some ρ2 ∧ PostS Z E A σ F H ρ (.ok .nx ρ2) D := by
  cases o with
  | none => exact h.elim
  | some ρ2 => exact ⟨ρ2, rfl, h⟩
theorem setImp {e : Expr} {i : Nat} {f : Ev → R O} (hi : i ∈ A) : ∀ D σ H, LS Z E A (fun ρ => (f ρ).bind fun o ρ1 => nxt (assign ρ1 i o)) D σ H → tAsg (LE Z E f) (gName i) D σ H := fun D σ H ⟨F, ρ, s, p⟩ => partS s p fun o ρ1 v F1 H1 _ p1 r post => by
  obtain ⟨ρ2, e2, post⟩ := nxt_some post
  obtain ⟨F2, p2, _⟩ := assign_ok p1 r.1 r.2 e2
  exact post _ F2 H1 p2 (agr_set hi)
theorem snd_set {e : Expr} {i : Nat} {x : Str} {f : Ev → R O} {pos pos' : Pos} (hN : X.N.Nodup) (hi : X.N[i]? = some x) (hx : Loc X.env.scope x) (hf : X.fn x = true ∨ X.env.scope.names.lookup x = some .local) (he : PE X e (LE Z E f)) (hs : swapsWith e (some (.Name x pos')) pos.line X.env = pure false) :
    PS X (.Assign [.Name x pos'] e pos) (LS Z E [i] fun ρ => (f ρ).bind fun o ρ1 => nxt (assign ρ1 i o)) := psImp (ps_set hN hi hx he hs hf) (setImp (e := e) (List.mem_singleton.mpr rfl))
/-- a, (b, c) = a tuple of data -/
theorem snd_setT {tg e : Expr} {ts : List Tg} {f : Ev → R O} {pos : Pos} (he : PE X e (LE Z E f)) (hg : PG X tg (LGt Z (.tp ts))) (hs : swapsWithSole [tg] e pos.line X.env = pure false) (hw : swappedStores [tg] e X.env = pure none) (h1 : (assignEach [tg] X.env).map (·.2) = [PySem.assign tg X.env]) :
    PS X (.Assign [tg] e pos) (LS Z E (slotss ts) fun ρ => (f ρ).bind fun o ρ1 => match o with
      | .d x => nxt (bindT (.tp ts) x ρ1)
      | _ => .stuck) := by
  refine psImp (ps_asg he hg hs hw h1) fun D σ H ⟨F, ρ, s, p⟩ => partS s p fun o ρ1 v F1 H1 _ p1 r post => ?_
  cases o with
  | d x =>
    obtain ⟨ρ2, e2, post⟩ := nxt_some post
    exact ⟨F1, ρ1, x, ρ2, p1.st, r.1, e2, fun σ' p2 k l => post σ' F1 H1 (p1.trans p2) ⟨l, fun i hi => k i hi⟩⟩
  | _ => exact post.elim
/-! ### a, b = x, y -/
def parF (is : List Nat) (g : Ev → R (List O)) (ρ : Ev) : R Fl := (g ρ).bind fun os ρ1 => R.grd ((walked os).all fun k => !is.contains k) (nxt (assigns ρ1 is os))
theorem parImp {es : List Expr} {is : List Nat} {g : Ev → R (List O)} (s : Sta Z F H σ ρ) (p : PostS Z E is σ F H ρ (parF is g ρ) D) : LA Z E g σ H fun vs H1 => D.nx (setAll σ is vs) H1 ∧ ∀ H2, Same H1 H2 → D.nx (setAll σ is vs) H2 := by
  refine partS s p fun os ρ1 vs F1 H1 _ p1 r post => ?_
  by_cases hg : ((walked os).all fun k => !is.contains k) = true
  · rw [hg, R.grd_true] at post
    obtain ⟨ρ2, e2, post⟩ := nxt_some post
    obtain ⟨F2, p2⟩ := assigns_ok p1 r (fun k hk => by simpa using List.all_eq_true.mp hg k hk) e2
    exact ⟨post _ F2 H1 p2 agr_all, fun H2 sm => post _ F2 H2 (p2.same sm) agr_all⟩
  · have hf : ((walked os).all fun k => !is.contains k) = false := by simpa using hg
    rw [hf, R.grd_false] at post
    exact post.elim
theorem snd_par2 {i j : Nat} {x y : Str} {a b : Expr} {g : Ev → R (List O)} {px py pt pos : Pos} {kt k2 pt2} (hl : ∀ ρ os ρ1, g ρ = .ok os ρ1 → os.length = 2) (hc : X.calm = true) (hN : X.N.Nodup) (hi : X.N[i]? = some x) (hj : X.N[j]? = some y) (hij : i ≠ j)
    (hx : X.env.scope.names.lookup x = some .local) (hy : X.env.scope.names.lookup y = some .local) (ha : PA X [a, b] (LA Z E g))
    (hw : swappedStores [.Tuple [.Name x px, .Name y py] kt pt] (.Tuple [a, b] k2 pt2) X.env = pure (some [x, y])) :
    PS X (.Assign [.Tuple [.Name x px, .Name y py] kt pt] (.Tuple [a, b] k2 pt2) pos) (LS Z E [i, j] (parF [i, j] g)) := by
  refine psImp (ps_par hc hN hi hj hij hx hy ha hw) fun D σ H ⟨F, ρ, s, p⟩ => ?_
  have q := parImp (es := [a, b]) s p
  obtain ⟨F0, H0, ρ0, F1, ρ1, p1, q⟩ := q
  refine ⟨F0, H0, ρ0, F1, ρ1, p1, ?_⟩
  cases e : g ρ1 with
  | stuck => rw [e] at q; exact q
  | exc c ρ2 => rw [e] at q; exact q
  | ok os ρ2 =>
    rw [e] at q
    intro vs F' H' p' r
    have h2 := hl _ _ _ e
    rw [OutL.len r] at h2
    match vs, h2 with
    | [v, w], _ => exact ⟨v, w, rfl, (q [v, w] F' H' p' r).1⟩
theorem snd_par3 {i j l : Nat} {x y z : Str} {a b c : Expr} {g : Ev → R (List O)} {px py pz pt pos : Pos} {kt k2 pt2} (hln : ∀ ρ os ρ1, g ρ = .ok os ρ1 → os.length = 3) (hc : X.calm = true) (hN : X.N.Nodup) (hi : X.N[i]? = some x) (hj : X.N[j]? = some y) (hl : X.N[l]? = some z) (hij : i ≠ j) (hil : i ≠ l) (hjl : j ≠ l)
    (hx : X.env.scope.names.lookup x = some .local) (hy : X.env.scope.names.lookup y = some .local) (hz : X.env.scope.names.lookup z = some .local) (ha : PA X [a, b, c] (LA Z E g))
    (hw : swappedStores [.Tuple [.Name x px, .Name y py, .Name z pz] kt pt] (.Tuple [a, b, c] k2 pt2) X.env = pure (some [x, y, z])) :
    PS X (.Assign [.Tuple [.Name x px, .Name y py, .Name z pz] kt pt] (.Tuple [a, b, c] k2 pt2) pos) (LS Z E [i, j, l] (parF [i, j, l] g)) := by
  refine psImp (ps_par3 hc hN hi hj hl hij hil hjl hx hy hz ha hw) fun D σ H ⟨F, ρ, s, p⟩ => ?_
  have q := parImp (es := [a, b, c]) s p
  obtain ⟨F0, H0, ρ0, F1, ρ1, p1, q⟩ := q
  refine ⟨F0, H0, ρ0, F1, ρ1, p1, ?_⟩
  cases e : g ρ1 with
  | stuck => rw [e] at q; exact q
  | exc c ρ2 => rw [e] at q; exact q
  | ok os ρ2 =>
    rw [e] at q
    intro vs F' H' p' r
    have h2 := hln _ _ _ e
    rw [OutL.len r] at h2
    match vs, h2 with
    | [u, v, w], _ => exact ⟨u, v, w, rfl, (q [u, v, w] F' H' p' r).1⟩
/-- several plain names, one after the other -/
def gAll (is : List Nat) : TGs := fun vs σ H Q => vs.length = is.length ∧ Q (setAll σ is vs) H
theorem gall_nil : PGs X [] (gAll []) := pgsImp pgs_nil fun v σ H Q ⟨hl, q⟩ => by
  obtain rfl : v = [] := List.length_eq_zero_iff.mp hl
  exact ⟨rfl, q⟩
theorem gall_cons {e : Expr} {es : List Expr} {i : Nat} {is : List Nat} (h : PG X e (gName i)) (h2 : PGs X es (gAll is)) (hs : (assignEach (e :: es) X.env).map (·.2) = PySem.assign e X.env :: (assignEach es X.env).map (·.2)) : PGs X (e :: es) (gAll (i :: is)) :=
  pgsImp (pgs_cons h h2 hs) fun v σ H Q ⟨hl, q⟩ => by
    cases v with
    | nil => simp at hl
    | cons v vs => exact ⟨v, vs, rfl, by simpa using hl, q⟩
theorem snd_parG {ts es : List Expr} {is : List Nat} {g : Ev → R (List O)} {kt k2 : Nat} {pt pt2 pos : Pos} (hK : X.K = Z.K) (hln : ∀ ρ os ρ1, g ρ = .ok os ρ1 → os.length = is.length) (hz : is.length ≤ 1000) (hc : X.calm = true) (hg : PGs X ts (gAll is)) (hn : (assignEach ts X.env).length = is.length) (hst : (assignEach ts X.env).findIdx? (·.1) = none)
    (ha : PA X es (LA Z E g)) (hs : swapsWithSole [.Tuple ts kt pt] (.Tuple es k2 pt2) pos.line X.env = pure false) (hw : swappedStores [.Tuple ts kt pt] (.Tuple es k2 pt2) X.env = pure none) (h1 : (assignEach [.Tuple ts kt pt] X.env).map (·.2) = [PySem.assign (.Tuple ts kt pt) X.env]) :
    PS X (.Assign [.Tuple ts kt pt] (.Tuple es k2 pt2) pos) (LS Z E is (parF is g)) := by
  refine psImp (ps_asg (pe_tup ha) (pg_tup hc hg hn hst) hs hw h1) fun D σ H ⟨F, ρ, s, p⟩ => ?_
  have q := parImp (es := es) s p
  obtain ⟨F0, H0, ρ0, F1, ρ1, p1, q⟩ := q
  refine ⟨F0, H0, ρ0, F1, ρ1, p1, ?_⟩
  cases e : g ρ1 with
  | stuck => rw [e] at q; exact q
  | exc c ρ2 => rw [e] at q; exact q
  | ok os ρ2 =>
    rw [e] at q
    intro vs F' H' p' r
    have h2 := hln _ _ _ e
    rw [OutL.len r] at h2
    refine ⟨by rw [sizeLine_eq]; omega, fun a hn => ⟨a, vs, rfl, SqT.of upd_same, h2, h2, ?_⟩⟩
    refine (q vs F' H' p' r).2 _ fun b o eb => ?_
    rw [upd_ne (fun z => by rw [z, hn] at eb; cases eb)]
    exact eb
/-! ### loops -/
theorem snd_for {iter tg : Expr} {body : List Stmt} {t : Tg} {gi : Ev → R (List Ev.D × List Nat)} {fb : Ev → R Fl} {pos : Pos} (hp : PassesOwn (model X.prog X.w) X.A X.env X.xe) (hc : X.calm = true) (hi : PI X tg iter (LI Z E gi)) (hg : PG X tg (LGt Z t)) (hb : PSs X body (LS Z E B fb)) (hA : A = slots t ++ B) (hs : ∀ x, foldedSetIterable iter X.env x = pure x) :
    PS X (.For tg iter body [] pos) (LS Z E A fun ρ => (gi ρ).bind fun p ρ1 => R.grd (p.2.all fun i => !A.contains i) (forL p.2 ρ1 t fb p.1 ρ1)) := by
  subst hA
  have hb := PSs.more (B := slots t ++ B) hb fun i h => List.mem_append_right _ h
  refine psImp (ps_for hp hc hi hg hb hs) fun D σ H ⟨F, ρ, s, p⟩ => ?_
  refine partS s p fun xw ρ1 J F1 H1 _ p1 r post => ?_
  obtain ⟨xs, ws⟩ := xw
  obtain ⟨St, iw, hst⟩ := r
  simp only at iw hst post
  by_cases hwa : (ws.all fun i => !(slots t ++ B).contains i) = true
  · rw [hwa, R.grd_true] at post
    have nw : ∀ i ∈ ws, i ∉ slots t ++ B := fun i hi => by simpa using List.all_eq_true.mp hwa i hi
    refine ⟨fun i m σ' H' => m = xs.length - i ∧ i ≤ xs.length ∧ ∃ F' ρ', Path Z σ F1 H1 ρ1 σ' F' H' ρ' ∧ Agr (slots t ++ B) σ σ' ∧ PostS Z E (slots t ++ B) σ' F' H' ρ' (forL ws ρ1 t fb (xs.drop i) ρ') D,
      ⟨xs.length, by omega, Nat.zero_le _, F1, ρ1, .refl p1.st, .refl, by rw [List.drop_zero]; exact post.step p1 .refl⟩, ?_⟩
    rintro i m σ' H' ⟨rfl, hi, F', ρ', p', a', q⟩
    have std : stands ρ1 ρ' ws = true → St F' H' := fun h => hst _ _ _ _ (p'.later p1.st) (fun j hj => a'.out j (nw j hj)) h
    rcases Nat.lt_or_ge i xs.length with hlt | hge
    · have ed : xs.drop i = xs[i] :: xs.drop (i + 1) := List.drop_eq_getElem_cons hlt
      rw [ed] at q
      simp only [forL] at q
      cases hsd : stands ρ1 ρ' ws with
      | false => simp only [hsd, Bool.false_eq_true, if_false] at q; exact q.elim
      | true =>
        simp only [hsd, if_true] at q
        refine .inr ⟨iw.go i F' H' (std hsd) hlt, fun σ2 H2 => ∃ F2 ρ2, Path Z σ F1 H1 ρ1 σ2 F2 H2 ρ2 ∧ Agr (slots t ++ B) σ σ2 ∧ PostS Z E (slots t ++ B) σ2 F2 H2 ρ2 (forL ws ρ1 t fb (xs.drop (i + 1)) ρ2) D,
          fun σ2 H2 nx => ⟨xs.length - (i + 1), by omega, rfl, hlt, nx⟩, fun v Hy y => ?_⟩
        obtain ⟨sm, rx⟩ := iw.yld i xs[i] F' H' v Hy (std hsd) (List.getElem?_eq_getElem hlt) y
        have py := p'.same sm
        have q := q.step ((Path.refl p'.st).same sm) .refl
        cases eb : bindT t xs[i] ρ' with
        | none => rw [eb] at q; exact q.elim
        | some ρ2 =>
          rw [eb] at q
          simp only [R.opt_some] at q
          refine ⟨F', ρ', xs[i], ρ2, py.st, rx, eb, fun σ2 pb kb lb => ?_⟩
          have ab : Agr (slots t ++ B) σ' σ2 := ⟨lb, fun j hj => kb j fun z => hj (List.mem_append_left _ z)⟩
          have q := q.step pb ab
          refine ⟨F', ρ2, pb.st, ?_⟩
          cases ef : fb ρ2 with
          | stuck => rw [ef] at q; exact q.elim
          | exc c ρ3 => rw [ef] at q; exact q
          | ok fl ρ3 =>
            rw [ef] at q
            simp only [R.bind_ok] at q
            intro σ3 F3 H3 p3 a3
            cases fl with
            | nx => exact ⟨F3, ρ3, (py.trans pb).trans p3, (a'.trans ab).trans a3, q.step p3 a3⟩
            | cont => exact ⟨F3, ρ3, (py.trans pb).trans p3, (a'.trans ab).trans a3, q.step p3 a3⟩
            | brk => exact q σ3 F3 H3 p3 a3
            | ret o => exact q σ3 F3 H3 p3 a3
    · have ei : i = xs.length := by omega
      subst ei
      rw [List.drop_length] at q
      simp only [forL] at q
      cases hsd : stands ρ1 ρ' ws with
      | false => simp only [hsd, Bool.false_eq_true, if_false] at q; exact q.elim
      | true =>
        simp only [hsd, if_true] at q
        exact .inl ⟨iw.stop F' H' (std hsd), q σ' F' H' (.refl p'.st) .refl⟩
  · have hf : (ws.all fun i => !(slots t ++ B).contains i) = false := by simpa using hwa
    rw [hf, R.grd_false] at post
    exact post.elim
theorem snd_while {c : Expr} {body : List Stmt} {fc : Ev → R Bool} {fb : Ev → R Fl} {pos : Pos} {fuel : Nat} (hp : PassesOwn (model X.prog X.w) X.A X.env X.xe) (hc : PT X c (LT Z E fc)) (hb : PSs X body (LS Z E A fb)) :
    PS X (.While c body [] pos) (LS Z E A fun ρ => whileL fc fb fuel ρ) := by
  refine psImp (ps_while hp hc hb) fun D σ H ⟨F, ρ, s, p⟩ => ?_
  refine ⟨fun m σ' H' => ∃ F' ρ', Path Z σ F H ρ σ' F' H' ρ' ∧ Agr A σ σ' ∧ PostS Z E A σ' F' H' ρ' (whileL fc fb m ρ') D, ⟨fuel, F, ρ, .refl s, .refl, p⟩, ?_⟩
  rintro m σ' H' ⟨F', ρ', p', a', q⟩
  cases m with
  | zero => exact q.elim
  | succ m =>
    simp only [whileL, ifB] at q
    refine partS p'.st q fun b ρ2 b' F2 H2 _ p2 r q => ?_
    obtain rfl : b' = b := r
    cases b' with
    | true =>
      simp only [if_true] at q ⊢
      refine ⟨fun σ3 H3 => ∃ F3 ρ3, Path Z σ F H ρ σ3 F3 H3 ρ3 ∧ Agr A σ σ3 ∧ PostS Z E A σ3 F3 H3 ρ3 (whileL fc fb m ρ3) D, fun σ3 H3 nx => ⟨m, by omega, nx⟩, F2, ρ2, p2.st, ?_⟩
      have q := q.step p2 .refl
      cases ef : fb ρ2 with
      | stuck => rw [ef] at q; exact q.elim
      | exc c ρ3 => rw [ef] at q; exact q
      | ok fl ρ3 =>
        rw [ef] at q
        simp only [R.bind_ok] at q
        intro σ3 F3 H3 p3 a3
        cases fl with
        | nx => exact ⟨F3, ρ3, (p'.trans p2).trans p3, a'.trans a3, q.step p3 a3⟩
        | cont => exact ⟨F3, ρ3, (p'.trans p2).trans p3, a'.trans a3, q.step p3 a3⟩
        | brk => exact q σ3 F3 H3 p3 a3
        | ret o => exact q σ3 F3 H3 p3 a3
    | false =>
      simp only [Bool.false_eq_true, if_false] at q ⊢
      exact q σ' F2 H2 p2 .refl
end
end Ev
/-! Ev82: a dict comprehension of two clauses (as HandS tells the list's). -/
namespace EvC
open PySem PySem.Spec PyProof.Rows L2
theorem turnD_out (kx vx t0 i0 t1 i1 : Expr) (ifs0 ifs1 : List Expr) (scope : Scope) (pos : Pos) (it acc : Value) (env : Env) :
    compTurn (.DictComp kx vx [⟨t0, i0, ifs0, 0⟩, ⟨t1, i1, ifs1, 0⟩] scope pos) 0 it acc env = (do
      standAt i0.pos
      match ← pyNext it with
      | none => pure (.done .next)
      | some v =>
        letOwnedTupleGo t0 it v
        assign t0 env v
        let mut ok := true
        for c in ifs0 do
          if ok then ok ← isTrue c env (eval c env)
        if ok then
          let x ← eval i1 env
          standAt i1.pos
          let x ← foldedSetIterable i1 env x
          let _ ← runOwn (.compStart (.DictComp kx vx [⟨t0, i0, ifs0, 0⟩, ⟨t1, i1, ifs1, 0⟩] scope pos) 1 (← holding [x] (pyIter x)) acc env) env
        again (.compLoop (.DictComp kx vx [⟨t0, i0, ifs0, 0⟩, ⟨t1, i1, ifs1, 0⟩] scope pos) 0 it acc env)) := by rfl
theorem turnD_in (kx vx t0 i0 t1 i1 : Expr) (ifs0 ifs1 : List Expr) (scope : Scope) (pos : Pos) (it : Value) (D : Addr) (env : Env) :
    compTurn (.DictComp kx vx [⟨t0, i0, ifs0, 0⟩, ⟨t1, i1, ifs1, 0⟩] scope pos) 1 it (.ref D) env = (do
      standAt i1.pos
      match ← pyNext it with
      | none => pure (.done .next)
      | some v =>
        letOwnedTupleGo t1 it v
        assign t1 env v
        let mut ok := true
        for c in ifs1 do
          if ok then ok ← isTrue c env (eval c env)
        if ok then
          (do
            let kv ← eval kx env
            let vv ← holding [kv] (eval vx env)
            standAt { kx.pos with endLine := vx.pos.endLine, endCol := vx.pos.endCol }
            holding [kv, vv] (dictSet D kv vv))
        again (.compLoop (.DictComp kx vx [⟨t0, i0, ifs0, 0⟩, ⟨t1, i1, ifs1, 0⟩] scope pos) 1 it (.ref D) env)) := by rfl

section
variable {prog : Program} {w : World} {A : Around} {R : Result → Shared → Prop} {s : Shared} {kx vx t0 i0 t1 i1 : Expr} {ifs0 ifs1 : List Expr} {scope : Scope} {pos : Pos} {it acc : Value} {env : Env}
/-- the loop of the first clause -/
theorem loopD_out (hs : ∀ x, foldedSetIterable i1 env x = pure x) (I : Nat → Shared → Prop)
    (turn : ∀ n s, I n s → wpAny (model prog w) A (pyNext it) (fun r s₁ => match r with
      | none => R (.ok .next) s₁
      | some v => wpAny (model prog w) A (letOwnedTupleGo t0 it v) (fun _ s₁' => wpAny (model prog w) A (assign t0 env v) (fun _ s₂ =>
          wpAny (model prog w) A (forIn ifs0 true fun c r => if r = true then do let ok ← isTrue c env (eval c env); pure (ForInStep.yield ok) else pure (ForInStep.yield r)) (fun ok s₃ =>
            if ok = true then wpAny (model prog w) A (eval i1 env) (fun x s₄ => wpAny (model prog w) A (pyIter x) (fun it1 s₅ =>
              codeAny (model prog w) A (.compStart (.DictComp kx vx [⟨t0, i0, ifs0, 0⟩, ⟨t1, i1, ifs1, 0⟩] scope pos) 1 it1 acc env) (fun r s' => match r with
                | .ok _ => ∃ m, m < n ∧ I m s'
                | .error _ => False) s₅) (notedBy (model prog w) A env fun e s' => R (.error e) s') s₄) (notedBy (model prog w) A env fun e s' => R (.error e) s') s₃
            else ∃ m, m < n ∧ I m s₃) (notedBy (model prog w) A env fun e s' => R (.error e) s') s₂) (notedBy (model prog w) A env fun e s' => R (.error e) s') s₁') (notedBy (model prog w) A env fun e s' => R (.error e) s') s₁) (notedBy (model prog w) A env fun e s' => R (.error e) s') s)
    (n : Nat) (h : I n s) :
    codeAny (model prog w) A (.compLoop (.DictComp kx vx [⟨t0, i0, ifs0, 0⟩, ⟨t1, i1, ifs1, 0⟩] scope pos) 0 it acc env) R s := by
  refine codeAny_loop rfl I (fun n s hI => ?_) n h
  show wpAny _ A ((compTurn (.DictComp kx vx [⟨t0, i0, ifs0, 0⟩, ⟨t1, i1, ifs1, 0⟩] scope pos) 0 it acc env).onRaise (fun x => do noteFrame x env; theTreesLotGoes x)) _ _ s
  refine wpAny_noted ?_
  rw [turnD_out]
  refine wpAny_bind (wpAny_standAt (wpAny_bind (wpAny_mono (turn n s hI) (fun r s₁ h₁ => ?_) fun _ _ h' => h')))
  cases r with
  | none => exact wpAny_pure h₁
  | some v =>
    refine wpAny_bind (wpAny_mono h₁ (fun _ s₁' h₁' => ?_) fun _ _ h' => h')
    refine wpAny_bind (wpAny_mono h₁' (fun _ s₂ h₂ => wpAny_bind (wpAny_mono h₂ (fun ok s₃ h₃ => ?_) fun _ _ h' => h')) fun _ _ h' => h')
    cases ok with
    | false => exact wpAny_pure ⟨rfl, h₃⟩
    | true =>
      refine wpAny_bind (wpAny_mono h₃ (fun x s₄ h₄ => ?_) fun _ _ h' => h')
      refine wpAny_bind (wpAny_standAt (wpAny_bind (wpAny_of_eq (hs x) (wpAny_bind (wpAny_holding (wpAny_mono h₄ (fun it1 s₅ h₅ => ?_) fun _ _ h' => h'))))))
      refine wpAny_bind (wpAny_runOwn ?_)
      rw [Around.mark_none]
      refine codeAny_mono h₅ fun r s' hr => ?_
      cases r with
      | ok f =>
        first
          | exact wpAny_pure ⟨rfl, hr⟩
          | exact wpAny_bind (wpAny_pure (wpAny_pure ⟨rfl, hr⟩))
      | error e => exact hr.elim
/-- the loop of the second -/
theorem loopD_in {D : Addr} (I : Nat → Shared → Prop)
    (turn : ∀ n s, I n s → wpAny (model prog w) A (pyNext it) (fun r s₁ => match r with
      | none => R (.ok .next) s₁
      | some v => wpAny (model prog w) A (letOwnedTupleGo t1 it v) (fun _ s₁' => wpAny (model prog w) A (assign t1 env v) (fun _ s₂ =>
          wpAny (model prog w) A (forIn ifs1 true fun c r => if r = true then do let ok ← isTrue c env (eval c env); pure (ForInStep.yield ok) else pure (ForInStep.yield r)) (fun ok s₃ =>
            if ok = true then wpAny (model prog w) A (eval kx env) (fun kv s₄ => wpAny (model prog w) A (eval vx env) (fun vv s₅ =>
              wpAny (model prog w) A (dictSet D kv vv) (fun _ s₆ => ∃ m, m < n ∧ I m s₆) (notedBy (model prog w) A env fun e s' => R (.error e) s') s₅) (notedBy (model prog w) A env fun e s' => R (.error e) s') s₄) (notedBy (model prog w) A env fun e s' => R (.error e) s') s₃
            else ∃ m, m < n ∧ I m s₃) (notedBy (model prog w) A env fun e s' => R (.error e) s') s₂) (notedBy (model prog w) A env fun e s' => R (.error e) s') s₁') (notedBy (model prog w) A env fun e s' => R (.error e) s') s₁) (notedBy (model prog w) A env fun e s' => R (.error e) s') s)
    (n : Nat) (h : I n s) :
    codeAny (model prog w) A (.compLoop (.DictComp kx vx [⟨t0, i0, ifs0, 0⟩, ⟨t1, i1, ifs1, 0⟩] scope pos) 1 it (.ref D) env) R s := by
  refine codeAny_loop rfl I (fun n s hI => ?_) n h
  show wpAny _ A ((compTurn (.DictComp kx vx [⟨t0, i0, ifs0, 0⟩, ⟨t1, i1, ifs1, 0⟩] scope pos) 1 it (.ref D) env).onRaise (fun x => do noteFrame x env; theTreesLotGoes x)) _ _ s
  refine wpAny_noted ?_
  rw [turnD_in]
  refine wpAny_bind (wpAny_standAt (wpAny_bind (wpAny_mono (turn n s hI) (fun r s₁ h₁ => ?_) fun _ _ h' => h')))
  cases r with
  | none => exact wpAny_pure h₁
  | some v =>
    refine wpAny_bind (wpAny_mono h₁ (fun _ s₁' h₁' => ?_) fun _ _ h' => h')
    refine wpAny_bind (wpAny_mono h₁' (fun _ s₂ h₂ => wpAny_bind (wpAny_mono h₂ (fun ok s₃ h₃ => ?_) fun _ _ h' => h')) fun _ _ h' => h')
    cases ok with
    | false => exact wpAny_pure ⟨rfl, h₃⟩
    | true =>
      exact wpAny_bind (wpAny_bind (wpAny_mono h₃ (fun kv s₄ h₄ => wpAny_bind (wpAny_holding (wpAny_mono h₄ (fun vv s₅ h₅ => wpAny_bind (wpAny_standAt (wpAny_holding (wpAny_mono h₅ (fun _ s₆ h₆ => wpAny_pure ⟨rfl, h₆⟩) fun _ _ h' => h')))) fun _ _ h' => h'))) fun _ _ h' => h'))
/-- the second clause's start -/
theorem startD_ok (h0 : codeAny (model prog w) A (.compLoop (.DictComp kx vx [⟨t0, i0, ifs0, 0⟩, ⟨t1, i1, ifs1, 0⟩] scope pos) 1 it acc env) R s)
    (h : wpAny (model prog w) A (pyIter it) (fun it' s' => codeAny (model prog w) A (.compLoop (.DictComp kx vx [⟨t0, i0, ifs0, 0⟩, ⟨t1, i1, ifs1, 0⟩] scope pos) 1 it' acc env) R s')
      (notedBy (model prog w) A env fun x s' => R (.error x) s') s) :
    codeAny (model prog w) A (.compStart (.DictComp kx vx [⟨t0, i0, ifs0, 0⟩, ⟨t1, i1, ifs1, 0⟩] scope pos) 1 it acc env) R s := by
  refine codeAny_of_tree ?_
  show wpAny _ _ ((compStart (.DictComp kx vx [⟨t0, i0, ifs0, 0⟩, ⟨t1, i1, ifs1, 0⟩] scope pos) 1 it acc env).onRaise (fun x => do noteFrame x env; standAt theWindowsPlace)) _ _ s
  refine wpAny_notedAt ?_
  unfold compStart
  show wpAny _ _ (ask >>= _) _ _ s
  refine wpAny_bind (wpAny_askSetting (wpAny_ite ?_))
  split
  · first
      | exact wpAny_bind (wpAny_pure (wpAny_pure (And.intro rfl h0)))
      | exact wpAny_pure (And.intro rfl h0)
  · first
      | exact wpAny_bind (wpAny_rule (wpAny_bind (wpAny_standAt (wpAny_bind (wpAny_mono h (fun it' s' h' => wpAny_pure (And.intro rfl h')) fun _ _ x => x)))))
      | (refine wpAny_bind (wpAny_rule ?_); show wpAny _ _ (standAt i1.pos >>= _) _ _ s; exact wpAny_bind (wpAny_standAt (wpAny_bind (wpAny_mono h (fun it' s' h' => wpAny_pure (And.intro rfl h')) fun _ _ x => x))))
end


section
variable {X : Cx}
def tDc2 (wi : TI) (g : TG) (tt : TT) (wi1 : TI) (g1 : TG) (tt1 : TT) (tk tv : TE) (vs vs1 : List Nat) : TE := fun σ H Q => wi σ H fun J H1 => ∀ D, H1 D = none → ∃ W : Nat → Nat → Hp → Prop, (∃ m, W 0 m (upd H1 D (.dK []))) ∧ ∀ i m H, W i m H →
  (J.stop i H ∧ Q (.ref D) H) ∨ (J.go i H ∧ ∃ Nx : Hp → Prop, (∀ H', Nx H' → ∃ m', m' < m ∧ W (i + 1) m' H') ∧ ∀ x H', J.yld i H x H' → g x (wipe σ vs) H' fun σ2 H2 => wipe σ2 vs = wipe σ vs ∧ tt σ2 H2 fun b H3 =>
    if b = true then wi1 σ2 H3 fun J1 H4 => ∃ W1 : Nat → Nat → Hp → Prop, (∃ m, W1 0 m H4) ∧ ∀ j k H, W1 j k H →
      (J1.stop j H ∧ Nx H) ∨ (J1.go j H ∧ ∃ Nx1 : Hp → Prop, (∀ H', Nx1 H' → ∃ k', k' < k ∧ W1 (j + 1) k' H') ∧ ∀ x H', J1.yld j H x H' → g1 x (wipe σ2 vs1) H' fun σ3 H5 => wipe σ3 vs1 = wipe σ2 vs1 ∧ tt1 σ3 H5 fun b H6 =>
        if b = true then tk σ3 H6 fun y H7 => tv σ3 H7 fun z H8 => ∃ kvs k, y = kV k ∧ H8 D = some (.dK kvs) ∧ kvs.length < sizeLine ∧ Nx1 (upd H8 D (.dK (putK kvs k z))) else Nx1 H6)
    else Nx H3)
theorem dc2_core {pins : List (Addr × Obj)} {s : Shared} {σ : L2.St} {H : Hp} {Q : VK} {kx vx tg iter tg1 iter1 : Expr} {ifs ifs1 : List Expr} {scope : Scope} {own : List (Str × Nat)} {vs1 : List Nat} {pos pos' : Pos} {wi wi1 : TI} {g g1 : TG} {tt tt1 : TT} {tk tv : TE} {use : Option (Value → Sem Unit)} {Qf : Value → Shared → Prop}
    (hc : X.calm = true) (hN : X.N.Nodup) (I : Inv X pins σ H s) (hi : PI X tg iter wi) (ok : BlkOk X.N X.env.scope scope own) (hv : ∀ i ∈ vs1, i ∈ own.map (·.2))
    (hg : ∀ (s : Shared) (H : Hp) (C : Addr) (cl : List (Str × Addr)) (fp : List Addr), PG (X.blk s H scope (compEnvC scope cl C X.env) fp) tg g) (ht : ∀ (s : Shared) (H : Hp) (C : Addr) (cl : List (Str × Addr)) (fp : List Addr), PTs (X.blk s H scope (compEnvC scope cl C X.env) fp) ifs tt)
    (hk : ∀ (s : Shared) (H : Hp) (C : Addr) (cl : List (Str × Addr)) (fp : List Addr), PE (X.blk s H scope (compEnvC scope cl C X.env) fp) kx tk) (he : ∀ (s : Shared) (H : Hp) (C : Addr) (cl : List (Str × Addr)) (fp : List Addr), PE (X.blk s H scope (compEnvC scope cl C X.env) fp) vx tv) (hs : ∀ x, foldedSetIterable iter X.env x = pure x)
    (hi1 : ∀ (s : Shared) (H : Hp) (C : Addr) (cl : List (Str × Addr)) (fp : List Addr), PI (X.blk s H scope (compEnvC scope cl C X.env) fp) tg1 iter1 wi1)
    (hg1 : ∀ (s : Shared) (H : Hp) (C : Addr) (cl : List (Str × Addr)) (fp : List Addr), PG (X.blk s H scope (compEnvC scope cl C X.env) fp) tg1 g1)
    (ht1 : ∀ (s : Shared) (H : Hp) (C : Addr) (cl : List (Str × Addr)) (fp : List Addr), PTs (X.blk s H scope (compEnvC scope cl C X.env) fp) ifs1 tt1)
    (hs1 : ∀ env x, foldedSetIterable iter1 env x = pure x)
    (h : tDc2 wi g tt wi1 g1 tt1 tk tv (own.map (·.2)) vs1 σ H Q)
    (hRR : ∀ D C s' m H', Inv X pins σ H' s' → Q (.ref D) H' → s'.heap.Ns C m → FpOk X pins H' C → compPost (model X.prog X.w) X.A X.xe use Qf (.ref D) C (.ok .next) s') :
    wpAny (model X.prog X.w) X.A (comprehension (.DictComp kx vx [⟨tg, iter, ifs, 0⟩, ⟨tg1, iter1, ifs1, 0⟩] scope pos) scope X.env pos' newDict false (eval iter X.env) use) Qf X.xe s := by
  have hfree : ∀ y ∈ scope.names, y.2 = .free → ∃ c, X.env.cells.lookup y.1 = some c := fun y hy e => by
    rcases ok.free y hy e with k | k
    · exact I.ok.has _ (.inl k)
    · exact I.ok.has _ (.inr k)
  refine wpAny_comprehension_free (use := use) rfl hs (closure_ok hfree) ok.kind (fun y hy e => by rw [ok.uniq y hy, e])
    (thn (hi.run pins s σ H _ I h) fun xv s1 hx => thn hx fun itv s2 h2 => ?_)
  obtain ⟨it, fp, tn, J, H2, e, I2, T, st2, f2, q⟩ := h2
  subst e
  refine wpAny_newObj_type (newEnv_comp ?_)
  generalize hD : s2.heap.objs.size = D
  have hDn : H2 D = none := I2.hok.fresh (Nat.le_of_eq hD)
  obtain ⟨W, ⟨m0, w0⟩, turn⟩ := q D hDn
  -- the new list
  generalize hs3 : ({ s2 with heap := s2.heap.push { cls := .type "dict", data := .dict #[] } } : Shared) = s3
  have I3 : Inv X pins σ (upd H2 D (.dK [])) s3 := by
    rw [← hs3]
    refine I2.laid (t' := s2.toks) (fun b o e => Heap.get?_push_of_some _ e) (Nat.le_of_eq hD) ?_
    rw [← hD]
    exact dk_empty s2.heap I2.big
  have h3 : s3.heap = s2.heap.push { cls := .type "dict", data := .dict #[] } := by rw [← hs3]
  have sz : ∀ b ∈ fp, b < s2.heap.objs.size := fun b hb => by
    obtain ⟨o, e, _⟩ := T.obj _ _ st2 b hb
    exact Heap.lt_size e
  have f3 : ∀ b ∈ fp, FpOk X pins (upd H2 D (.dK [])) b ∧ b < s3.heap.objs.size := fun b hb => by
    have hlt := sz b hb
    refine ⟨⟨?_, (f2 b hb).2⟩, by rw [h3, Heap.size_push]; exact Nat.lt_succ_of_lt hlt⟩
    rw [upd_ne (by rw [← hD]; exact Nat.ne_of_lt hlt)]
    exact (f2 b hb).1
  have st3 : tn 0 s3.heap := T.keep _ _ _ st2 fun b _ o e => by rw [h3]; exact Heap.get?_push_of_some _ e
  have I4 := block_start I3 ok hN f3
  have pg := hg s3 (upd H2 D (.dK [])) s3.heap.objs.size (cellsFrom (s3.heap.objs.size + 1) scope.names (cloFrom X.env.cells scope.names [])) fp
  have pt := ht s3 (upd H2 D (.dK [])) s3.heap.objs.size (cellsFrom (s3.heap.objs.size + 1) scope.names (cloFrom X.env.cells scope.names [])) fp
  have pk := hk s3 (upd H2 D (.dK [])) s3.heap.objs.size (cellsFrom (s3.heap.objs.size + 1) scope.names (cloFrom X.env.cells scope.names [])) fp
  have pe := he s3 (upd H2 D (.dK [])) s3.heap.objs.size (cellsFrom (s3.heap.objs.size + 1) scope.names (cloFrom X.env.cells scope.names [])) fp
  have pi1 := hi1 s3 (upd H2 D (.dK [])) s3.heap.objs.size (cellsFrom (s3.heap.objs.size + 1) scope.names (cloFrom X.env.cells scope.names [])) fp
  have pg1 := hg1 s3 (upd H2 D (.dK [])) s3.heap.objs.size (cellsFrom (s3.heap.objs.size + 1) scope.names (cloFrom X.env.cells scope.names [])) fp
  have pt1 := ht1 s3 (upd H2 D (.dK [])) s3.heap.objs.size (cellsFrom (s3.heap.objs.size + 1) scope.names (cloFrom X.env.cells scope.names [])) fp
  show codeAny _ _ (.compStart (.DictComp kx vx [⟨tg, iter, ifs, 0⟩, ⟨tg1, iter1, ifs1, 0⟩] scope pos) 0 (.ref it) (.ref D) (compEnvC scope (cellsFrom (s3.heap.objs.size + 1) scope.names (cloFrom X.env.cells scope.names [])) s3.heap.objs.size X.env)) (compPost (model X.prog X.w) X.A X.xe use Qf (.ref D) s3.heap.objs.size) { s3 with heap := pushCells (s3.heap.push { cls := .type "dict", data := .dict #[] }) scope.names }
  have nfp : ∀ b ∈ fp, (upd H2 D (.dK [])) b = none := fun b hb => (f3 b hb).1.1
  generalize hce : compEnvC scope (cellsFrom (s3.heap.objs.size + 1) scope.names (cloFrom X.env.cells scope.names [])) s3.heap.objs.size X.env = ce at I4 pg pt pk pe pi1 pg1 pt1 ⊢
  have cL : ce.locals = s3.heap.objs.size := by subst hce; rfl
  generalize hH3 : upd H2 D (.dK []) = H3 at I3 I4 pg pt pk pe pi1 pg1 pt1 w0 nfp f3
  generalize hs4 : ({ s3 with heap := pushCells (s3.heap.push { cls := .type "dict", data := .dict #[] }) scope.names } : Shared) = s4 at I4 ⊢
  have st4 : tn 0 s4.heap := T.keep _ _ _ st3 fun b _ o e => by rw [← hs4]; exact pushCells_keeps _ _ _ _ (Heap.get?_push_of_some _ e)
  have stat : ∀ {σ' : L2.St} {H' : Hp} {s' : Shared}, Inv (X.blk s3 H3 scope ce fp) [] σ' H' s' → (∀ b ∈ fp, H' b = none) → ∀ b ∈ fp, FpOk (X.blk s3 H3 scope ce fp) [] H' b := fun {σ' H' s'} I' hn b hb =>
    ⟨hn b hb, (I'.ok.exf b hb).1, I'.ok.exfs b hb, .inl hb, fun x c e => (I'.ok.exf b hb).2 x c e, fun p hp => absurd (show p ∈ ([] : List (Addr × Obj)) ++ [] from hp) (by simp)⟩
  have loop : codeAny (model X.prog X.w) X.A (.compLoop (.DictComp kx vx [⟨tg, iter, ifs, 0⟩, ⟨tg1, iter1, ifs1, 0⟩] scope pos) 0 (.ref it) (.ref D) ce) (compPost (model X.prog X.w) X.A X.xe use Qf (.ref D) s3.heap.objs.size) s4 := by
    refine loopD_out (hs1 ce) (fun n s' => ∃ i H', Inv (X.blk s3 H3 scope ce fp) [] (wipe σ (own.map (·.2))) H' s' ∧ tn i s'.heap ∧ (∀ b ∈ fp, H' b = none) ∧ W i n H') ?_ m0 ⟨0, H3, I4, st4, nfp, w0⟩
    rintro n s5 ⟨i, H5, I5, st5, n5, w5⟩
    rcases turn i n H5 w5 with ⟨stop, qq⟩ | ⟨go, Nx, hNx, step⟩
    · have td := T.done (X.blk s3 H3 scope ce fp) rfl rfl rfl hc i [] s5 _ H5 (fun _ _ => False) I5 (stat I5 n5) st5 stop
      refine thnF td fun r s6 ⟨hr, I6⟩ => ?_
      subst hr
      -- back in the def's context
      have I7 : Inv X pins σ H5 s6 := I3.call' (ch := fp) I6.os I6.base I6.hok I6.bare fun b hb => ⟨(f3 b hb).1.2.2.2.1, (f3 b hb).1.2.1, (f3 b hb).1.2.2.2.2.1, (f3 b hb).1.2.2.2.2.2⟩
      have nC : H5 s3.heap.objs.size = none := by
        have z : H5 ce.locals = none := I6.free
        rw [cL] at z
        exact z
      obtain ⟨m, hn, _⟩ := I6.loc
      have hn : s6.heap.Ns ce.locals m := hn
      rw [cL] at hn
      exact hRR D s3.heap.objs.size s6 m H5 I7 qq hn (I3.fpOk (Nat.le_refl _) nC)
    · have ti := T.item (X.blk s3 H3 scope ce fp) rfl rfl rfl hc i [] s5 _ H5 (fun _ _ => False) I5 (stat I5 n5) st5 go
      refine thnF ti fun r s6 ⟨u, hr, h6⟩ => ?_
      subst hr
      refine thnF h6 fun _ s7 ⟨x, H7, I7, r7, y7, st7, n7⟩ => ?_
      have I7' := I7.pinned (stat I7 n7) (T.obj _ _ st7)
      refine thnF (pg.run _ s7 _ H7 x u _ I7' r7 (step x H7 y7)) fun _ s8 ⟨σ8, H8, I8, hw8, q8⟩ => ?_
      refine thnF (pt.run _ s8 σ8 H8 _ I8 q8) fun b s9 ⟨H9, I9, q9⟩ => ?_
      -- the turn's end, from any slots that know what the block knew at its start
      have fin : ∀ {σ9 : L2.St} {s' : Shared} {H' : Hp}, Inv (X.blk s3 H3 scope ce fp) ([] ++ pinsAt fp s7.heap) σ9 H' s' → (wipe σ (own.map (·.2))).length = σ9.length → (∀ (j : Nat) v, (wipe σ (own.map (·.2)))[j]? = some (some v) → σ9[j]? = some (some v)) → Nx H' →
          ∃ m, m < n ∧ ∃ i H', Inv (X.blk s3 H3 scope ce fp) [] (wipe σ (own.map (·.2))) H' s' ∧ tn i s'.heap ∧ (∀ b ∈ fp, H' b = none) ∧ W i m H' := fun {σ9 s' H'} I' hl hk nx => by
        obtain ⟨m', hm, w'⟩ := hNx H' nx
        have pin' : ∀ b ∈ fp, ∀ o, s7.heap.get? b = some o → s'.heap.get? b = some o ∧ H' b = none := fun b hb o e =>
          let z := I'.pin (b, o) (List.mem_append_right _ (List.mem_append_right _ (mem_pinsAt hb e)))
          ⟨z.1, z.2.1⟩
        refine ⟨m', hm, i + 1, H', (I'.unpinned (pins := [])).weak hl hk, T.keep _ _ _ st7 fun b hb o e => (pin' b hb o e).1, fun b hb => ?_, w'⟩
        obtain ⟨o, e, _⟩ := T.obj _ _ st7 b hb
        exact (pin' b hb o e).2
      have hl8 : (wipe σ (own.map (·.2))).length = σ8.length := by rw [← hw8, wipe_length]
      have hk8 : ∀ (j : Nat) v, (wipe σ (own.map (·.2)))[j]? = some (some v) → σ8[j]? = some (some v) := fun j v e => by
        rw [← hw8] at e
        exact (wipe_some e).1
      have hk9 : ∀ (j : Nat) v, (wipe σ (own.map (·.2)))[j]? = some (some v) → (wipe σ8 vs1)[j]? = some (some v) := fun j v e => by
        rw [← hw8] at e
        obtain ⟨e1, e2⟩ := wipe_some e
        rw [wipe_out fun z => e2 (hv j z)]
        exact e1
      cases b with
      | false =>
        simp only [Bool.false_eq_true, if_false] at q9 ⊢
        exact fin I9 hl8 hk8 q9
      | true =>
        simp only [if_true] at q9 ⊢
        refine thnF (pi1.run _ s9 σ8 H9 _ I9 q9) fun xv s10 hx => thnF hx fun itv s11 h11 => ?_
        obtain ⟨it1, fp1, tn1, J1, H11, e1, I11, T1, st11, f11, W1, ⟨m1, w1⟩, turn1⟩ := h11
        subst e1
        -- the inner loop
        have stat1 : ∀ {H' : Hp}, (∀ b ∈ fp1, H' b = none) → ∀ b ∈ fp1, FpOk (X.blk s3 H3 scope ce fp) ([] ++ pinsAt fp s7.heap) H' b := fun hn b hb => ⟨hn b hb, (f11 b hb).2⟩
        have loop1 : codeAny (model X.prog X.w) X.A (.compLoop (.DictComp kx vx [⟨tg, iter, ifs, 0⟩, ⟨tg1, iter1, ifs1, 0⟩] scope pos) 1 (.ref it1) (.ref D) ce)
            (fun r s' => match r with
              | .ok _ => ∃ m, m < n ∧ ∃ i H', Inv (X.blk s3 H3 scope ce fp) [] (wipe σ (own.map (·.2))) H' s' ∧ tn i s'.heap ∧ (∀ b ∈ fp, H' b = none) ∧ W i m H'
              | .error _ => False) s11 := by
          refine loopD_in (fun k s' => ∃ j H', Inv (X.blk s3 H3 scope ce fp) ([] ++ pinsAt fp s7.heap) (wipe σ8 vs1) H' s' ∧ tn1 j s'.heap ∧ (∀ b ∈ fp1, H' b = none) ∧ W1 j k H') ?_ m1 ⟨0, H11, I11.weak (wipe_length _ _) (fun j v e => (wipe_some e).1), st11, fun b hb => (f11 b hb).1, w1⟩
          rintro k s12 ⟨j, H12, I12, st12, n12, w12⟩
          rcases turn1 j k H12 w12 with ⟨stop1, nx1⟩ | ⟨go1, Nx1, hNx1, step1⟩
          · refine thnF (T1.done (X.blk s3 H3 scope ce fp) rfl rfl rfl hc j _ s12 (wipe σ8 vs1) H12 (fun _ _ => False) I12 (stat1 n12) st12 stop1) fun r s13 ⟨hr, I13⟩ => ?_
            subst hr
            exact fin I13 (hl8.trans (wipe_length σ8 vs1).symm) hk9 nx1
          · refine thnF (T1.item (X.blk s3 H3 scope ce fp) rfl rfl rfl hc j _ s12 (wipe σ8 vs1) H12 (fun _ _ => False) I12 (stat1 n12) st12 go1) fun r s13 ⟨u1, hr, h13⟩ => ?_
            subst hr
            refine thnF h13 fun _ s14 ⟨x1, H14, I14, r14, y14, st14, n14⟩ => ?_
            have I14' := I14.pinned (stat1 n14) (T1.obj _ _ st14)
            refine thnF (pg1.run _ s14 (wipe σ8 vs1) H14 x1 u1 _ I14' r14 (step1 x1 H14 y14)) fun _ s15 ⟨σ15, H15, I15, hw15, q15⟩ => ?_
            refine thnF (pt1.run _ s15 σ15 H15 _ I15 q15) fun b1 s16 ⟨H16, I16, q16⟩ => ?_
            have fin1 : ∀ {s' : Shared} {H' : Hp}, Inv (X.blk s3 H3 scope ce fp) (([] ++ pinsAt fp s7.heap) ++ pinsAt fp1 s14.heap) σ15 H' s' → Nx1 H' → ∃ m, m < k ∧ ∃ j H', Inv (X.blk s3 H3 scope ce fp) ([] ++ pinsAt fp s7.heap) (wipe σ8 vs1) H' s' ∧ tn1 j s'.heap ∧ (∀ b ∈ fp1, H' b = none) ∧ W1 j m H' := fun {s' H'} I' nx => by
              obtain ⟨m', hm, w'⟩ := hNx1 H' nx
              have pin' : ∀ b ∈ fp1, ∀ o, s14.heap.get? b = some o → s'.heap.get? b = some o ∧ H' b = none := fun b hb o e =>
                let z := I'.pin (b, o) (List.mem_append_right _ (List.mem_append_right _ (mem_pinsAt hb e)))
                ⟨z.1, z.2.1⟩
              refine ⟨m', hm, j + 1, H', I'.unpinned.weak (by rw [← hw15, wipe_length]) (fun j v e => by rw [← hw15] at e; exact (wipe_some e).1), T1.keep _ _ _ st14 fun b hb o e => (pin' b hb o e).1, fun b hb => ?_, w'⟩
              obtain ⟨o, e, _⟩ := T1.obj _ _ st14 b hb
              exact (pin' b hb o e).2
            cases b1 with
            | false =>
              simp only [Bool.false_eq_true, if_false] at q16 ⊢
              exact fin1 I16 q16
            | true =>
              simp only [if_true] at q16 ⊢
              refine thnF (pk.run _ s16 σ15 H16 _ I16 q16) fun zk s17 ⟨yk, H17, I17, r17, q17⟩ => ?_
              refine thnF (pe.run _ s17 σ15 H17 _ I17 q17) fun z s18 ⟨yv, H18, I18, r18, kvs, k, ek, hD18, hz18, nx⟩ => ?_
              subst ek
              exact d_dictSet (X := X.blk s3 H3 scope ce fp) I18 hD18 hz18 r17 r18 fun s19 I19 => fin1 I19 nx
        exact startD_ok loop1 (T1.self X.A 0 _ _ _ st11 loop1)
  exact codeAny_compStart_dict loop (T.self X.A 0 _ _ _ st4 loop)
/-- as a value -/
theorem pe_dc2 {kx vx tg iter tg1 iter1 : Expr} {ifs ifs1 : List Expr} {scope : Scope} {own : List (Str × Nat)} {vs1 : List Nat} {pos : Pos} {wi wi1 : TI} {g g1 : TG} {tt tt1 : TT} {tk tv : TE} (hc : X.calm = true) (hN : X.N.Nodup) (hi : PI X tg iter wi) (ok : BlkOk X.N X.env.scope scope own) (hv : ∀ i ∈ vs1, i ∈ own.map (·.2))
    (hg : ∀ (s : Shared) (H : Hp) (C : Addr) (cl : List (Str × Addr)) (fp : List Addr), PG (X.blk s H scope (compEnvC scope cl C X.env) fp) tg g) (ht : ∀ (s : Shared) (H : Hp) (C : Addr) (cl : List (Str × Addr)) (fp : List Addr), PTs (X.blk s H scope (compEnvC scope cl C X.env) fp) ifs tt)
    (hi1 : ∀ (s : Shared) (H : Hp) (C : Addr) (cl : List (Str × Addr)) (fp : List Addr), PI (X.blk s H scope (compEnvC scope cl C X.env) fp) tg1 iter1 wi1)
    (hg1 : ∀ (s : Shared) (H : Hp) (C : Addr) (cl : List (Str × Addr)) (fp : List Addr), PG (X.blk s H scope (compEnvC scope cl C X.env) fp) tg1 g1) (ht1 : ∀ (s : Shared) (H : Hp) (C : Addr) (cl : List (Str × Addr)) (fp : List Addr), PTs (X.blk s H scope (compEnvC scope cl C X.env) fp) ifs1 tt1)
    (hk : ∀ (s : Shared) (H : Hp) (C : Addr) (cl : List (Str × Addr)) (fp : List Addr), PE (X.blk s H scope (compEnvC scope cl C X.env) fp) kx tk) (he : ∀ (s : Shared) (H : Hp) (C : Addr) (cl : List (Str × Addr)) (fp : List Addr), PE (X.blk s H scope (compEnvC scope cl C X.env) fp) vx tv) (hs : ∀ x, foldedSetIterable iter X.env x = pure x := by intro _; rfl) (hs1 : ∀ env x, foldedSetIterable iter1 env x = pure x := by intro _ _; rfl) :
    PE X (.DictComp kx vx [⟨tg, iter, ifs, 0⟩, ⟨tg1, iter1, ifs1, 0⟩] scope pos) (tDc2 wi g tt wi1 g1 tt1 tk tv (own.map (·.2)) vs1) := by
  refine ⟨fun pins s σ H Q I h => ?_⟩
  rw [arm_eval_DictComp]
  refine dc2_core hc hN I hi ok hv hg ht hk he hs hi1 hg1 ht1 hs1 h fun D C s' m H' I' q hn f => ⟨m, hn, fun h'' sb => ?_⟩
  obtain ⟨f0, f1, f2, f3, f4, f5⟩ := f
  exact ⟨.ref D, H', I'.turned (t' := s'.toks) (fun b o hb e => (sb.2 b hb).trans e) f0 f1 f3 f4 f5, rfl, q⟩
end
end EvC
/-! Ev83: a slot's dict: written, never written again, read; count. -/
namespace Ev
open PySem PySem.Spec PyProof.Rows L2
section
variable {n : Nat} {E : XK} {X : Cx} {Z : Wo} {σ σ0 : L2.St} {F F0 : Fz} {H H0 : Hp} {ρ ρ0 : Ev} {A : List Nat}
theorem Sta.ownM (s : Sta Z F H σ ρ) {i : Nat} {q : Bool} {kvs : List (D × D)} (e : ρ[i]? = some (some (.M q false kvs))) : ∃ a ps, σ[i]? = some (some (V.ref a)) ∧ H a = some (.dK ps) ∧ Paired (DicK Z F H) ps kvs := by
  obtain ⟨v, e1, a, rfl, ⟨ps, h1, h2⟩, _⟩ := s.rep i _ e
  exact ⟨a, ps, e1, h1, h2⟩
theorem tabs_upd {a : Addr} {ps : List (Key × V)} {o : HO} (h : H a = some (.dK ps)) (t : LamX.Tabs Z.TT H) : LamX.Tabs Z.TT (upd H a o) := by
  intro t' ht
  obtain ⟨ps, h1', h2', h3'⟩ := t t' ht
  refine ⟨ps, ?_, h2', fun pos cv hc => ?_⟩
  · rw [upd_ne (ne_of h1' h (by intro z; cases z))]; exact h1'
  · obtain ⟨c, ec, hcc⟩ := h3' pos cv hc
    refine ⟨c, ec, ?_⟩
    rw [upd_ne (ne_of hcc h (by unfold LamX.CodeO; intro z; cases z))]
    exact hcc
theorem up_upd {a : Addr} {ps : List (Key × V)} {o : HO} (h : H a = some (.dK ps)) (nF : ¬ F a) : Up F H F (upd H a o) := ⟨fun c vs q => by
    rw [upd_ne (ne_of q h (by intro z; cases z))]; exact q, fun c o w q => by
    rw [upd_ne (ne_of q h (by intro z; cases z))]; exact q, fun _ f => f, fun c vs f q => by
    rw [upd_ne (fun z => nF (by rw [← z]; exact f))]; exact q⟩
theorem stp_upd {a : Addr} {o : HO} (ow : Own σ ρ a) (no : ¬ NoO (some o)) : Stp Z (Own σ ρ) F H F (upd H a o) := ⟨fun b o eb n _ => by
    rw [upd_ne (fun z => n (by rw [z]; exact ow))]; exact eb, fun b n => by
    by_cases z : b = a
    · rw [z, upd_same]; exact no
    · rw [upd_ne z]; exact n, fun _ f => f, fun _ f => .inl f⟩
/-- a slot's own dict is written -/
theorem set_ownD {i : Nat} {q : Bool} {kvs kvs' : List (D × D)} {a : Addr} {ps : List (Key × V)} (p : Path Z σ0 F0 H0 ρ0 σ F H ρ) (e : ρ[i]? = some (some (.M q false kvs))) (e2 : σ[i]? = some (some (V.ref a))) (r : Paired (DicK Z F H) ps kvs') :
    Path Z σ0 F0 H0 ρ0 σ F (upd H a (.dK ps)) (ρ.set i (some (.M q false kvs'))) := by
  have ow : Own σ ρ a := own_of e rfl e2
  obtain ⟨b, ps0, e3, h1, h2⟩ := p.st.ownM e
  rw [e2] at e3
  cases (Option.some.inj (Option.some.inj e3))
  have nF := (p.st.kind ow).2
  have u : Up F H F (upd H a (.dK ps)) := up_upd h1 nF
  have own' : ∀ b, Own σ (ρ.set i (some (.M q false kvs'))) b → Own σ ρ b := fun b ⟨j, w, ej, ho, es⟩ => by
    rcases getset ej with ⟨rfl, z, _⟩ | ⟨hn, z⟩
    · rw [e2] at es
      cases (Option.some.inj (Option.some.inj es))
      exact ow
    · exact own_of z ho es
  have sp : Stp Z (Own σ ρ) F H F (upd H a (.dK ps)) := stp_upd ow id
  refine p.trans ⟨⟨by rw [List.length_set]; exact p.st.len, fun j w ej => ?_, fun j k wj wk b ej ek hj hk sj sk => ?_, tabs_upd h1 p.st.tabs, fun b f => sp.there b (p.st.ft b f)⟩, sp, fun b z => .inl (own' b z), fun j w h pw => ?_⟩
  · rcases getset ej with ⟨rfl, z, _⟩ | ⟨hn, z⟩
    · cases z
      exact ⟨_, e2, a, rfl, ⟨ps, upd_same, L2.Paired.mapP r fun _ _ q => ⟨q.1, q.2.up u⟩⟩, nF⟩
    · obtain ⟨v, e6, r6⟩ := p.st.rep j w z
      refine ⟨v, e6, r6.up u fun b eb ho => ⟨fun o q => ?_, fun f => ?_⟩⟩
      · subst eb
        rw [upd_ne (fun z2 => hn (p.st.inj _ _ _ _ _ z e ho rfl (by rw [← z2]; exact e6) e2))]
        exact q
      · subst eb
        exact (p.st.kind (own_of z ho e6)).2 f
  · have k1 : ∃ wj', ρ[j]? = some (some wj') ∧ isOwn wj' = true := by
      rcases getset ej with ⟨rfl, z, _⟩ | ⟨_, z⟩
      · exact ⟨_, e, rfl⟩
      · exact ⟨_, z, hj⟩
    have k2 : ∃ wk', ρ[k]? = some (some wk') ∧ isOwn wk' = true := by
      rcases getset ek with ⟨rfl, z, _⟩ | ⟨_, z⟩
      · exact ⟨_, e, rfl⟩
      · exact ⟨_, z, hk⟩
    obtain ⟨_, z1, o1⟩ := k1
    obtain ⟨_, z2, o2⟩ := k2
    exact p.st.inj _ _ _ _ _ z1 z2 o1 o2 sj sk
  · rcases getset h with ⟨rfl, z, _⟩ | ⟨_, z⟩
    · cases z
      exact ⟨⟨_, e, pw⟩, rfl⟩
    · exact ⟨⟨_, z, pw⟩, rfl⟩
/-- a slot's own dict is not written any more -/
theorem frz_ownD {i : Nat} {q : Bool} {kvs : List (D × D)} {a : Addr} {ps : List (Key × V)} {od : Obj} (p : Path Z σ0 F0 H0 ρ0 σ F H ρ) (e : ρ[i]? = some (some (.M q false kvs))) (e2 : σ[i]? = some (some (V.ref a))) (h1 : H a = some (.dK ps)) (r : Paired (DicK Z F H) ps kvs) :
    Path Z σ0 F0 H0 ρ0 σ F (upd H a (.frz od (.dK ps))) (ρ.set i (some (.Z kvs))) ∧ DicZ Z F (upd H a (.frz od (.dK ps))) a kvs := by
  have ow : Own σ ρ a := own_of e rfl e2
  have nF := (p.st.kind ow).2
  have u : Up F H F (upd H a (.frz od (.dK ps))) := up_upd h1 nF
  have own' : ∀ b, Own σ (ρ.set i (some (.Z kvs))) b → Own σ ρ b := fun b ⟨j, w, ej, ho, es⟩ => by
    rcases getset ej with ⟨rfl, z, _⟩ | ⟨hn, z⟩
    · cases z
      cases ho
    · exact own_of z ho es
  have sp : Stp Z (Own σ ρ) F H F (upd H a (.frz od (.dK ps))) := stp_upd ow id
  have dz : DicZ Z F (upd H a (.frz od (.dK ps))) a kvs := ⟨od, ps, upd_same, L2.Paired.mapP r fun _ _ q => ⟨q.1, q.2.up u⟩⟩
  refine ⟨p.trans ⟨⟨by rw [List.length_set]; exact p.st.len, fun j w ej => ?_, fun j k wj wk b ej ek hj hk sj sk => ?_, tabs_upd h1 p.st.tabs, fun b f => sp.there b (p.st.ft b f)⟩, sp, fun b z => .inl (own' b z), fun j w h pw => ?_⟩, dz⟩
  · rcases getset ej with ⟨rfl, z, _⟩ | ⟨hn, z⟩
    · cases z
      exact ⟨_, e2, a, rfl, dz⟩
    · obtain ⟨v, e6, r6⟩ := p.st.rep j w z
      refine ⟨v, e6, r6.up u fun b eb ho => ⟨fun o q => ?_, fun f => ?_⟩⟩
      · subst eb
        rw [upd_ne (fun z2 => hn (p.st.inj _ _ _ _ _ z e ho rfl (by rw [← z2]; exact e6) e2))]
        exact q
      · subst eb
        exact (p.st.kind (own_of z ho e6)).2 f
  · rcases getset ej with ⟨rfl, z, _⟩ | ⟨_, z1⟩
    · cases z; cases hj
    · rcases getset ek with ⟨rfl, z, _⟩ | ⟨_, z2⟩
      · cases z; cases hk
      · exact p.st.inj _ _ _ _ _ z1 z2 hj hk sj sk
  · rcases getset h with ⟨rfl, z, _⟩ | ⟨_, z⟩
    · cases z
      cases pw
    · exact ⟨⟨_, z, pw⟩, rfl⟩
theorem snd_frz {e : Expr} {i : Nat} (h : PE X e (tVar i)) : PE X e (LE Z E (frzS i)) := by
  refine ⟨fun pins s σ H Q I ⟨F0, H0, ρ0, F, ρ, p, post⟩ => ?_⟩
  unfold frzS at post
  split at post
  · rename_i kvs ex
    obtain ⟨v, e1, r⟩ := p.st.rep i _ ex
    exact h.run pins s σ H Q I ⟨v, e1, post v F H p ⟨r, fun z => by cases z⟩⟩
  · rename_i kvs ex
    obtain ⟨a, ps, e1, eh, r⟩ := p.st.ownM ex
    obtain ⟨od, I1⟩ := I.lock eh trivial
    obtain ⟨p2, dz⟩ := frz_ownD (od := od) p ex e1 eh r
    exact h.run pins s σ _ Q I1 ⟨_, e1, post _ F _ p2 ⟨⟨a, rfl, dz⟩, fun z => by cases z⟩⟩
  · exact post.elim
theorem snd_dnew {pos : Pos} : PE X (.Dict [] [] pos) (LE Z E fun ρ => .ok (.M false []) ρ) :=
  peImp pe_dnewK fun σ H Q ⟨F0, H0, ρ0, F, ρ, p, post⟩ => fun b hb => fin_new p post (new_dict hb .nil)
theorem isSome_of {α : Type} {o : Option α} (h : o.isSome = true) : ∃ x, o = some x := by
  cases o with
  | none => cases h
  | some x => exact ⟨x, rfl⟩
theorem grd_of {α β : Type} {rel : Rel α β} {b : Bool} {r : R α} {Q : β → Hp → Prop} (h : PostG Z E rel σ F0 H0 ρ0 (R.grd b r) Q) : b = true ∧ PostG Z E rel σ F0 H0 ρ0 r Q := by
  cases b with
  | true => exact ⟨rfl, h⟩
  | false => exact (show False from h).elim
theorem snd_cnt {a : Expr} {i : Nat} {x : Str} {f : Ev → R O} {apos cpos p : Pos} (hK : X.K = Z.K) (hv : PE X (.Name x p) (tVar i)) (ha : PE X a (LE Z E f)) (hs : isStar a = false) (hl : (apos.endLine == cpos.line) = true) :
    PE X (.Call (.Attribute (.Name x p) "count" apos) [a] [] cpos) (LE Z E fun ρ => (varS i ρ).bind fun y ρ1 => R.grd (itemsL (rs ρ1 y)).isSome ((f ρ1).bind fun z ρ2 => oko (cntO (rs ρ2 y) (rs ρ2 z)) ρ2)) := by
  refine peImp (pe_bm PySem.F.plainAttrs_list PySem.F.slot_list_count PySem.F.type_list_count mt_lcount (snd_var (Z := Z) (E := E) hv) (pa_cons ha pa_nil (star_cons hs)) (by rfl) (by rw [star_cons hs] <;> rfl) hl (star_cons hs) (by rfl)) fun σ H Q q => ?_
  refine one q fun o ρ1 v F1 H1 F0 H0 ρ0 p oa fr post => ?_
  obtain ⟨hb, post⟩ := grd_of post
  obtain ⟨xs, ex⟩ := isSome_of hb
  obtain ⟨b, vs, rfl, sq, _⟩ := itemsL_sq (oa.rv p.st) ex
  refine ⟨.inl ⟨rfl, vs, by rw [hK]; exact sq⟩, ?_⟩
  refine run p post fun z ρ2 w F2 H2 p12 p02 r post => ?_
  unfold oko at post
  cases e : cntO (rs ρ2 o) (rs ρ2 z) with
  | none => rw [e] at post; exact post.elim
  | some y =>
    rw [e] at post
    have oa2 := (oa.step p.st p12 fun _ _ z => z).rv p02.st
    have oz := r.1.rv p02.st
    generalize rs ρ2 z = z2 at e oz
    unfold cntO at e
    split at e
    · rename_i k
      obtain ⟨ys, ey, e⟩ := Option.bind_eq_some_iff.mp e
      obtain ⟨ns, en, rfl⟩ := Option.map_eq_some_iff.mp e
      obtain ⟨b', ws, eb, sq2, rr⟩ := itemsL_sq oa2 ey
      cases eb
      obtain ⟨rfl, _⟩ := ints_of en rr
      have ew : w = .int k := Rp.inv_int (Rv.d oz)
      rw [hK]
      exact ⟨b, ns, k, rfl, by rw [ew], sq2, fin_new p02 post (new_int _)⟩
    · cases e
theorem snd_get2 {a b : Expr} {i : Nat} {x : Str} {f g : Ev → R O} {apos cpos p : Pos} (hu : X.A.units + 1 < cLine) (hv : PE X (.Name x p) (tVar i)) (ha : PE X a (LE Z E f)) (hb : PE X b (LE Z E g)) (hs : isStar a = false) (hs2 : isStar b = false) (hl : (apos.endLine == cpos.line) = true) :
    PE X (.Call (.Attribute (.Name x p) "get" apos) [a, b] [] cpos) (LE Z E fun ρ => (varS i ρ).bind fun d ρ1 => R.grd (dictOf (rs ρ1 d)).isSome ((f ρ1).bind fun y ρ2 => (g ρ2).bind fun z ρ3 => getS d y z ρ3)) := by
  have hst : starEach [a, b] X.env = [(false, eval a X.env), (false, eval b X.env)] := by rw [star_cons hs, star_cons hs2]; rfl
  have m : M2 X (.Name x p) "get" apos a b cpos := ⟨by rfl, by rw [hst]; rfl, hl, by rw [hst]; rfl⟩
  refine peImp (pe_dget2 hu (snd_var (Z := Z) (E := E) hv) ha hb m) fun σ H Q q => ?_
  refine one q fun o ρ1 v F1 H1 F0 H0 ρ0 p oa fr post => ?_
  obtain ⟨hb, post⟩ := grd_of post
  obtain ⟨kvs, ex⟩ := isSome_of hb
  obtain ⟨d, ps, rfl, rd, _⟩ := dict_at (oa.rv p.st) ex
  refine ⟨d, rfl, .inl ⟨ps, rd⟩, ?_⟩
  refine run p post fun y ρ2 w F2 H2 p12 p02 r post => ?_
  refine run p02 post fun z ρ3 w3 F3 H3 p23 p03 r3 post => ?_
  have oa3 := ((oa.step p.st p12 fun _ _ z => z).step p02.st p23 fun _ _ z => z).rv p03.st
  have oy := r.1.step p02.st p23 fun _ _ z => z
  unfold getS at post
  cases e : dictOf (rs ρ3 o) with
  | none => rw [e] at post; exact post.elim
  | some kvs3 =>
    rw [e] at post
    simp only [R.opt_some] at post
    obtain ⟨d', ps3, ed, rd3, pk⟩ := dict_at oa3 e
    cases ed
    cases y with
    | d k =>
      cases z with
      | d dv =>
        simp only at post
        split at post
        · rename_i hk
          obtain ⟨j, rfl⟩ := keyOk_of hk
          have ew : w = .int j := Rp.inv_int oy.dp
          subst ew
          have rz : Rp Z F3 H3 dv w3 := r3.1.dp
          rcases dget_of (i := j) rd3 pk with ⟨d', v, e1, gg, rr⟩ | ⟨e1, gg⟩
          · refine ⟨some v, gg, ?_⟩
            rw [e1] at post
            exact here_d p03 post rr
          · refine ⟨none, gg, ?_⟩
            rw [e1] at post
            exact here_d p03 post rz
        · exact post.elim
      | _ => exact post.elim
    | _ => exact post.elim
end
end Ev
/-! Ev11: x[k] = v, name op= e, raise; the context of a comprehension's block. -/
namespace Ev
open PySem PySem.Spec PyProof.Rows L2
section
variable {n : Nat} {E : XK} {X : Cx} {Z : Wo} {σ : L2.St} {F F0 : Fz} {H H0 : Hp} {ρ ρ0 ρ2 : Ev} {A : List Nat} {D : Ends}
theorem place_ixN {n : Nat} {i : Int} : place n i = ixN n i := by
  unfold place ixN
  by_cases h : 0 ≤ i
  · simp only [if_pos h]
  · simp only [if_neg h]
    congr 2
    rw [Int.add_comm]
def setIxF (i : Nat) (fe fk : Ev → R O) (ρ : Ev) : R Fl := (fe ρ).bind fun o ρ1 => R.opt (keep ρ1 o) fun p => R.grd (isLM p.2 i) ((fk p.2).bind fun y ρ2 => nxt (setAt ρ2 i y p.1))
theorem pset_or {t t' : TSet} (h : PSet X t) (h' : PSet X t') : PSet X (fun o i v H Q => t o i v H Q ∨ t' o i v H Q) := by
  intro pins s σ H o i v ov iv u Q I ro ri rv q
  rcases q with q | q
  · exact h pins s σ H o i v ov iv u Q I ro ri rv q
  · exact h' pins s σ H o i v ov iv u Q I ro ri rv q
theorem snd_setIx {i : Nat} {x : Str} {ke e : Expr} {fe fk : Ev → R O} {px p2 pos : Pos} (hu : X.A.units + 1 < cLine) (hv : PE X (.Name x px) (tVar i)) (he : PE X e (LE Z E fe)) (hk : PE X ke (LE Z E fk)) (hsl : isSlice ke = false) (hs : swapsWithSole [.Subscript (.Name x px) ke p2] e pos.line X.env = pure false) :
    PS X (.Assign [.Subscript (.Name x px) ke p2] e pos) (LS Z E A (setIxF i fe fk)) := by
  have ha : ∀ v, PySem.assign (.Subscript (.Name x px) ke p2) X.env v = (do
      let ov ← holding [v] (eval (.Name x px) X.env)
      let iv ← holding [v, ov] (eval ke X.env)
      standAt p2
      holding [v, ov, iv] (setItem ov iv v)
      release [v, ov, iv] []) := fun v => by
    cases ke <;> first | rfl | (cases hsl)
  refine psImp (ps_asg he (pg_sub hv hk (pset_or set_list (set_dict hu)) ha) hs (by rfl) (by rfl)) fun D σ H ⟨F, ρ, s, p⟩ => ?_
  refine partS s p fun o ρ1 v F1 H1 _ p1 r post => ?_
  cases ek : keep ρ1 o with
  | none => simp only [ek] at post; exact post.elim
  | some q =>
    obtain ⟨d, ρ2⟩ := q
    simp only [ek, R.opt_some] at post
    obtain ⟨F2, p2, rd, _⟩ := keep_ok p1 r.1 r.2 ek
    by_cases hi : isLM ρ2 i = true
    · rw [hi, R.grd_true] at post
      have ha : ∃ a, σ[i]? = some (some (V.ref a)) := by
        unfold isLM at hi
        split at hi
        · rename_i q xs e
          obtain ⟨a, vs0, ea, _⟩ := p2.st.ownL e
          exact ⟨a, ea⟩
        · rename_i q xs e
          obtain ⟨a, vs0, ea, _⟩ := p2.st.ownM e
          exact ⟨a, ea⟩
        · cases hi
      obtain ⟨a, ea⟩ := ha
      refine ⟨.ref a, ea, partS p2.st (post.step p2 .refl) fun y ρ3 w F3 H3 _ p3 r3 post3 => ?_⟩
      obtain ⟨ρ4, e4, post3⟩ := nxt_some post3
      unfold setAt at e4
      generalize hg : ρ3[i]? = gi at e4
      have up := p2.st.up p3.sp
      split at e4
      · rename_i q xs j _
        have e5 := hg
        obtain ⟨m, em, rfl⟩ := Option.map_eq_some_iff.mp e4
        obtain ⟨a', vs, es, eh, rx⟩ := p3.st.ownL e5
        rw [ea] at es
        cases (Option.some.inj (Option.some.inj es))
        rw [place_ixN, rx.len] at em
        have ew : w = .int j := Rp.inv_int (Out.dp r3.1)
        exact .inl ⟨a, vs, j, m, rfl, ew, eh, em, post3 σ F3 _ (set_own p3 e5 ea (Rps.set (rd.up up) m rx)).1 .refl⟩
      · rename_i q kvs j _
        have e5 := hg
        split at e4
        · rename_i hlt
          cases e4
          obtain ⟨a', ps, es, eh, pk⟩ := p3.st.ownM e5
          rw [ea] at es
          cases (Option.some.inj (Option.some.inj es))
          have ew : w = .int j := Rp.inv_int (Out.dp r3.1)
          subst ew
          exact .inr ⟨a, _, rfl, DPut.k (k := .inl j) eh (by rw [Paired.length pk, sizeLine_eq]; exact hlt), post3 σ F3 _ (set_ownD p3 e5 ea (dk_put pk (rd.up up))) .refl⟩
        · cases e4
      · cases e4
    · have hf : isLM ρ2 i = false := by simpa using hi
      rw [hf, R.grd_false] at post
      exact post.elim
/-! ### name op= e, of ints -/
def augF (op : Bop) (i : Nat) (fe : Ev → R O) (ρ : Ev) : R Fl := match ρ[i]? with
  | some (some (.d (.int a))) => (fe ρ).bind fun o ρ1 => R.opt (optInt o) fun b => R.opt (augI op a b) fun z => nxt (store ρ1 i (.d (.int z)))
  | _ => .stuck
theorem snd_aug {i : Nat} {x : Str} {e : Expr} {fe : Ev → R O} {op : Bop} {o : Operator} {pos pos' : Pos} {h : Int → Int → Int} (ho : PIp X o (ipI h)) (hop : ∀ a b z, augI op a b = some z → z = h a b) (hN : X.N.Nodup) (hi : X.N[i]? = some x) (hx : Loc X.env.scope x) (hf : X.fn x = true ∨ X.env.scope.names.lookup x = some .local) (he : PE X e (LE Z E fe)) :
    PS X (.AugAssign (.Name x pos') o e pos) (LS Z E [i] (augF op i fe)) := by
  refine psImp (ps_aug hN hi hx he ho hf) fun D σ H ⟨F, ρ, s, p⟩ => ?_
  unfold augF at p
  split at p
  · rename_i a ea
    obtain ⟨v, ev, rv⟩ := s.rep i _ ea
    have ev' : v = .int a := Rp.inv_int (show Rp Z F H (.int a) v from rv)
    refine ⟨v, ev, partS s p fun o ρ1 w F1 H1 _ p1 r post => ?_⟩
    unfold optInt at post
    split at post
    · rename_i b _
      simp only [R.opt_some] at post
      cases ez : augI op a b with
      | none => rw [ez] at post; exact post.elim
      | some z =>
        rw [ez] at post
        obtain ⟨ρ2, e2, post⟩ := nxt_some post
        unfold store at e2
        split at e2
        · cases e2
          refine ⟨a, b, ev', Rp.inv_int r.1.dp, ?_⟩
          rw [← hop a b z ez]
          exact post _ F1 H1 (p1.trans (put_d p1.st (by simp only [Rp]))) (agr_set (List.mem_singleton.mpr rfl))
        · cases e2
    · exact post.elim
  · exact p.elim
/-! ### raise -/
structure Exc (Y : Gw) (c : Nat) (x : Str) (C : Addr) : Prop where
  cls : Y.Z.cls c = .ref C
  base : ∃ B newId initId bmB, ExcBaseFacts B newId initId bmB ∧ PySem.W.excIn Y.Z.K C bmB newId = true
  mg : Y.mg x = some (.ref C)
  kp : PySem.W.keepIn Y.Z.K (.ref C) = true
  sub : PySem.W.subIn Y.Z.K (.ref C) (.type "BaseException") = some true
  ty : PySem.W.typeIn Y.Z.K (.ref C) = some (.type "type")
theorem snd_raise {Y : Gw} {c : Nat} {x m : Str} {C : Addr} {j : Nat} {p p2 pos pos' : Pos} (hK : X.K = Y.Z.K) (hmg : X.mg = Y.mg) (hc : X.calm = true) (tk : Takes X (fun cls d _ H => E cls d H)) (e : Exc Y c x C) (hg : Gl X x) (hd : (x == ("__debug__" : Str)) = false) :
    PS X (.Raise (some (.Call (.Name x p) [.Constant (.str m) j p2] [] pos)) none pos') (LS Y.Z E A fun ρ => .exc c ρ) := by
  obtain ⟨B, newId, initId, bmB, F, q⟩ := e.base
  refine psImp (ps_raise hc tk (pmk_own F (by rw [hK]; exact q) (by rw [hmg]; exact e.mg) (by rw [hK]; exact e.kp) (raises_own (by rw [hK]; exact e.sub) (by rw [hK]; exact e.ty)) hg hd)) fun D σ H ⟨F, ρ, s, p⟩ => ?_
  have z := p σ F H (.refl s)
  rw [e.cls] at z
  exact z
end
end Ev
/-! Ev12: a list comprehension of two clauses. -/
namespace Ev
open PySem PySem.Spec PyProof.Rows L2
section
variable {n : Nat} {E : XK} {X : Cx} {Z : Wo} {σ σ' σ0 σ1 σ2 : L2.St} {F F' F0 F1 F2 : Fz} {H H' H1 H0 H2 : Hp} {ρ ρ' ρ0 ρ1 ρ2 : Ev} {α β γ δ : Type}
/-- a path on which the list at D may be written, too -/
structure PD (Z : Wo) (D : Addr) (σ0 : L2.St) (F0 : Fz) (H0 : Hp) (ρ0 : Ev) (σ : L2.St) (F : Fz) (H : Hp) (ρ : Ev) : Prop where
  keep : ∀ b o, H0 b = some o → ¬ Own σ0 ρ0 b → b ≠ D → (∀ ps, o ≠ .tbl ps) → H b = some o
  there : ∀ b, ¬ NoO (H0 b) → ¬ NoO (H b)
  fin : ∀ b, F0 b → F b
  dn : ∃ vs, H0 D = some (.lst vs)
  dF : ¬ F0 D
  sub : ∀ b, Own σ ρ b → Own σ0 ρ0 b ∨ NoO (H0 b)
theorem PD.path {D : Addr} (a : PD Z D σ0 F0 H0 ρ0 σ F H ρ) (p : Path Z σ F H ρ σ' F' H' ρ') : PD Z D σ0 F0 H0 ρ0 σ' F' H' ρ' := by
  have own : ∀ b o, H0 b = some o → ¬ Own σ0 ρ0 b → (∀ ps, o ≠ .tbl ps) → ¬ Own σ ρ b := fun b o e n t z => by
    rcases a.sub b z with y | y
    · exact n y
    · rw [e] at y
      obtain ⟨ps, y⟩ := y.tbl
      exact t ps y
  refine ⟨fun b o e n d t => p.sp.keep b o (a.keep b o e n d t) (own b o e n t) t, fun b n => p.sp.there b (a.there b n), fun b f => p.sp.fin b (a.fin b f), a.dn, a.dF, fun b z => ?_⟩
  rcases p.sub b z with y | y
  · exact a.sub b y
  · exact .inr (.of_not fun q => a.there b q y)
theorem PD.kept {D : Addr} (a : PD Z D σ0 F0 H0 ρ0 σ F H ρ) (hf : ∀ b, F b → F2 b) (ho : ∀ b, Own σ ρ2 b → Own σ ρ b) : PD Z D σ0 F0 H0 ρ0 σ F2 H ρ2 := ⟨a.keep, a.there, fun b f => hf b (a.fin b f), a.dn, a.dF, fun b z => a.sub b (ho b z)⟩
theorem PD.grow {D : Addr} {ws : List V} (a : PD Z D σ0 F0 H0 ρ0 σ F H ρ) : PD Z D σ0 F0 H0 ρ0 σ F (upd H D (.lst ws)) ρ := by
  refine ⟨fun b o e n d t => ?_, fun b n => ?_, a.fin, a.dn, a.dF, a.sub⟩
  · rw [upd_ne d]
    exact a.keep b o e n d t
  · by_cases z : b = D
    · rw [z, upd_same]; exact id
    · rw [upd_ne z]; exact a.there b n
theorem PD.later {D : Addr} (a : PD Z D σ1 F1 H1 ρ1 σ F H ρ) (s1 : Sta Z F1 H1 σ1 ρ1) (s : Sta Z F H σ ρ) (h0 : ¬ NoO (H0 D)) : Later Z H0 σ1 F1 H1 ρ1 σ F H ρ := by
  obtain ⟨vd, ed⟩ := a.dn
  have nD : ∀ b o, H1 b = some o → (∀ vs, o ≠ .lst vs) → b ≠ D := fun b o e n z => by
    rw [z, ed] at e
    cases e
    exact n vd rfl
  have nO : ∀ b o, H1 b = some o → (∀ vs, o ≠ .lst vs) → (∀ ps, o ≠ .dK ps) → (∀ ps, o ≠ .dT ps) → ¬ Own σ1 ρ1 b := fun b o e n1 n2 n3 z => by
    rcases (s1.kind z).1 with ⟨_, q⟩ | ⟨_, q⟩ | ⟨_, q⟩
    · rw [e] at q; cases q; exact n1 _ rfl
    · rw [e] at q; cases q; exact n2 _ rfl
    · rw [e] at q; cases q; exact n3 _ rfl
  refine ⟨s, ⟨fun b vs e => ?_, fun b o u e => ?_, a.fin, fun b vs f e => ?_⟩, fun b o e0 e n t => a.keep b o e n (fun z => h0 (by rw [← z]; exact e0)) t⟩
  · exact a.keep b _ e (nO b _ e (fun _ z => by cases z) (fun _ z => by cases z) fun _ z => by cases z) (nD b _ e fun _ z => by cases z) fun _ z => by cases z
  · exact a.keep b _ e (nO b _ e (fun _ z => by cases z) (fun _ z => by cases z) fun _ z => by cases z) (nD b _ e fun _ z => by cases z) fun _ z => by cases z
  · exact a.keep b _ e (fun z => (s1.kind z).2 f) (fun z => a.dF (by rw [← z]; exact f)) fun _ z => by cases z
theorem snd_comp2 {elt tg iter tg1 iter1 : Expr} {ifs1 : List Expr} {scope : Scope} {own : List (Str × Nat)} {ow : List Nat} {pos : Pos} {gi g2 : Ev → R (List D × List Nat)} {t t2 : Tg} {ft : Ev → R Bool} {fe : Ev → R O} (hc : X.calm = true) (hN : X.N.Nodup) (hi : PI X tg iter (LI Z E gi)) (ok : BlkOk X.N X.env.scope scope own)
    (hw : own.map (·.2) = ow) (hts : ∀ i ∈ slots t, i ∈ ow) (hts2 : ∀ i ∈ slots t2, i ∈ ow)
    (hg : ∀ (s : Shared) (H : Hp) (C : Addr) (cl : List (Str × Addr)) (fp : List Addr), PG (X.blk s H scope (compEnvC scope cl C X.env) fp) tg (LGt Z t))
    (hi1 : ∀ (s : Shared) (H : Hp) (C : Addr) (cl : List (Str × Addr)) (fp : List Addr), PI (X.blk s H scope (compEnvC scope cl C X.env) fp) tg1 iter1 (LI Z E0 g2))
    (hg1 : ∀ (s : Shared) (H : Hp) (C : Addr) (cl : List (Str × Addr)) (fp : List Addr), PG (X.blk s H scope (compEnvC scope cl C X.env) fp) tg1 (LGt Z t2))
    (ht1 : ∀ (s : Shared) (H : Hp) (C : Addr) (cl : List (Str × Addr)) (fp : List Addr), PTs (X.blk s H scope (compEnvC scope cl C X.env) fp) ifs1 (LT Z E0 ft))
    (he : ∀ (s : Shared) (H : Hp) (C : Addr) (cl : List (Str × Addr)) (fp : List Addr), PE (X.blk s H scope (compEnvC scope cl C X.env) fp) elt (LE Z E0 fe)) (hs : ∀ x, foldedSetIterable iter X.env x = pure x) (hs1 : ∀ env x, foldedSetIterable iter1 env x = pure x) :
    PE X (.ListComp elt [⟨tg, iter, [], 0⟩, ⟨tg1, iter1, ifs1, 0⟩] scope pos) (LE Z E fun ρ => (gi ρ).bind fun p ρ1 => compEnd ow ρ1 p.2 (walkL (compTurn2 ow ρ1 p.2 t g2 (slots t2) fun ρ3 ws2 => compTurn (slots t2) ρ3 ws2 t2 ft fe) p.1 [] (wipe ρ1 ow))) := by
  subst hw
  refine peImp (pe_lc2 (vs1 := slots t2) hc hN hi ok hts2 hg (fun _ _ _ _ _ => pts_nil) hi1 hg1 ht1 he hs hs1) fun σ H Q q => lcImp2 hts hts2 q
where
  lcImp2 {σ : L2.St} {H : Hp} {Q : VK} {gi g2 : Ev → R (List D × List Nat)} {ow : List Nat} {t t2 : Tg} {ft : Ev → R Bool} {fe : Ev → R O} (hts : ∀ i ∈ slots t, i ∈ ow) (hts2 : ∀ i ∈ slots t2, i ∈ ow)
      (q : LE Z E (fun ρ => (gi ρ).bind fun p ρ1 => compEnd ow ρ1 p.2 (walkL (compTurn2 ow ρ1 p.2 t g2 (slots t2) fun ρ3 ws2 => compTurn (slots t2) ρ3 ws2 t2 ft fe) p.1 [] (wipe ρ1 ow))) σ H Q) :
      tLc2 (LI Z E gi) (LGt Z t) tYes (LI Z E0 g2) (LGt Z t2) (LT Z E0 ft) (LE Z E0 fe) ow (slots t2) σ H Q := by
    obtain ⟨F0, H0, ρ0, F, ρ, p, post⟩ := q
    refine run p post fun xw ρ1 J F1 H1 p1 p01 r post => ?_
    obtain ⟨xs, ws⟩ := xw
    obtain ⟨St, iw, hst⟩ := r
    intro D hD
    unfold compEnd at post
    generalize hturn : (compTurn2 ow ρ1 ws t g2 (slots t2) fun ρ3 ws2 => compTurn (slots t2) ρ3 ws2 t2 ft fe) = turn at post
    cases e : walkL turn xs [] (wipe ρ1 ow) with
    | stuck => simp only [e, R.bind_stuck, R.calm] at post; exact post.elim
    | exc c ρ5 => simp only [e, R.bind_exc, R.calm] at post; exact post.elim
    | ok accf ρ5 =>
      simp only [e, R.bind_ok] at post
      by_cases hs5 : stands ρ1 ρ5 ws = true
      · rw [if_pos hs5] at post
        have w0 := wipe_path ow p01.st
        have n1 : ¬ F1 D := fun f => p01.st.ft D f (.none hD)
        have c0 : CI Z (L2.wipe σ ow) F1 H1 (wipe ρ1 ow) D (L2.wipe σ ow) F1 (upd H1 D (.lst [])) (wipe ρ1 ow) [] := by
          have sm : Same H1 (upd H1 D (.lst [])) := fun b o e => by
            rw [upd_ne (fun z => by rw [z, hD] at e; cases e)]; exact e
          refine ⟨(Path.refl w0.st).same sm, ⟨[], upd_same, .nil⟩, n1, fun z => ?_⟩
          rcases (w0.st.kind z).1 with ⟨_, y⟩ | ⟨_, y⟩ | ⟨_, y⟩ <;> · rw [hD] at y; cases y
        refine ⟨fun i m H => m = xs.length - i ∧ i ≤ xs.length ∧ ∃ F ρ acc, CI Z (L2.wipe σ ow) F1 H1 (wipe ρ1 ow) D (L2.wipe σ ow) F H ρ acc ∧ walkL turn (xs.drop i) acc ρ = .ok accf ρ5,
          ⟨xs.length, by omega, Nat.zero_le _, F1, wipe ρ1 ow, [], c0, by rw [List.drop_zero]; exact e⟩, ?_⟩
        rintro i m H ⟨rfl, hi, F, ρ, acc, c, ew⟩
        have std : stands ρ1 ρ ws = true → St F H := fun h => by
          refine hst _ _ _ _ ((w0.trans c.path).later p01.st) (fun j hj => ?_) h
          obtain ⟨p', q', ys, e1, e2⟩ := stands_get h hj
          obtain ⟨v, ev, _⟩ := c.path.st.rep j _ e2
          obtain ⟨h1, h2⟩ := wipe_some ev
          rw [ev, h1]
        rcases Nat.lt_or_ge i xs.length with hlt | hge
        · have ed : xs.drop i = xs[i] :: xs.drop (i + 1) := List.drop_eq_getElem_cons hlt
          rw [ed] at ew
          simp only [walkL] at ew
          have hsd : stands ρ1 ρ ws = true := by
            cases b : stands ρ1 ρ ws with
            | true => rfl
            | false => rw [← hturn] at ew; simp [compTurn2, b] at ew
          have et : turn xs[i] acc ρ = R.opt (bindT t xs[i] ρ) fun ρ2 => (g2 ρ2).bind fun p ρ3 => (walkL (compTurn (slots t2) ρ3 p.2 t2 ft fe) p.1 acc (wipe ρ3 (slots t2))).bind fun acc' ρ6 =>
              if stands ρ3 ρ6 p.2 = true then .ok acc' (wipe ρ6 ow) else .stuck := by
            rw [← hturn]
            simp only [compTurn2, hsd, if_true]
          rw [et] at ew
          refine .inr ⟨iw.go i F H (std hsd) hlt, fun H => ∃ F ρ acc, CI Z (L2.wipe σ ow) F1 H1 (wipe ρ1 ow) D (L2.wipe σ ow) F H ρ acc ∧ walkL turn (xs.drop (i + 1)) acc ρ = .ok accf ρ5,
            fun H' nx => ⟨xs.length - (i + 1), by omega, rfl, hlt, nx⟩, fun v H' y => ?_⟩
          obtain ⟨sm, rx⟩ := iw.yld i xs[i] F H v H' (std hsd) (List.getElem?_eq_getElem hlt) y
          have c1 := c.step ((Path.refl c.path.st).same sm)
          cases eb : bindT t xs[i] ρ with
          | none => rw [eb] at ew; simp at ew
          | some ρ2 =>
            rw [eb] at ew
            simp only [R.opt_some] at ew
            refine ⟨F, ρ, xs[i], ρ2, c1.path.st, rx, eb, fun σ2 pb kb lb => ?_⟩
            have c2 := c1.step pb
            have hwp : L2.wipe σ2 ow = L2.wipe σ ow := wipe_same (fun j hj => kb j fun z => hj (hts j z)) lb
            refine ⟨hwp, ?_⟩
            unfold tYes
            simp only [if_true]
            refine here c2.path.st ?_
            cases eg : g2 ρ2 with
            | stuck => rw [eg] at ew; simp at ew
            | exc k ρ3 => rw [eg] at ew; simp at ew
            | ok pw ρ3 =>
              obtain ⟨ys, ws2⟩ := pw
              rw [eg] at ew
              simp only [R.bind_ok] at ew
              intro J1 F3 H3 p3 r3
              obtain ⟨St1, iw1, hst1⟩ := r3
              have c3 := c2.step p3
              obtain ⟨vd, eD3, _⟩ := c3.lst
              -- the inner loop's end
              cases ei : walkL (compTurn (slots t2) ρ3 ws2 t2 ft fe) ys acc (wipe ρ3 (slots t2)) with
              | stuck => rw [ei] at ew; simp at ew
              | exc k ρ4 => rw [ei] at ew; simp at ew
              | ok acc6 ρ6 =>
                rw [ei] at ew
                simp only [R.bind_ok] at ew
                by_cases hs6 : stands ρ3 ρ6 ws2 = true
                · rw [if_pos hs6] at ew
                  simp only [R.bind_ok] at ew
                  have w3 := wipe_path (slots t2) c3.path.st
                  have hD' : ¬ NoO (H' D) := by
                    obtain ⟨vs, q, _⟩ := c2.lst
                    rw [q]; exact id
                  refine ⟨fun j k H => k = ys.length - j ∧ j ≤ ys.length ∧ ∃ F ρ acc, CI Z (L2.wipe σ ow) F1 H1 (wipe ρ1 ow) D (L2.wipe σ2 (slots t2)) F H ρ acc ∧ PD Z D σ2 F3 H3 ρ3 (L2.wipe σ2 (slots t2)) F H ρ ∧ walkL (compTurn (slots t2) ρ3 ws2 t2 ft fe) (ys.drop j) acc ρ = .ok acc6 ρ6,
                    ⟨ys.length, by omega, Nat.zero_le _, F3, wipe ρ3 (slots t2), acc, c3.step w3, PD.path ⟨fun b o e _ _ _ => e, fun b n => n, fun b f => f, ⟨vd, eD3⟩, c3.nf, fun b z => .inl z⟩ w3, by rw [List.drop_zero]; exact ei⟩, ?_⟩
                  rintro j k H ⟨rfl, hj, F, ρ, acc, cj, pd, ewj⟩
                  have std1 : stands ρ3 ρ ws2 = true → St1 F H := fun h => by
                    refine hst1 _ _ _ _ (pd.later c3.path.st cj.path.st hD') (fun j hj => ?_) h
                    obtain ⟨p', q', zs, e1, e2⟩ := stands_get h hj
                    obtain ⟨v, ev, _⟩ := cj.path.st.rep j _ e2
                    obtain ⟨h1, h2⟩ := wipe_some ev
                    rw [ev, h1]
                  rcases Nat.lt_or_ge j ys.length with hltj | hgej
                  · have edj : ys.drop j = ys[j] :: ys.drop (j + 1) := List.drop_eq_getElem_cons hltj
                    rw [edj] at ewj
                    simp only [walkL] at ewj
                    have hsdj : stands ρ3 ρ ws2 = true := by
                      cases b : stands ρ3 ρ ws2 with
                      | true => rfl
                      | false => simp [compTurn, b] at ewj
                    simp only [compTurn, hsdj, if_true] at ewj
                    refine .inr ⟨iw1.go j F H (std1 hsdj) hltj, fun H => ∃ F ρ acc, CI Z (L2.wipe σ ow) F1 H1 (wipe ρ1 ow) D (L2.wipe σ2 (slots t2)) F H ρ acc ∧ PD Z D σ2 F3 H3 ρ3 (L2.wipe σ2 (slots t2)) F H ρ ∧ walkL (compTurn (slots t2) ρ3 ws2 t2 ft fe) (ys.drop (j + 1)) acc ρ = .ok acc6 ρ6,
                      fun H' nx => ⟨ys.length - (j + 1), by omega, rfl, hltj, nx⟩, fun v Hy y => ?_⟩
                    obtain ⟨smj, rxj⟩ := iw1.yld j ys[j] F H v Hy (std1 hsdj) (List.getElem?_eq_getElem hltj) y
                    have pj := (Path.refl cj.path.st).same smj
                    have d1 := cj.step pj
                    have q1 := pd.path pj
                    cases ebj : bindT t2 ys[j] ρ with
                    | none => rw [ebj] at ewj; simp at ewj
                    | some ρb =>
                      rw [ebj] at ewj
                      simp only [R.opt_some] at ewj
                      refine ⟨F, ρ, ys[j], ρb, d1.path.st, rxj, ebj, fun σ5 pb5 kb5 lb5 => ?_⟩
                      have d2 := d1.step pb5
                      have q2 := q1.path pb5
                      have hwp5 : L2.wipe σ5 (slots t2) = L2.wipe σ2 (slots t2) := wipe_same (fun j hj => kb5 j hj) lb5
                      refine ⟨by rw [hwp5], here d2.path.st ?_⟩
                      unfold ifB at ewj
                      cases et5 : ft ρb with
                      | stuck => rw [et5] at ewj; simp at ewj
                      | exc k ρ3 => rw [et5] at ewj; simp at ewj
                      | ok b ρt =>
                        rw [et5] at ewj
                        simp only [R.bind_ok] at ewj
                        intro b' Ft Ht pt eb'
                        have eb' : b' = b := eb'
                        subst eb'
                        have d3 := d2.step pt
                        have q3 := q2.path pt
                        cases b' with
                        | false =>
                          simp only [Bool.false_eq_true, if_false, R.bind_ok] at ewj ⊢
                          have wp := wipe_path (slots t2) d3.path.st
                          rw [hwp5] at wp
                          exact ⟨Ft, wipe ρt (slots t2), acc, d3.step wp, q3.path wp, ewj⟩
                        | true =>
                          simp only [if_true] at ewj ⊢
                          refine here d3.path.st ?_
                          cases ee : fe ρt with
                          | stuck => rw [ee] at ewj; simp at ewj
                          | exc k ρ4 => rw [ee] at ewj; simp at ewj
                          | ok o ρ4 =>
                            rw [ee] at ewj
                            simp only [R.bind_ok] at ewj
                            intro y4 F4 H4 p4 r4
                            have d4 := d3.step p4
                            have q4 := q3.path p4
                            cases ek : keep ρ4 o with
                            | none => rw [ek] at ewj; simp at ewj
                            | some kp =>
                              obtain ⟨x5, ρ5'⟩ := kp
                              rw [ek] at ewj
                              simp only [R.opt_some] at ewj
                              split at ewj
                              · rename_i hlen
                                simp only [R.bind_ok] at ewj
                                obtain ⟨F5, d5, rx5, kf, ko⟩ := d4.keep' r4.1 (fun hn z => by
                                  obtain ⟨vs, eD, _⟩ := d3.lst
                                  have q := r4.2 hn D z
                                  rw [eD] at q
                                  cases q) (r4.2.back d3.path) ek
                                obtain ⟨vs, eD, rvs⟩ := d5.lst
                                have wp := wipe_path (slots t2) d5.path.st
                                rw [hwp5] at wp
                                have d6 := d5.step wp
                                have q6 := (q4.kept kf ko).path wp
                                exact ⟨vs, eD, by rw [← rvs.len, sizeLine_eq]; exact hlen, F5, wipe ρ5' (slots t2), acc ++ [x5], d6.grow hD (rvs.append (.cons rx5 .nil)), q6.grow, ewj⟩
                              · simp at ewj
                  · have ej : j = ys.length := by omega
                    subst ej
                    rw [List.drop_length] at ewj
                    simp only [walkL, R.ok.injEq] at ewj
                    obtain ⟨rfl, rfl⟩ := ewj
                    refine .inl ⟨iw1.stop F H (std1 hs6), ?_⟩
                    have wp := wipe_path ow cj.path.st
                    have hww : L2.wipe (L2.wipe σ2 (slots t2)) ow = L2.wipe σ ow := by
                      rw [← hwp]
                      exact wipe_same (fun j hj => by rw [wipe_out fun z => hj (hts2 j z), wipe_out hj]) (by rw [wipe_length, wipe_length])
                    rw [hww] at wp
                    exact ⟨F, wipe ρ ow, acc, cj.step wp, ew⟩
                · rw [if_neg hs6] at ew
                  simp at ew
        · have ei : i = xs.length := by omega
          subst ei
          rw [List.drop_length] at ew
          simp only [walkL, R.ok.injEq] at ew
          obtain ⟨rfl, rfl⟩ := ew
          refine .inl ⟨iw.stop F H (std hs5), ?_⟩
          obtain ⟨vs, eD, rvs⟩ := c.lst
          obtain ⟨pb, ob⟩ := back_path ow p01.st c.path
          refine post (.ref D) F H (p01.trans pb) ⟨⟨D, vs, rfl, eD, rvs, c.nf, fun z => ?_⟩, fun _ a ea => ?_⟩
          · rcases ob D z with z | z
            · rcases (p01.st.kind z).1 with ⟨_, y⟩ | ⟨_, y⟩ | ⟨_, y⟩ <;> · rw [hD] at y; cases y
            · exact c.no z
          · cases ea
            exact .of_not fun y => p01.sp.there D y (.none hD)
      · rw [if_neg hs5] at post
        exact post.elim
end
end Ev
/-! Ev84: dict comprehensions of one clause and of two. -/
namespace Ev
open PySem PySem.Spec PyProof.Rows L2
section
variable {n : Nat} {E : XK} {X : Cx} {Z : Wo} {σ σ' σ0 σ1 σ2 : L2.St} {F F' F0 F1 F2 : Fz} {H H' H1 H0 H2 : Hp} {ρ ρ' ρ0 ρ1 ρ2 : Ev} {α β γ δ : Type}
theorem dc_inv {k v : O} {ρ5 ρ6 : Ev} {own : List Nat} {acc accf : List (Ev.D × Ev.D)} {g : List (Ev.D × Ev.D) → Ev → R (List (Ev.D × Ev.D))}
    (h : ((match k, v with
      | .d k, .d v => if keyOk k = true ∧ acc.length < cap then R.ok (putK k v acc) (wipe ρ5 own) else .stuck
      | _, _ => .stuck : R (List (Ev.D × Ev.D))).bind g) = .ok accf ρ6) : ∃ k' v', k = .d k' ∧ v = .d v' ∧ (keyOk k' = true ∧ acc.length < cap) ∧ g (putK k' v' acc) (wipe ρ5 own) = .ok accf ρ6 := by
  cases k with
  | d k' =>
    cases v with
    | d v' =>
      simp only at h
      split at h
      · rename_i hk
        exact ⟨k', v', rfl, rfl, hk, h⟩
      · cases h
    | _ => cases h
  | _ => cases h
/-- the new dict at D, which no slot holds -/
structure CD (Z : Wo) (σ0 : L2.St) (F0 : Fz) (H0 : Hp) (ρ0 : Ev) (D : Addr) (σ : L2.St) (F : Fz) (H : Hp) (ρ : Ev) (acc : List (Ev.D × Ev.D)) : Prop where
  path : Path Z σ0 F0 H0 ρ0 σ F H ρ
  lst : ∃ vs, H D = some (.dK vs) ∧ Paired (DicK Z F H) vs acc
  nf : ¬ F D
  no : ¬ Own σ ρ D
theorem CD.step {D : Addr} {acc : List (Ev.D × Ev.D)} (c : CD Z σ0 F0 H0 ρ0 D σ F H ρ acc) (p : Path Z σ F H ρ σ' F' H' ρ') : CD Z σ0 F0 H0 ρ0 D σ' F' H' ρ' acc := by
  obtain ⟨vs, e, r⟩ := c.lst
  refine ⟨c.path.trans p, ⟨vs, p.sp.keep D _ e c.no (fun _ z => by cases z), L2.Paired.mapP r fun _ _ q => ⟨q.1, q.2.up (c.path.st.up p.sp)⟩⟩, fun z => ?_, fun z => ?_⟩
  · rcases p.sp.fout D z with y | y | y
    · exact c.nf y
    · rw [e] at y; cases y
    · exact c.no y
  · rcases p.sub D z with y | y
    · exact c.no y
    · rw [e] at y; cases y
theorem CD.grow {D : Addr} {acc ys : List (Ev.D × Ev.D)} {ws : List (Key × V)} (c : CD Z σ0 F0 H0 ρ0 D σ F H ρ acc) (h0 : H0 D = none) (r : Paired (DicK Z F H) ws ys) : CD Z σ0 F0 H0 ρ0 D σ F (upd H D (.dK ws)) ρ ys := by
  obtain ⟨vs, e, _⟩ := c.lst
  have u : Up F H F (upd H D (.dK ws)) := ⟨fun c vs q => by
      rw [upd_ne (ne_of q e (by intro z; cases z))]; exact q, fun c o w q => by
      rw [upd_ne (ne_of q e (by intro z; cases z))]; exact q, fun _ f => f, fun b vs f q => by
      rw [upd_ne (fun z => c.nf (by rw [← z]; exact f))]; exact q⟩
  have th : ∀ b, ¬ NoO (H b) → ¬ NoO ((upd H D (.dK ws)) b) := fun b n => by
    by_cases z : b = D
    · rw [z, upd_same]; exact id
    · rw [upd_ne z]; exact n
  refine ⟨⟨⟨c.path.st.len, fun i w ei => ?_, c.path.st.inj, ?_, fun b f => th b (c.path.st.ft b f)⟩, ⟨fun b o eb nb t => ?_, fun b n => th b (c.path.sp.there b n), c.path.sp.fin, c.path.sp.fout⟩, c.path.sub, c.path.pp⟩, ⟨ws, upd_same, L2.Paired.mapP r fun _ _ q => ⟨q.1, q.2.up u⟩⟩, c.nf, c.no⟩
  · obtain ⟨v, ev, rw'⟩ := c.path.st.rep i w ei
    refine ⟨v, ev, rw'.up u fun a ea ho => ?_⟩
    subst ea
    have ow := own_of ei ho ev
    exact ⟨fun o q => by rw [upd_ne (fun z => c.no (by rw [← z]; exact ow))]; exact q, (c.path.st.kind ow).2⟩
  · intro t ht
    obtain ⟨ps, h1', h2', h3'⟩ := c.path.st.tabs t ht
    refine ⟨ps, ?_, h2', fun pos cv hc => ?_⟩
    · rw [upd_ne (ne_of h1' e (by intro z; cases z))]; exact h1'
    · obtain ⟨cc, ec, hcc⟩ := h3' pos cv hc
      refine ⟨cc, ec, ?_⟩
      rw [upd_ne (ne_of hcc e (by unfold LamX.CodeO; intro z; cases z))]
      exact hcc
  · rw [upd_ne (fun z => by rw [z, h0] at eb; cases eb)]
    exact c.path.sp.keep b o eb nb t
theorem snd_dcomp {kx vx tg iter : Expr} {ifs : List Expr} {scope : Scope} {own : List (Str × Nat)} {ow : List Nat} {pos : Pos} {gi : Ev → R (List D × List Nat)} {t : Tg} {ft : Ev → R Bool} {fk fv : Ev → R O} (hc : X.calm = true) (hN : X.N.Nodup) (hi : PI X tg iter (LI Z E gi)) (ok : BlkOk X.N X.env.scope scope own)
    (hw : own.map (·.2) = ow) (hts : ∀ i ∈ slots t, i ∈ ow)
    (hg : ∀ (s : Shared) (H : Hp) (C : Addr) (cl : List (Str × Addr)) (fp : List Addr), PG (X.blk s H scope (compEnvC scope cl C X.env) fp) tg (LGt Z t)) (ht : ∀ (s : Shared) (H : Hp) (C : Addr) (cl : List (Str × Addr)) (fp : List Addr), PTs (X.blk s H scope (compEnvC scope cl C X.env) fp) ifs (LT Z E0 ft))
    (hk : ∀ (s : Shared) (H : Hp) (C : Addr) (cl : List (Str × Addr)) (fp : List Addr), PE (X.blk s H scope (compEnvC scope cl C X.env) fp) kx (LE Z E0 fk)) (he : ∀ (s : Shared) (H : Hp) (C : Addr) (cl : List (Str × Addr)) (fp : List Addr), PE (X.blk s H scope (compEnvC scope cl C X.env) fp) vx (LE Z E0 fv)) (hs : ∀ x, foldedSetIterable iter X.env x = pure x) :
    PE X (.DictComp kx vx [⟨tg, iter, ifs, 0⟩] scope pos) (LE Z E fun ρ => (gi ρ).bind fun p ρ1 => dcEnd ow ρ1 p.2 (walkL (dcTurn ow ρ1 p.2 t ft fk fv) p.1 [] (wipe ρ1 ow))) := by
  subst hw
  refine peImp (pe_dc hc hN hi ok hg ht hk he hs) fun σ H Q q => dcImp hts q
where
  dcImp {σ : L2.St} {H : Hp} {Q : VK} {gi : Ev → R (List D × List Nat)} {ow : List Nat} {t : Tg} {ft : Ev → R Bool} {fk fv : Ev → R O} (hts : ∀ i ∈ slots t, i ∈ ow)
      (q : LE Z E (fun ρ => (gi ρ).bind fun p ρ1 => dcEnd ow ρ1 p.2 (walkL (dcTurn ow ρ1 p.2 t ft fk fv) p.1 [] (wipe ρ1 ow))) σ H Q) :
      tDc (LI Z E gi) (LGt Z t) (LT Z E0 ft) (LE Z E0 fk) (LE Z E0 fv) ow σ H Q := by
    obtain ⟨F0, H0, ρ0, F, ρ, p, post⟩ := q
    refine run p post fun xw ρ1 J F1 H1 p1 p01 r post => ?_
    obtain ⟨xs, ws⟩ := xw
    obtain ⟨St, iw, hst⟩ := r
    intro D hD
    -- what came of it
    unfold dcEnd at post
    cases e : walkL (dcTurn ow ρ1 ws t ft fk fv) xs [] (wipe ρ1 ow) with
    | stuck => simp only [e, R.bind_stuck, R.calm] at post; exact post.elim
    | exc c ρ5 => simp only [e, R.bind_exc, R.calm] at post; exact post.elim
    | ok accf ρ5 =>
      simp only [e, R.bind_ok] at post
      by_cases hs5 : stands ρ1 ρ5 ws = true
      · rw [if_pos hs5] at post
        have w0 := wipe_path ow p01.st
        have n1 : ¬ F1 D := fun f => p01.st.ft D f (.none hD)
        have c0 : CD Z (L2.wipe σ ow) F1 H1 (wipe ρ1 ow) D (L2.wipe σ ow) F1 (upd H1 D (.dK [])) (wipe ρ1 ow) [] := by
          have sm : Same H1 (upd H1 D (.dK [])) := fun b o e => by
            rw [upd_ne (fun z => by rw [z, hD] at e; cases e)]; exact e
          refine ⟨(Path.refl w0.st).same sm, ⟨[], upd_same, .nil⟩, n1, fun z => ?_⟩
          rcases (w0.st.kind z).1 with ⟨_, y⟩ | ⟨_, y⟩ | ⟨_, y⟩ <;> · rw [hD] at y; cases y
        refine ⟨fun i m H => m = xs.length - i ∧ i ≤ xs.length ∧ ∃ F ρ acc, CD Z (L2.wipe σ ow) F1 H1 (wipe ρ1 ow) D (L2.wipe σ ow) F H ρ acc ∧ walkL (dcTurn ow ρ1 ws t ft fk fv) (xs.drop i) acc ρ = .ok accf ρ5,
          ⟨xs.length, by omega, Nat.zero_le _, F1, wipe ρ1 ow, [], c0, by rw [List.drop_zero]; exact e⟩, ?_⟩
        rintro i m H ⟨rfl, hi, F, ρ, acc, c, ew⟩
        -- the walked things stand
        have std : stands ρ1 ρ ws = true → St F H := fun h => by
          refine hst _ _ _ _ ((w0.trans c.path).later p01.st) (fun j hj => ?_) h
          obtain ⟨p', q', ys, e1, e2⟩ := stands_get h hj
          obtain ⟨v, ev, _⟩ := c.path.st.rep j _ e2
          obtain ⟨h1, h2⟩ := wipe_some ev
          rw [ev, h1]
        rcases Nat.lt_or_ge i xs.length with hlt | hge
        · -- one more turn
          have ed : xs.drop i = xs[i] :: xs.drop (i + 1) := List.drop_eq_getElem_cons hlt
          rw [ed] at ew
          simp only [walkL] at ew
          have hsd : stands ρ1 ρ ws = true := by
            cases b : stands ρ1 ρ ws with
            | true => rfl
            | false => simp [dcTurn, b] at ew
          simp only [dcTurn, hsd, if_true] at ew
          refine .inr ⟨iw.go i F H (std hsd) hlt, fun H => ∃ F ρ acc, CD Z (L2.wipe σ ow) F1 H1 (wipe ρ1 ow) D (L2.wipe σ ow) F H ρ acc ∧ walkL (dcTurn ow ρ1 ws t ft fk fv) (xs.drop (i + 1)) acc ρ = .ok accf ρ5,
            fun H' nx => ⟨xs.length - (i + 1), by omega, rfl, hlt, nx⟩, fun v H' y => ?_⟩
          obtain ⟨sm, rx⟩ := iw.yld i xs[i] F H v H' (std hsd) (List.getElem?_eq_getElem hlt) y
          have c1 := c.step ((Path.refl c.path.st).same sm)
          cases eb : bindT t xs[i] ρ with
          | none => rw [eb] at ew; simp at ew
          | some ρ2 =>
            rw [eb] at ew
            simp only [R.opt_some] at ew
            refine ⟨F, ρ, xs[i], ρ2, c1.path.st, rx, eb, fun σ2 pb kb lb => ?_⟩
            have c2 := c1.step pb
            have hwp : L2.wipe σ2 ow = L2.wipe σ ow := by
              refine wipe_same (fun j hj => kb j fun z => hj (hts j z)) lb
            refine ⟨hwp, here c2.path.st ?_⟩
            unfold ifB at ew
            cases et : ft ρ2 with
            | stuck => rw [et] at ew; simp at ew
            | exc k ρ3 => rw [et] at ew; simp at ew
            | ok b ρ3 =>
              rw [et] at ew
              simp only [R.bind_ok] at ew
              intro b' F3 H3 p3 eb'
              have eb' : b' = b := eb'
              subst eb'
              have c3 := c2.step p3
              have p3' : Sta Z F3 H3 σ2 ρ3 := p3.st
              cases b' with
              | false =>
                simp only [Bool.false_eq_true, if_false, R.bind_ok] at ew ⊢
                have wp := wipe_path ow p3'
                rw [hwp] at wp
                exact ⟨F3, wipe ρ3 ow, acc, c3.step wp, ew⟩
              | true =>
                simp only [if_true] at ew ⊢
                refine here p3' ?_
                cases ee : fk ρ3 with
                | stuck => rw [ee] at ew; simp at ew
                | exc k ρ4 => rw [ee] at ew; simp at ew
                | ok o ρ4 =>
                  rw [ee] at ew
                  simp only [R.bind_ok] at ew
                  intro y4 F4 H4 p4 r4
                  have c4 := c3.step p4
                  refine here c4.path.st ?_
                  cases ee2 : fv ρ4 with
                  | stuck => rw [ee2] at ew; simp at ew
                  | exc k ρ5 => rw [ee2] at ew; simp at ew
                  | ok o2 ρ5' =>
                    rw [ee2] at ew
                    simp only [R.bind_ok] at ew
                    intro y5 F5 H5 p5 r5
                    have c5 := c4.step p5
                    obtain ⟨k, v, rfl, rfl, hkl, ew⟩ := dc_inv ew
                    obtain ⟨j, rfl⟩ := keyOk_of hkl.1
                    have ey : y4 = .int j := Rp.inv_int r4.1.dp
                    obtain ⟨ps, eD, pk⟩ := c5.lst
                    have wp := wipe_path ow c5.path.st
                    rw [hwp] at wp
                    have c6 := c5.step wp
                    exact ⟨ps, .inl j, ey, eD, by rw [Paired.length pk, sizeLine_eq]; exact hkl.2, F5, wipe ρ5' ow, _, c6.grow hD (dk_put pk r5.1.dp), ew⟩
        · -- the end
          have ei : i = xs.length := by omega
          subst ei
          rw [List.drop_length] at ew
          simp only [walkL, R.ok.injEq] at ew
          obtain ⟨rfl, rfl⟩ := ew
          refine .inl ⟨iw.stop F H (std hs5), ?_⟩
          obtain ⟨vs, eD, rvs⟩ := c.lst
          obtain ⟨pb, ob⟩ := back_path ow p01.st c.path
          refine post (.ref D) F H (p01.trans pb) ⟨⟨D, rfl, ⟨vs, eD, rvs⟩, c.nf, fun z => ?_⟩, fun _ a ea => ?_⟩
          · rcases ob D z with z | z
            · rcases (p01.st.kind z).1 with ⟨_, y⟩ | ⟨_, y⟩ | ⟨_, y⟩ <;> · rw [hD] at y; cases y
            · exact c.no z
          · cases ea
            exact .of_not fun y => p01.sp.there D y (.none hD)
      · rw [if_neg hs5] at post
        exact post.elim
/-- a path on which the dict at D may be written, too -/
structure PDk (Z : Wo) (D : Addr) (σ0 : L2.St) (F0 : Fz) (H0 : Hp) (ρ0 : Ev) (σ : L2.St) (F : Fz) (H : Hp) (ρ : Ev) : Prop where
  keep : ∀ b o, H0 b = some o → ¬ Own σ0 ρ0 b → b ≠ D → (∀ ps, o ≠ .tbl ps) → H b = some o
  there : ∀ b, ¬ NoO (H0 b) → ¬ NoO (H b)
  fin : ∀ b, F0 b → F b
  dn : ∃ vs, H0 D = some (.dK vs)
  dF : ¬ F0 D
  sub : ∀ b, Own σ ρ b → Own σ0 ρ0 b ∨ NoO (H0 b)
theorem PDk.path {D : Addr} (a : PDk Z D σ0 F0 H0 ρ0 σ F H ρ) (p : Path Z σ F H ρ σ' F' H' ρ') : PDk Z D σ0 F0 H0 ρ0 σ' F' H' ρ' := by
  have own : ∀ b o, H0 b = some o → ¬ Own σ0 ρ0 b → (∀ ps, o ≠ .tbl ps) → ¬ Own σ ρ b := fun b o e n t z => by
    rcases a.sub b z with y | y
    · exact n y
    · rw [e] at y
      obtain ⟨ps, y⟩ := y.tbl
      exact t ps y
  refine ⟨fun b o e n d t => p.sp.keep b o (a.keep b o e n d t) (own b o e n t) t, fun b n => p.sp.there b (a.there b n), fun b f => p.sp.fin b (a.fin b f), a.dn, a.dF, fun b z => ?_⟩
  rcases p.sub b z with y | y
  · exact a.sub b y
  · exact .inr (.of_not fun q => a.there b q y)
theorem PDk.kept {D : Addr} (a : PDk Z D σ0 F0 H0 ρ0 σ F H ρ) (hf : ∀ b, F b → F2 b) (ho : ∀ b, Own σ ρ2 b → Own σ ρ b) : PDk Z D σ0 F0 H0 ρ0 σ F2 H ρ2 := ⟨a.keep, a.there, fun b f => hf b (a.fin b f), a.dn, a.dF, fun b z => a.sub b (ho b z)⟩
theorem PDk.grow {D : Addr} {ws : List (Key × V)} (a : PDk Z D σ0 F0 H0 ρ0 σ F H ρ) : PDk Z D σ0 F0 H0 ρ0 σ F (upd H D (.dK ws)) ρ := by
  refine ⟨fun b o e n d t => ?_, fun b n => ?_, a.fin, a.dn, a.dF, a.sub⟩
  · rw [upd_ne d]
    exact a.keep b o e n d t
  · by_cases z : b = D
    · rw [z, upd_same]; exact id
    · rw [upd_ne z]; exact a.there b n
theorem PDk.later {D : Addr} (a : PDk Z D σ1 F1 H1 ρ1 σ F H ρ) (s1 : Sta Z F1 H1 σ1 ρ1) (s : Sta Z F H σ ρ) (h0 : ¬ NoO (H0 D)) : Later Z H0 σ1 F1 H1 ρ1 σ F H ρ := by
  obtain ⟨vd, ed⟩ := a.dn
  have nD : ∀ b o, H1 b = some o → (∀ vs, o ≠ .dK vs) → b ≠ D := fun b o e n z => by
    rw [z, ed] at e
    cases e
    exact n vd rfl
  have nO : ∀ b o, H1 b = some o → (∀ vs, o ≠ .lst vs) → (∀ ps, o ≠ .dK ps) → (∀ ps, o ≠ .dT ps) → ¬ Own σ1 ρ1 b := fun b o e n1 n2 n3 z => by
    rcases (s1.kind z).1 with ⟨_, q⟩ | ⟨_, q⟩ | ⟨_, q⟩
    · rw [e] at q; cases q; exact n1 _ rfl
    · rw [e] at q; cases q; exact n2 _ rfl
    · rw [e] at q; cases q; exact n3 _ rfl
  refine ⟨s, ⟨fun b vs e => ?_, fun b o u e => ?_, a.fin, fun b vs f e => ?_⟩, fun b o e0 e n t => a.keep b o e n (fun z => h0 (by rw [← z]; exact e0)) t⟩
  · exact a.keep b _ e (nO b _ e (fun _ z => by cases z) (fun _ z => by cases z) fun _ z => by cases z) (nD b _ e fun _ z => by cases z) fun _ z => by cases z
  · exact a.keep b _ e (nO b _ e (fun _ z => by cases z) (fun _ z => by cases z) fun _ z => by cases z) (nD b _ e fun _ z => by cases z) fun _ z => by cases z
  · exact a.keep b _ e (fun z => (s1.kind z).2 f) (fun z => a.dF (by rw [← z]; exact f)) fun _ z => by cases z
theorem snd_dcomp2 {kx vx tg iter tg1 iter1 : Expr} {ifs1 : List Expr} {scope : Scope} {own : List (Str × Nat)} {ow : List Nat} {pos : Pos} {gi g2 : Ev → R (List D × List Nat)} {t t2 : Tg} {ft : Ev → R Bool} {fk fv : Ev → R O} (hc : X.calm = true) (hN : X.N.Nodup) (hi : PI X tg iter (LI Z E gi)) (ok : BlkOk X.N X.env.scope scope own)
    (hw : own.map (·.2) = ow) (hts : ∀ i ∈ slots t, i ∈ ow) (hts2 : ∀ i ∈ slots t2, i ∈ ow)
    (hg : ∀ (s : Shared) (H : Hp) (C : Addr) (cl : List (Str × Addr)) (fp : List Addr), PG (X.blk s H scope (compEnvC scope cl C X.env) fp) tg (LGt Z t))
    (hi1 : ∀ (s : Shared) (H : Hp) (C : Addr) (cl : List (Str × Addr)) (fp : List Addr), PI (X.blk s H scope (compEnvC scope cl C X.env) fp) tg1 iter1 (LI Z E0 g2))
    (hg1 : ∀ (s : Shared) (H : Hp) (C : Addr) (cl : List (Str × Addr)) (fp : List Addr), PG (X.blk s H scope (compEnvC scope cl C X.env) fp) tg1 (LGt Z t2))
    (ht1 : ∀ (s : Shared) (H : Hp) (C : Addr) (cl : List (Str × Addr)) (fp : List Addr), PTs (X.blk s H scope (compEnvC scope cl C X.env) fp) ifs1 (LT Z E0 ft))
    (hk : ∀ (s : Shared) (H : Hp) (C : Addr) (cl : List (Str × Addr)) (fp : List Addr), PE (X.blk s H scope (compEnvC scope cl C X.env) fp) kx (LE Z E0 fk)) (he : ∀ (s : Shared) (H : Hp) (C : Addr) (cl : List (Str × Addr)) (fp : List Addr), PE (X.blk s H scope (compEnvC scope cl C X.env) fp) vx (LE Z E0 fv)) (hs : ∀ x, foldedSetIterable iter X.env x = pure x) (hs1 : ∀ env x, foldedSetIterable iter1 env x = pure x) :
    PE X (.DictComp kx vx [⟨tg, iter, [], 0⟩, ⟨tg1, iter1, ifs1, 0⟩] scope pos) (LE Z E fun ρ => (gi ρ).bind fun p ρ1 => dcEnd ow ρ1 p.2 (walkL (compTurn2 ow ρ1 p.2 t g2 (slots t2) fun ρ3 ws2 => dcTurn (slots t2) ρ3 ws2 t2 ft fk fv) p.1 [] (wipe ρ1 ow))) := by
  subst hw
  refine peImp (EvC.pe_dc2 (vs1 := slots t2) hc hN hi ok hts2 hg (fun _ _ _ _ _ => pts_nil) hi1 hg1 ht1 hk he hs hs1) fun σ H Q q => dcImp2 hts hts2 q
where
  dcImp2 {σ : L2.St} {H : Hp} {Q : VK} {gi g2 : Ev → R (List D × List Nat)} {ow : List Nat} {t t2 : Tg} {ft : Ev → R Bool} {fk fv : Ev → R O} (hts : ∀ i ∈ slots t, i ∈ ow) (hts2 : ∀ i ∈ slots t2, i ∈ ow)
      (q : LE Z E (fun ρ => (gi ρ).bind fun p ρ1 => dcEnd ow ρ1 p.2 (walkL (compTurn2 ow ρ1 p.2 t g2 (slots t2) fun ρ3 ws2 => dcTurn (slots t2) ρ3 ws2 t2 ft fk fv) p.1 [] (wipe ρ1 ow))) σ H Q) :
      EvC.tDc2 (LI Z E gi) (LGt Z t) tYes (LI Z E0 g2) (LGt Z t2) (LT Z E0 ft) (LE Z E0 fk) (LE Z E0 fv) ow (slots t2) σ H Q := by
    obtain ⟨F0, H0, ρ0, F, ρ, p, post⟩ := q
    refine run p post fun xw ρ1 J F1 H1 p1 p01 r post => ?_
    obtain ⟨xs, ws⟩ := xw
    obtain ⟨St, iw, hst⟩ := r
    intro D hD
    unfold dcEnd at post
    generalize hturn : (compTurn2 ow ρ1 ws t g2 (slots t2) fun ρ3 ws2 => dcTurn (slots t2) ρ3 ws2 t2 ft fk fv) = turn at post
    cases e : walkL turn xs [] (wipe ρ1 ow) with
    | stuck => simp only [e, R.bind_stuck, R.calm] at post; exact post.elim
    | exc c ρ5 => simp only [e, R.bind_exc, R.calm] at post; exact post.elim
    | ok accf ρ5 =>
      simp only [e, R.bind_ok] at post
      by_cases hs5 : stands ρ1 ρ5 ws = true
      · rw [if_pos hs5] at post
        have w0 := wipe_path ow p01.st
        have n1 : ¬ F1 D := fun f => p01.st.ft D f (.none hD)
        have c0 : CD Z (L2.wipe σ ow) F1 H1 (wipe ρ1 ow) D (L2.wipe σ ow) F1 (upd H1 D (.dK [])) (wipe ρ1 ow) [] := by
          have sm : Same H1 (upd H1 D (.dK [])) := fun b o e => by
            rw [upd_ne (fun z => by rw [z, hD] at e; cases e)]; exact e
          refine ⟨(Path.refl w0.st).same sm, ⟨[], upd_same, .nil⟩, n1, fun z => ?_⟩
          rcases (w0.st.kind z).1 with ⟨_, y⟩ | ⟨_, y⟩ | ⟨_, y⟩ <;> · rw [hD] at y; cases y
        refine ⟨fun i m H => m = xs.length - i ∧ i ≤ xs.length ∧ ∃ F ρ acc, CD Z (L2.wipe σ ow) F1 H1 (wipe ρ1 ow) D (L2.wipe σ ow) F H ρ acc ∧ walkL turn (xs.drop i) acc ρ = .ok accf ρ5,
          ⟨xs.length, by omega, Nat.zero_le _, F1, wipe ρ1 ow, [], c0, by rw [List.drop_zero]; exact e⟩, ?_⟩
        rintro i m H ⟨rfl, hi, F, ρ, acc, c, ew⟩
        have std : stands ρ1 ρ ws = true → St F H := fun h => by
          refine hst _ _ _ _ ((w0.trans c.path).later p01.st) (fun j hj => ?_) h
          obtain ⟨p', q', ys, e1, e2⟩ := stands_get h hj
          obtain ⟨v, ev, _⟩ := c.path.st.rep j _ e2
          obtain ⟨h1, h2⟩ := wipe_some ev
          rw [ev, h1]
        rcases Nat.lt_or_ge i xs.length with hlt | hge
        · have ed : xs.drop i = xs[i] :: xs.drop (i + 1) := List.drop_eq_getElem_cons hlt
          rw [ed] at ew
          simp only [walkL] at ew
          have hsd : stands ρ1 ρ ws = true := by
            cases b : stands ρ1 ρ ws with
            | true => rfl
            | false => rw [← hturn] at ew; simp [compTurn2, b] at ew
          have et : turn xs[i] acc ρ = R.opt (bindT t xs[i] ρ) fun ρ2 => (g2 ρ2).bind fun p ρ3 => (walkL (dcTurn (slots t2) ρ3 p.2 t2 ft fk fv) p.1 acc (wipe ρ3 (slots t2))).bind fun acc' ρ6 =>
              if stands ρ3 ρ6 p.2 = true then .ok acc' (wipe ρ6 ow) else .stuck := by
            rw [← hturn]
            simp only [compTurn2, hsd, if_true]
          rw [et] at ew
          refine .inr ⟨iw.go i F H (std hsd) hlt, fun H => ∃ F ρ acc, CD Z (L2.wipe σ ow) F1 H1 (wipe ρ1 ow) D (L2.wipe σ ow) F H ρ acc ∧ walkL turn (xs.drop (i + 1)) acc ρ = .ok accf ρ5,
            fun H' nx => ⟨xs.length - (i + 1), by omega, rfl, hlt, nx⟩, fun v H' y => ?_⟩
          obtain ⟨sm, rx⟩ := iw.yld i xs[i] F H v H' (std hsd) (List.getElem?_eq_getElem hlt) y
          have c1 := c.step ((Path.refl c.path.st).same sm)
          cases eb : bindT t xs[i] ρ with
          | none => rw [eb] at ew; simp at ew
          | some ρ2 =>
            rw [eb] at ew
            simp only [R.opt_some] at ew
            refine ⟨F, ρ, xs[i], ρ2, c1.path.st, rx, eb, fun σ2 pb kb lb => ?_⟩
            have c2 := c1.step pb
            have hwp : L2.wipe σ2 ow = L2.wipe σ ow := wipe_same (fun j hj => kb j fun z => hj (hts j z)) lb
            refine ⟨hwp, ?_⟩
            unfold tYes
            simp only [if_true]
            refine here c2.path.st ?_
            cases eg : g2 ρ2 with
            | stuck => rw [eg] at ew; simp at ew
            | exc k ρ3 => rw [eg] at ew; simp at ew
            | ok pw ρ3 =>
              obtain ⟨ys, ws2⟩ := pw
              rw [eg] at ew
              simp only [R.bind_ok] at ew
              intro J1 F3 H3 p3 r3
              obtain ⟨St1, iw1, hst1⟩ := r3
              have c3 := c2.step p3
              obtain ⟨vd, eD3, _⟩ := c3.lst
              -- the inner loop's end
              cases ei : walkL (dcTurn (slots t2) ρ3 ws2 t2 ft fk fv) ys acc (wipe ρ3 (slots t2)) with
              | stuck => rw [ei] at ew; simp at ew
              | exc k ρ4 => rw [ei] at ew; simp at ew
              | ok acc6 ρ6 =>
                rw [ei] at ew
                simp only [R.bind_ok] at ew
                by_cases hs6 : stands ρ3 ρ6 ws2 = true
                · rw [if_pos hs6] at ew
                  simp only [R.bind_ok] at ew
                  have w3 := wipe_path (slots t2) c3.path.st
                  have hD' : ¬ NoO (H' D) := by
                    obtain ⟨vs, q, _⟩ := c2.lst
                    rw [q]; exact id
                  refine ⟨fun j k H => k = ys.length - j ∧ j ≤ ys.length ∧ ∃ F ρ acc, CD Z (L2.wipe σ ow) F1 H1 (wipe ρ1 ow) D (L2.wipe σ2 (slots t2)) F H ρ acc ∧ PDk Z D σ2 F3 H3 ρ3 (L2.wipe σ2 (slots t2)) F H ρ ∧ walkL (dcTurn (slots t2) ρ3 ws2 t2 ft fk fv) (ys.drop j) acc ρ = .ok acc6 ρ6,
                    ⟨ys.length, by omega, Nat.zero_le _, F3, wipe ρ3 (slots t2), acc, c3.step w3, PDk.path ⟨fun b o e _ _ _ => e, fun b n => n, fun b f => f, ⟨vd, eD3⟩, c3.nf, fun b z => .inl z⟩ w3, by rw [List.drop_zero]; exact ei⟩, ?_⟩
                  rintro j k H ⟨rfl, hj, F, ρ, acc, cj, pd, ewj⟩
                  have std1 : stands ρ3 ρ ws2 = true → St1 F H := fun h => by
                    refine hst1 _ _ _ _ (pd.later c3.path.st cj.path.st hD') (fun j hj => ?_) h
                    obtain ⟨p', q', zs, e1, e2⟩ := stands_get h hj
                    obtain ⟨v, ev, _⟩ := cj.path.st.rep j _ e2
                    obtain ⟨h1, h2⟩ := wipe_some ev
                    rw [ev, h1]
                  rcases Nat.lt_or_ge j ys.length with hltj | hgej
                  · have edj : ys.drop j = ys[j] :: ys.drop (j + 1) := List.drop_eq_getElem_cons hltj
                    rw [edj] at ewj
                    simp only [walkL] at ewj
                    have hsdj : stands ρ3 ρ ws2 = true := by
                      cases b : stands ρ3 ρ ws2 with
                      | true => rfl
                      | false => simp [dcTurn, b] at ewj
                    simp only [dcTurn, hsdj, if_true] at ewj
                    refine .inr ⟨iw1.go j F H (std1 hsdj) hltj, fun H => ∃ F ρ acc, CD Z (L2.wipe σ ow) F1 H1 (wipe ρ1 ow) D (L2.wipe σ2 (slots t2)) F H ρ acc ∧ PDk Z D σ2 F3 H3 ρ3 (L2.wipe σ2 (slots t2)) F H ρ ∧ walkL (dcTurn (slots t2) ρ3 ws2 t2 ft fk fv) (ys.drop (j + 1)) acc ρ = .ok acc6 ρ6,
                      fun H' nx => ⟨ys.length - (j + 1), by omega, rfl, hltj, nx⟩, fun v Hy y => ?_⟩
                    obtain ⟨smj, rxj⟩ := iw1.yld j ys[j] F H v Hy (std1 hsdj) (List.getElem?_eq_getElem hltj) y
                    have pj := (Path.refl cj.path.st).same smj
                    have d1 := cj.step pj
                    have q1 := pd.path pj
                    cases ebj : bindT t2 ys[j] ρ with
                    | none => rw [ebj] at ewj; simp at ewj
                    | some ρb =>
                      rw [ebj] at ewj
                      simp only [R.opt_some] at ewj
                      refine ⟨F, ρ, ys[j], ρb, d1.path.st, rxj, ebj, fun σ5 pb5 kb5 lb5 => ?_⟩
                      have d2 := d1.step pb5
                      have q2 := q1.path pb5
                      have hwp5 : L2.wipe σ5 (slots t2) = L2.wipe σ2 (slots t2) := wipe_same (fun j hj => kb5 j hj) lb5
                      refine ⟨by rw [hwp5], here d2.path.st ?_⟩
                      unfold ifB at ewj
                      cases et5 : ft ρb with
                      | stuck => rw [et5] at ewj; simp at ewj
                      | exc k ρ3 => rw [et5] at ewj; simp at ewj
                      | ok b ρt =>
                        rw [et5] at ewj
                        simp only [R.bind_ok] at ewj
                        intro b' Ft Ht pt eb'
                        have eb' : b' = b := eb'
                        subst eb'
                        have d3 := d2.step pt
                        have q3 := q2.path pt
                        cases b' with
                        | false =>
                          simp only [Bool.false_eq_true, if_false, R.bind_ok] at ewj ⊢
                          have wp := wipe_path (slots t2) d3.path.st
                          rw [hwp5] at wp
                          exact ⟨Ft, wipe ρt (slots t2), acc, d3.step wp, q3.path wp, ewj⟩
                        | true =>
                          simp only [if_true] at ewj ⊢
                          refine here d3.path.st ?_
                          cases ee : fk ρt with
                          | stuck => rw [ee] at ewj; simp at ewj
                          | exc k ρ4 => rw [ee] at ewj; simp at ewj
                          | ok o ρ4 =>
                            rw [ee] at ewj
                            simp only [R.bind_ok] at ewj
                            intro y4 F4 H4 p4 r4
                            have d4 := d3.step p4
                            have q4 := q3.path p4
                            refine here d4.path.st ?_
                            cases ee2 : fv ρ4 with
                            | stuck => rw [ee2] at ewj; simp at ewj
                            | exc k ρ5 => rw [ee2] at ewj; simp at ewj
                            | ok o2 ρ5' =>
                              rw [ee2] at ewj
                              simp only [R.bind_ok] at ewj
                              intro y5 F5 H5 p5 r5
                              have d5 := d4.step p5
                              have q5 := q4.path p5
                              obtain ⟨k, v, rfl, rfl, hkl, ewj⟩ := dc_inv ewj
                              obtain ⟨jj, rfl⟩ := keyOk_of hkl.1
                              have ey : y4 = .int jj := Rp.inv_int r4.1.dp
                              obtain ⟨ps, eD, pk⟩ := d5.lst
                              have wp := wipe_path (slots t2) d5.path.st
                              rw [hwp5] at wp
                              have d6 := d5.step wp
                              have q6 := q5.path wp
                              exact ⟨ps, .inl jj, ey, eD, by rw [Paired.length pk, sizeLine_eq]; exact hkl.2, F5, wipe ρ5' (slots t2), _, d6.grow hD (dk_put pk r5.1.dp), q6.grow, ewj⟩
                  · have ej : j = ys.length := by omega
                    subst ej
                    rw [List.drop_length] at ewj
                    simp only [walkL, R.ok.injEq] at ewj
                    obtain ⟨rfl, rfl⟩ := ewj
                    refine .inl ⟨iw1.stop F H (std1 hs6), ?_⟩
                    have wp := wipe_path ow cj.path.st
                    have hww : L2.wipe (L2.wipe σ2 (slots t2)) ow = L2.wipe σ ow := by
                      rw [← hwp]
                      exact wipe_same (fun j hj => by rw [wipe_out fun z => hj (hts2 j z), wipe_out hj]) (by rw [wipe_length, wipe_length])
                    rw [hww] at wp
                    exact ⟨F, wipe ρ ow, acc, cj.step wp, ew⟩
                · rw [if_neg hs6] at ew
                  simp at ew
        · have ei : i = xs.length := by omega
          subst ei
          rw [List.drop_length] at ew
          simp only [walkL, R.ok.injEq] at ew
          obtain ⟨rfl, rfl⟩ := ew
          refine .inl ⟨iw.stop F H (std hs5), ?_⟩
          obtain ⟨vs, eD, rvs⟩ := c.lst
          obtain ⟨pb, ob⟩ := back_path ow p01.st c.path
          refine post (.ref D) F H (p01.trans pb) ⟨⟨D, rfl, ⟨vs, eD, rvs⟩, c.nf, fun z => ?_⟩, fun _ a ea => ?_⟩
          · rcases ob D z with z | z
            · rcases (p01.st.kind z).1 with ⟨_, y⟩ | ⟨_, y⟩ | ⟨_, y⟩ <;> · rw [hD] at y; cases y
            · exact c.no z
          · cases ea
            exact .of_not fun y => p01.sp.there D y (.none hD)
      · rw [if_neg hs5] at post
        exact post.elim
end
end Ev
/-! Ev13: told(lambda: ..). -/
namespace Ev
open PySem PySem.Spec PyProof.Rows L2
section
variable {Z : Wo} {E : XK} {σ : L2.St} {F : Fz} {H H' : Hp} {ρ : Ev}
/-- the tables may grow -/
theorem ext_path (s : Sta Z F H σ ρ) (e : LamX.ExtN H H') (t : LamX.Tabs Z.TT H') : Path Z σ F H ρ σ F H' ρ := by
  have sp : Stp Z (Own σ ρ) F H F H' := ⟨fun b o h _ n => e b o h n, fun b n => by
    cases q : H b with
    | none => exact absurd (.none q) n
    | some o =>
      rw [q] at n
      rw [e b o q fun ps z => n (by rw [z]; trivial)]
      exact n, fun _ h => h, fun _ h => .inl h⟩
  have u := s.up sp
  refine ⟨⟨s.len, fun i w ei => ?_, s.inj, t, fun a f => sp.there a (s.ft a f)⟩, sp, fun _ h => .inl h, .refl⟩
  obtain ⟨v, ev, r⟩ := s.rep i w ei
  refine ⟨v, ev, r.up u fun a ea ho => ?_⟩
  subst ea
  have k := s.kind (own_of ei ho ev)
  refine ⟨fun o q => e a o q fun ps z => ?_, k.2⟩
  rcases k.1 with ⟨_, y⟩ | ⟨_, y⟩ | ⟨_, y⟩ <;> · rw [q] at y; cases y; cases z
end
/-! ### the def that tells -/
/-- the text of told -/
def toldBody (rd ev oor : Str) (r o : Str) (j k : Nat) (ja jb jc jd : Nat) (p1 p2 p3 p4 p5 p6 p7 p8 p9 q1 q2 q3 q4 q5 q6 q7 q8 q9 q10 q11 : Pos) : List Stmt :=
  [.Try [.Return (some (.Tuple [.Constant (.int 0) ja p1, .Call (.Name rd p2) [.Call (.Name "call" p3) [] [] p4] [] p5] j p6)) p7]
    [.ExceptHandler (some (.Name ev p8)) (some "e") [.Return (some (.Tuple [.Constant (.int 1) jb p9, .IfExp (.Call (.Name "isinstance" q1) [.Name "e" q2, .Name oor q3] [] q4) (.Constant (.str r) jc q5) (.Constant (.str o) jd q6) q7] k q8)) q9] q10] [] [] q11]
/-- an error that told knows: its class, whether it is out of range -/
structure ErrT (K : PySem.W.Frag) (CE CO : Addr) (c : Addr) (b : Bool) : Prop where
  exc : L2.ExcC K c
  ev : PySem.W.exmOne K (.ref c) (.ref CE) = some true
  oor : PySem.W.kitOne K (.ref c) (.ref CO) = some b
/-- told, as it stands -/
structure TolF (Y : Gw) (x : Str) : Prop where
  ex : ∃ (g : Addr) (pg : Arguments) (bg : List Stmt) (sg : Scope) (dV kV doc pm cdv ct oc : Value) (an od : Option Addr) (osl : Array (Option Value)) (rd ev oor r o : Str) (CE CO : Addr) (j k ja jb jc jd : Nat) (p1 p2 p3 p4 p5 p6 p7 p8 p9 q1 q2 q3 q4 q5 q6 q7 q8 q9 q10 q11 : Pos) (kr ko : Nat),
    Y.mg x = some (.ref g) ∧ PySem.W.keepIn Y.Z.K (.ref g) = true ∧ Y.Z.K.lookup g = some ⟨oc, od, .func (PySem.W.fnOf x x pg bg sg dV kV doc pm an cdv ct), osl⟩ ∧ PySem.W.codeIn Y.Z.K cdv x = true ∧ L2.Binds Y.Z.K (PySem.W.fnOf x x pg bg sg dV kV doc pm an cdv ct) ["call"] [] ∧
    FnScope ["call", "e"] ["call"] sg ∧ sg.names.lookup ("e" : Str) = some .local ∧ sg.names.lookup rd = some .globalImplicit ∧ sg.names.lookup ev = some .globalImplicit ∧ sg.names.lookup oor = some .globalImplicit ∧ sg.names.lookup ("isinstance" : Str) = some .globalImplicit ∧
    bg = toldBody rd ev oor r o j k ja jb jc jd p1 p2 p3 p4 p5 p6 p7 p8 p9 q1 q2 q3 q4 q5 q6 q7 q8 q9 q10 q11 ∧ Y.nm.fns[Y.T.read]? = some rd ∧ odd rd = false ∧ odd ev = false ∧ odd oor = false ∧ Y.mg ev = some (.ref CE) ∧ Y.mg oor = some (.ref CO) ∧ Y.mg "isinstance" = none ∧
    Y.Z.ST[kr]? = some r ∧ Y.Z.ST[ko]? = some o ∧ Y.ar Y.T.read = 1 ∧
    ∀ c, c < Y.T.ne → ∃ C b, Y.Z.cls c = .ref C ∧ ErrT Y.Z.K CE CO C b ∧ Y.T.word c = if b then kr else ko
section
variable {n : Nat} {E : XK} {X : Cx} {Y : Gw} {σ : L2.St} {H : Hp}
/-- what told makes of the lambda -/
def TTe (Y : Gw) (m : Nat) : (XK → Hp → VK → Prop) → Hp → VK → Prop := fun tl H Q =>
  tl (fun cls d H' => d = none ∧ ∃ c, c < Y.T.ne ∧ cls = Y.Z.cls c ∧ ∀ x, Y.Z.ST[Y.T.word c]? = some x → ∀ p, H' p = none → Q (.ref p) (upd H' p (.tup [.int 1, .str x]))) H
    fun v H1 => spF Y (m + 1) Y.T.read ([v] ++ []) H1 (fun w H2 => [V.int 0, w].length ≤ sizeLine ∧ ∀ p, H2 p = none → Q (.ref p) (upd H2 p (.tup [.int 0, w]))) E0
theorem vis_start {g : Addr} : (L2.start ["call", "e"] [V.ref g])[0]? = some (some (V.ref g)) := rfl
theorem told_gives (hgd : Y.nm.gd = false) {m : Nat} {q : Str} {rd ev oor r o : Str} {g CE CO : Addr} {sg : Scope} {cdg : Value} {j k ja jb jc jd : Nat} {p1 p2 p3 p4 p5 p6 p7 p8 p9 q1 q2 q3 q4 q5 q6 q7 q8 q9 q10 q11 : Pos} {x : Str} {kr ko : Nat}
    (hP : X.prog = Y.P) (hW : X.w = Y.w) (hK : X.K = Y.Z.K) (hmg : X.mg = Y.mg) (hbs : X.base = Y.base) (K : Fok Y (m + 1)) (hr : Room (m + 2) X.A)
    (Sg : FnScope ["call", "e"] ["call"] sg) (hle : sg.names.lookup ("e" : Str) = some .local) (grd : sg.names.lookup rd = some .globalImplicit) (gev : sg.names.lookup ev = some .globalImplicit) (goor : sg.names.lookup oor = some .globalImplicit) (gis : sg.names.lookup ("isinstance" : Str) = some .globalImplicit)
    (hf : Y.nm.fns[Y.T.read]? = some rd) (ord : odd rd = false) (oev : odd ev = false) (ooor : odd oor = false) (mev : Y.mg ev = some (.ref CE)) (moor : Y.mg oor = some (.ref CO)) (mis : Y.mg "isinstance" = none) (str_ : Y.Z.ST[kr]? = some r) (sto : Y.Z.ST[ko]? = some o)
    (errs : ∀ c, c < Y.T.ne → ∃ C b, Y.Z.cls c = .ref C ∧ ErrT Y.Z.K CE CO C b ∧ Y.T.word c = if b then kr else ko) :
    LamX.GivesTo X ["call", "e"] x sg g cdg (toldBody rd ev oor r o j k ja jb jc jd p1 p2 p3 p4 p5 p6 p7 p8 p9 q1 q2 q3 q4 q5 q6 q7 q8 q9 q10 q11) "call" q (TTe Y m) := by
  intro f c' s H Q tl act hc h
  obtain ⟨a, fd, ps, hm, hk, hb, FO⟩ := K.fn Y.T.read rd hf
  have FO := (FO (m + 1) (Nat.le_refl _)).ok hgd
  rw [← hP, ← hW, ← hK, ← hmg, ← hbs] at FO
  rw [← hmg] at hm mev moor mis
  rw [← hK] at hk hb
  have rr : Room (m + 1) (cxOf C8.CX0 X.prog X.w X.K X.mg X.base ["call", "e"] x sg g cdg X.A X.stack s H C8.E0).A := hr.deeper _
  have rdd := (odd_no ord).1
  have evd := (odd_no oev).1
  have ood := (odd_no ooor).1
  refine ⟨_, pss_one (ps_try_as (X := (cxOf C8.CX0 X.prog X.w X.K X.mg X.base ["call", "e"] x sg g cdg X.A X.stack s H C8.E0).nox) (i := 1) (n := "e") (c := .ref CE)
      (tb := fun W D σ H => ∃ Ech : XK, (∀ cls d σ' H', Ech cls d H' → W cls d σ' H') ∧ σ[0]? = some (some (.ref f)) ∧ H c' = some (LamX.CodeO c' q) ∧ tl Ech H fun v H1 => spF Y (m + 1) Y.T.read ([v] ++ []) H1 (fun w H2 => [V.int 0, w].length ≤ sizeLine ∧ ∀ p, H2 p = none → D.rt (.ref p) (upd H2 p (.tup [.int 0, w]))) E0)
      (ts := fun a' cls d D σ H => (∃ σ0 : L2.St, σ = σ0.set 1 (some (.ref a'))) ∧ d = none ∧ ∃ c C b, cls = .ref C ∧ Y.Z.cls c = .ref C ∧ ErrT X.K CE CO C b ∧ ∀ p, H p = none → D.rt (.ref p) (upd H p (.tup [.int 1, .str (if b then r else o)])))
      (Wout := fun _ _ _ _ => False)
      rfl rfl Sg.nd rfl hle ⟨gev, evd, .inl mev⟩ takes0 (fun W pn xe tk _ => ?_) (fun a' oe cls d pn hz hv => ?_)), ?_⟩
  · refine ⟨fun pins s' σ H' D I h' => ?_⟩
    obtain ⟨Ech, hW', h1, h2, h3⟩ := h'
    have hp := act W pn xe Ech p3 p4 tk hW'
    have hcall := pe_call (X := (cxOf C8.CX0 X.prog X.w X.K X.mg X.base ["call", "e"] x sg g cdg X.A X.stack s H C8.E0).tr pn xe) (E := E0) (p := p2) (pos := p5) FO rr grd hm hk hb .nil passL (pa_cons hp pa_nil) rdd (by rfl) (by rfl)
    have ht := pe_tup (x1 := j) (pos := p6) (pa_cons (pe_int (i := 0) (j := ja) (pos := p1)) (pa_cons hcall pa_nil (by rfl)) (by rfl))
    refine (pss_one (ps_ret (pos := p7) ht)).run pins s' σ H' D I ?_
    exact ⟨h1, h2, h3⟩
  · refine ⟨fun pins s' σ H' D I h' => ?_⟩
    obtain ⟨⟨σ0, h1⟩, hd, c, C, b, ec, ec2, er, h2⟩ := h'
    subst ec hd
    have hlen : σ.length = 2 := I.len
    have hs1 : σ[1]? = some (some (.ref a')) := by
      rw [h1] at hlen ⊢
      rw [List.length_set] at hlen
      rw [List.getElem?_set_self (by omega)]
    have hv1 : PE (((cxOf C8.CX0 X.prog X.w X.K X.mg X.base ["call", "e"] x sg g cdg X.A X.stack s H C8.E0).nox).suite a' ((a', oe) :: pn)) (.Name "e" q2) (tVar 1) := pe_var rfl (.inl hle) (by decide) (by decide)
    have hv2 : PE (((cxOf C8.CX0 X.prog X.w X.K X.mg X.base ["call", "e"] x sg g cdg X.A X.stack s H C8.E0).nox).suite a' ((a', oe) :: pn)) (.Name oor q3) (tC (.ref CO)) := pe_glob goor moor rfl ood
    have hci := pe_callB (p := q1) (pos := q4) (call_isE (X := (cxOf C8.CX0 X.prog X.w X.K X.mg X.base ["call", "e"] x sg g cdg X.A X.stack s H C8.E0).nox) er.exc hz hv) gis mis (by decide +kernel) (pa_cons hv1 (pa_cons hv2 pa_nil (by rfl)) (by rfl)) (by decide) (by decide) (by rfl) (by rfl)
    have hif := pe_ifExp (pos := q7) (pt_truth hci (fun _ => rfl)) (pe_str (x := r) (j := jc) (pos := q5)) (pe_str (x := o) (j := jd) (pos := q6))
    have ht := pe_tup (x1 := k) (pos := q8) (pa_cons (pe_int (i := 1) (j := jb) (pos := p9)) (pa_cons hif pa_nil (by rfl)) (by rfl))
    refine (pss_one (ps_ret (pos := q9) ht)).run pins s' σ H' D I ?_
    refine ⟨.ref a', hs1, .ref CO, .ref CO, b, rfl, fun u hu => hu, er.oor, b, rfl, ?_⟩
    cases b with
    | true => exact ⟨by show 2 ≤ sizeLine; decide, h2⟩
    | false => exact ⟨by show 2 ≤ sizeLine; decide, h2⟩
  · refine ⟨fun cls d H' => d = none ∧ ∃ c, c < Y.T.ne ∧ cls = Y.Z.cls c ∧ ∀ x, Y.Z.ST[Y.T.word c]? = some x → ∀ p, H' p = none → Q (.ref p) (upd H' p (.tup [.int 1, .str x])), fun cls d σ' H' hx => ?_, rfl, hc, h⟩
    obtain ⟨hd, c, hcn, ec, hq⟩ := hx
    obtain ⟨C, b, e1, er, ew⟩ := errs c hcn
    rw [e1] at ec
    subst ec hd
    rw [← hK] at er
    refine ⟨true, er.ev, fun _ a' na => ⟨⟨σ', rfl⟩, rfl, c, C, b, rfl, e1, er, fun p hp => hq _ ?_ p hp⟩, fun z => by cases z⟩
    rw [ew]
    cases b with
    | true => exact str_
    | false => exact sto
/-- the code object of a def that makes lambdas, its table -/
structure LamAt (Y : Gw) (X : Cx) (c P : Addr) : Prop where
  tb : LamX.TabB Y.base Y.mg c P
  code : X.env.code = .ref c
  mem : (P, X.env.qual ++ "<lambda>") ∈ Y.Z.TT
  un : ∀ p ∈ Y.Z.TT, p.1 = P → p.2 = X.env.qual ++ "<lambda>"
theorem defs_none {params : Arguments} {env : Env} (h1 : params.defaults = []) (h2 : params.kw_defaults = []) : defaultsOf params env = ([], []) := by
  obtain ⟨_, _, _, _, kw, _, d⟩ := params
  dsimp only at h1 h2
  subst h1 h2
  rfl
theorem snd_told (hgd : Y.nm.gd = false) {m : Nat} {c : Cs} {x : Str} {cd P : Addr} {params : Arguments} {body : Expr} {scope : Scope} {fb : Ev → R O} {p lpos pos : Pos} (G : Good Y (m + 2) c E X) (K : Fok Y (m + 1)) (T : TolF Y x) (L : LamAt Y X cd P) (hg : Gl X x) (hx : odd x = false) (ls : LamX.LamS X.env.scope scope)
    (hd1 : params.defaults = []) (hd2 : params.kw_defaults = []) (hbind : ∀ (q : Str) (cl : List (Str × Addr)) (pm cv ctv : Value), bindArgs (PySem.W.kla_fn "<lambda>" q params body scope cl pm cv ctv) ⟨[], []⟩ = pure [])
    (hbody : ∀ (A : Around) (outer : List Env) (s : Shared) (H : Hp) (E : XK) (f c' : Addr), Room m (A.deeper (LamX.lamEnv X scope s.heap.objs.size f c')) → PE (LamX.lamCx X A outer s H E scope f c') body (LE Y.Z E fb)) :
    PE X (.Call (.Name x p) [.Lambda params body scope lpos] [] pos) (LE Y.Z E fun ρ => toldS Y.T Y.C m (fb ρ)) := by
  obtain ⟨g, pg, bg, sg, dV, kV, doc, pm, cdv, ct, oc, an, od, osl, rd, ev, oor, r, o, CE, CO, j, k, ja, jb, jc, jd, p1, p2, p3, p4, p5, p6, p7, p8, p9, q1, q2, q3, q4, q5, q6, q7, q8, q9, q10, q11, kr, ko, hm, hk, lk, hcd, hb, Sg, hle, grd, gev, goor, gis, ebg, hf, ord, oev, ooor, mev, moor, mis, str_, sto, har, errs⟩ := T.ex
  subst ebg
  have xdd := (odd_no hx).1
  have hG := told_gives (Y := Y) (m := m) (q := X.env.qual ++ "<lambda>") (x := x) (g := g) (cdg := cdv) (j := j) (k := k) (ja := ja) (jb := jb) (jc := jc) (jd := jd) (p1 := p1) (p2 := p2) (p3 := p3) (p4 := p4) (p5 := p5) (p6 := p6) (p7 := p7) (p8 := p8) (p9 := p9) (q1 := q1) (q2 := q2) (q3 := q3) (q4 := q4) (q5 := q5) (q6 := q6) (q7 := q7) (q8 := q8) (q9 := q9) (q10 := q10) (q11 := q11) hgd G.prog G.w G.K G.mg G.base K G.room Sg hle grd gev goor gis hf ord oev ooor mev moor mis str_ sto errs
  have tb := L.tb
  rw [← G.mg] at hm
  rw [← G.K] at hk lk hcd hb
  rw [← G.base, ← G.mg] at tb
  refine peImp (LamX.pe_lamcall (X := X) (t := fun E => LE Y.Z E fb) hg hm hk lk hcd hb Sg rfl ((Sg.par "call" List.mem_cons_self).elim .inl fun z => .inr (.inl z)) hG tb L.code L.mem L.un G.room ls (defs_none hd1 hd2) hbind hbody xdd (by decide) (by decide)) fun σ H Q ⟨F0, H0, ρ0, F, ρ, p, post⟩ => ?_
  refine ⟨p.st.tabs, fun H1 eN T1 => ?_⟩
  have ep := ext_path p.st eN T1
  have p1 := p.trans ep
  refine here p1.st ?_
  cases e : fb ρ with
  | stuck => simp only [e, toldS] at post; exact post.elim
  | exc c ρ1 =>
    simp only [e, toldS] at post
    intro F2 H2 q2
    by_cases hc : c < Y.T.ne
    · rw [decide_eq_true hc, R.grd_true] at post
      refine ⟨rfl, c, hc, rfl, fun x hx p' hp => ?_⟩
      exact fin_new (p1.trans q2) post (new_tup hp (.cons (by simp only [Rp]) (.cons (by simp only [Rp]; exact ⟨x, hx, rfl⟩) .nil)))
    · rw [decide_eq_false hc, R.grd_false] at post
      exact post.elim
  | ok o1 ρ1 =>
    simp only [e, toldS] at post
    intro v F2 H2 q2 r2
    refine call_sp (p1.trans q2) (os := [o1]) (vs := [v]) (H0 := H0) ⟨v, [], rfl, r2.1, r2.2.back p1, fun _ _ _ => trivial, rfl⟩ (by rw [har]; rfl) ?_
    cases ec : callF Y.C (m + 1) Y.T.read [o1] ρ1 with
    | stuck => simp only [ec, R.calm, R.bind_stuck] at post; exact post.elim
    | exc c ρ2 => simp only [ec, R.calm, R.bind_stuck] at post; exact post.elim
    | ok r ρ2 =>
      simp only [ec, R.calm, R.bind_ok] at post
      intro w F3 H3 q3 r3
      refine ⟨by show 2 ≤ sizeLine; decide, fun p' hp => ?_⟩
      cases ek : keep ρ2 r with
      | none => rw [ek] at post; exact post.elim
      | some kp =>
        obtain ⟨d, ρ3⟩ := kp
        rw [ek] at post
        obtain ⟨F4, p4, rd4, _⟩ := keep_ok q3 r3.1 r3.2 ek
        exact fin_new p4 post (new_tup hp (.cons (by simp only [Rp]) (.cons rd4 .nil)))
end
end Ev
/-! Ev14: which text an expression is; that the evaluator tells of it. -/
namespace Ev
open PySem PySem.Spec PyProof.Rows L2
/-! ### contexts -/
structure Gk (Y : Gw) : Prop where
  ok : Gok Y
  ar : ∀ f, Y.ar f = Y.nm.ars.getD f 0
  exc : ∀ (c : Nat) (x : Str), Y.nm.exs[c]? = some x → ∃ C, Exc Y c x C
  tol : ∀ x, Y.nm.told = some x → TolF Y x
  fa : ∀ f, Y.Z.f1 f = true → ∃ x, Y.nm.fns[f]? = some x ∧ Y.ar f = 1 ∧ Y.mg x = some (.ref (Y.Z.fa f))
  f1 : ∀ f x, Y.nm.fns[f]? = some x → Y.nm.ars.getD f 0 = 1 → Y.Z.f1 f = true
structure Gd (Y : Gw) (n : Nat) (c : Cs) (E : XK) (X : Cx) : Prop where
  g : Good Y n c E X
  cel : ∀ x, (c.sc.names.lookup x = some .cell ∨ c.sc.names.lookup x = some .free) → (X.env.scope.names.lookup x = some .cell ∨ X.env.scope.names.lookup x = some .free)
  lam : c.lam = true → ∃ cd P, LamAt Y X cd P
section
variable {Y : Gw} {n : Nat} {c : Cs} {E : XK} {X : Cx}
theorem vis_of {c : Cs} {x : Str} (h : visB c x = true) : c.sc.names.lookup x = some .local ∨ c.sc.names.lookup x = some .cell ∨ c.sc.names.lookup x = some .free := by
  unfold visB at h
  split at h
  · rename_i e; exact .inl e
  · rename_i e; exact .inr (.inl e)
  · rename_i e; exact .inr (.inr e)
  · cases h
theorem loc_of {c : Cs} {x : Str} (h : locB c x = true) : c.sc.names.lookup x = some .local ∨ c.sc.names.lookup x = some .cell := by
  unfold locB at h
  split at h
  · rename_i e; exact .inl e
  · rename_i e; exact .inr e
  · cases h
theorem gl_of {c : Cs} {x : Str} (h : glB c x = true) : c.sc.names.lookup x = some .globalImplicit := by
  unfold glB at h
  split at h
  · rename_i e; exact e
  · cases h
theorem free_relS {sc : Scope} : ∀ {names : List (Str × NameKind)} {x : Str}, names.lookup x = some .free →
    (names.map fun (n, k) => if (k == NameKind.free && sc.kind == .function && sc.names.lookup n == some .cell) then (n, NameKind.cell) else (n, k)).lookup x = some .free ∨
    (names.map fun (n, k) => if (k == NameKind.free && sc.kind == .function && sc.names.lookup n == some .cell) then (n, NameKind.cell) else (n, k)).lookup x = some .cell
  | [], _, h => by simp at h
  | (m, k₀) :: r, x, h => by
    have ih := @free_relS sc r x
    show List.lookup x ((if (k₀ == NameKind.free && sc.kind == .function && sc.names.lookup m == some .cell) = true then (m, NameKind.cell) else (m, k₀)) :: (r.map _)) = some .free ∨
      List.lookup x ((if (k₀ == NameKind.free && sc.kind == .function && sc.names.lookup m == some .cell) = true then (m, NameKind.cell) else (m, k₀)) :: (r.map _)) = some .cell
    cases hx : x == m with
    | true =>
      simp only [List.lookup_cons, hx] at h
      cases h
      split
      · exact .inr (by simp only [List.lookup_cons, hx])
      · exact .inl (by simp only [List.lookup_cons, hx])
    | false =>
      simp only [List.lookup_cons, hx] at h
      split
      · simp only [List.lookup_cons, hx]; exact ih h
      · simp only [List.lookup_cons, hx]; exact ih h
/-- the context of a comprehension's block -/
theorem Gd.blk {scope : Scope} (G : Gd Y n c E X) (s : Shared) (H : Hp) (C : Addr) (cl : List (Str × Addr)) (fp : List Addr) : Gd Y n ⟨c.N, scope, c.lam⟩ E0 (X.blk s H scope (compEnvC scope cl C X.env) fp) := by
  have sc : (X.blk s H scope (compEnvC scope cl C X.env) fp).env.scope = relS scope X.env.scope := rfl
  have keep : ∀ {x : Str} {k : NameKind}, k ≠ .free → scope.names.lookup x = some k → (relS scope X.env.scope).names.lookup x = some k := fun hk h => lookup_relS_keep hk h
  refine ⟨⟨G.g.prog, G.g.w, G.g.K, G.g.mg, G.g.base, G.g.N, G.g.nd, fun x h => ?_, fun x h => ?_, fun x h => ?_, G.g.calm, G.g.room, passL, G.g.gd⟩, fun x h => ?_, fun h => ?_⟩
  · rcases vis_of h with h | h | h
    · exact .inl (keep (by decide) h)
    · exact .inr (.inl (keep (by decide) h))
    · rcases free_relS (sc := X.env.scope) h with z | z
      · exact .inr (.inr z)
      · exact .inr (.inl z)
  · rcases loc_of h with h | h
    · exact ⟨.inl (keep (by decide) h), .inr (keep (by decide) h)⟩
    · refine ⟨.inr (keep (by decide) h), .inl ?_⟩
      show (scope.names.lookup x == some NameKind.cell) = true
      rw [show scope.names.lookup x = _ from h]
      rfl
  · exact keep (by decide) (gl_of h)
  · rcases h with h | h
    · exact .inl (keep (by decide) h)
    · rcases free_relS (sc := X.env.scope) h with z | z
      · exact .inr z
      · exact .inl z
  · obtain ⟨cd, P, L⟩ := G.lam h
    exact ⟨cd, P, L.tb, L.code, L.mem, L.un⟩
theorem Gd.blkOk {scope : Scope} {own : List (Str × Nat)} (G : Gd Y n c E X) (h : BlkOk c.N c.sc scope own) : BlkOk X.N X.env.scope scope own :=
  ⟨h.kind, h.uniq, by rw [G.g.N]; exact h.ix, fun y hy e => G.cel _ (h.free y hy e), by rw [G.g.N]; exact h.own⟩
/-- the context of a lambda's body -/
theorem Gd.lamb (hgd : Y.nm.gd = false) {m : Nat} {scope : Scope} (G : Gd Y (m + 2) c E X) (ls : LamX.LamS X.env.scope scope) (A : Around) (outer : List Env) (s : Shared) (H : Hp) (E' : XK) (f c' : Addr) (hr : Room m (A.deeper (LamX.lamEnv X scope s.heap.objs.size f c'))) :
    Gd Y m ⟨c.N, scope, false⟩ E' (LamX.lamCx X A outer s H E' scope f c') := by
  refine ⟨⟨G.g.prog, G.g.w, G.g.K, G.g.mg, G.g.base, G.g.N, G.g.nd, fun x h => vis_of h, fun x h => ?_, fun x h => gl_of h, rfl, hr, ?_, fun z => by rw [hgd] at z; cases z⟩, fun x h => h, fun h => by cases h⟩
  · rcases loc_of h with h | h
    · exact absurd rfl (ls.own _ (PySem.mem_of_lookup h)).1
    · exact absurd rfl (ls.own _ (PySem.mem_of_lookup h)).2
  · exact passes_call (takes_of (X := LamX.lamCx X A outer s H E' scope f c') (E := E') rfl rfl rfl rfl) fun _ _ _ _ h => h
theorem Gd.lamS {scope : Scope} (G : Gd Y n c E X) (ls : LamX.LamS c.sc scope) : LamX.LamS X.env.scope scope := ⟨ls.kind, ls.co, ls.gen, ls.own, fun y hy e => G.cel _ (ls.free y hy e)⟩
end
/-! ### small rules -/
section
variable {n : Nat} {E : XK} {X : Cx} {Z : Wo}
theorem peStuck {e : Expr} : PE X e (LE Z E fun _ => .stuck) := ⟨fun _ _ _ _ _ _ ⟨_, _, _, _, _, _, post⟩ => post.elim⟩
theorem snd_neg {a : Expr} {pos : Pos} {f : Ev → R O} (h : PE X a (LE Z E f)) : PE X (.UnaryOp .USub a pos) (LE Z E fun ρ => (f ρ).bind fun x ρ1 => R.opt (optInt x) fun i => .ok (.d (.int (-i))) ρ1) := by
  refine peImp (pe_un un_neg h) fun σ H Q q => one q fun a ρ1 x F1 H1 F0 H0 ρ0 p o fr post => ?_
  unfold optInt at post
  split at post
  · rename_i i
    exact ⟨i, Rp.inv_int o.dp, here_d p post (by simp only [Rp])⟩
  · exact post.elim
/-- a clause's tests, one after the other -/
theorem tests_no {env : Env} : ∀ {cs : List Expr}, (forIn cs false fun c r => if r = true then do let ok ← isTrue c env (eval c env); pure (ForInStep.yield ok) else pure (ForInStep.yield r) : Sem Bool) = pure false
  | [] => by rw [List.forIn_nil]
  | c :: cs => by
    rw [List.forIn_cons, if_neg Bool.false_ne_true, pure_bind]
    exact tests_no
theorem snd_tests {c : Expr} {cs : List Expr} {f g : Ev → R Bool} (h : PT X c (LT Z E f)) (t : PTs X cs (LT Z E g)) : PTs X (c :: cs) (LT Z E fun ρ => ifB (f ρ) g fun ρ1 => .ok false ρ1) := by
  refine ⟨fun pins s σ H Q I ⟨F0, H0, ρ0, F, ρ, p, post⟩ => ?_⟩
  rw [List.forIn_cons, if_pos rfl]
  refine wpAny_bind (wpAny_bind (thn (h.run pins s σ H _ I (run p post fun b ρ1 b' F1 H1 _ p1 r post => (show (if b' = true then LT Z E g σ H1 Q else Q false H1) from ?_))) fun b s1 ⟨H1, I1, q1⟩ => wpAny_pure ?_))
  · obtain rfl : b' = b := r
    cases b' with
    | true =>
      simp only [if_true] at post ⊢
      exact ⟨F0, H0, ρ0, F1, ρ1, p1, post⟩
    | false =>
      simp only [Bool.false_eq_true, if_false] at post ⊢
      exact fin_t p1 post
  · cases b with
    | true =>
      simp only [if_true] at q1
      exact t.run pins s1 σ H1 Q I1 q1
    | false =>
      simp only [Bool.false_eq_true, if_false] at q1
      show wpAny _ _ (forIn cs false _) _ _ _
      rw [tests_no]
      exact wpAny_pure ⟨H1, I1, q1⟩
theorem snd_tests0 : PTs X [] (LT Z E fun ρ => .ok true ρ) := ⟨fun pins s σ H Q I ⟨F0, H0, ρ0, F, ρ, p, post⟩ => pts_nil.run pins s σ H Q I (fin_t p post)⟩
theorem noSet {e : Expr} {env : Env} (h : (match e with | .Set _ _ _ => false | _ => true) = true) : ∀ x, foldedSetIterable e env x = pure x := by
  intro x
  cases e <;> first | rfl | (cases h)
end
end Ev
/-! Ev77: defs as values: one of some, called by a slot. -/
namespace Ev
open PySem PySem.Spec PyProof.Rows L2
section
variable {n : Nat} {E : XK} {X : Cx} {Z : Wo} {σ : L2.St} {F : Fz} {H H0 : Hp} {ρ : Ev} {α β γ δ : Type}
theorem pa_refs : ∀ {fs : List Nat} {xs : List Expr}, xs.length = fs.length → (∀ (i : Nat) (x : Expr) (f : Nat), xs[i]? = some x → fs[i]? = some f → PE X x (tC (.ref (Z.fa f))) ∧ isStar x = false) →
    PA X xs (fun σ H Q => Q (fs.map fun f => V.ref (Z.fa f)) H)
  | [], xs, hl, h => by
    have : xs = [] := List.length_eq_zero_iff.mp hl
    subst this
    exact paImp pa_nil fun σ H Q q => q
  | f :: fs, xs, hl, h => by
    cases xs with
    | nil => cases hl
    | cons x xs =>
      obtain ⟨h1, h2⟩ := h 0 x f rfl rfl
      have t := pa_refs (fs := fs) (xs := xs) (by simpa using hl) fun i x f e1 e2 => h (i + 1) x f (by simpa using e1) (by simpa using e2)
      exact paImp (pa_cons h1 t (star_cons h2)) fun σ H Q q => q
theorem snd_fns {fs : List Nat} {xs : List Expr} {b : Expr} {g : Ev → R O} {lp pos : Pos} (hK : X.K = Z.K) (pa : PA X xs (fun σ H Q => Q (fs.map fun f => V.ref (Z.fa f)) H)) (hb : PE X b (LE Z E g)) (hs : isSlice b = false) (hl : fs.length ≤ 1000) (hf : ∀ f ∈ fs, Z.f1 f = true) :
    PE X (.Subscript (.List xs lp) b pos) (LE Z E fun ρ => (g ρ).bind fun y ρ1 => fnS fs y ρ1) := by
  refine peImp (pe_ix ix_list (pe_lst pa) hb (plain_ix hs)) fun σ H Q ⟨F0, H0, ρ0, F, ρ, p, post⟩ => ?_
  show List.length (fs.map fun f => V.ref (Z.fa f)) ≤ sizeLine ∧ ∀ q, H q = none → _
  refine ⟨by rw [List.length_map, sizeLine_eq]; omega, fun q hq => ?_⟩
  have sm : Same H (upd H q (.lst (fs.map fun f => V.ref (Z.fa f)))) := fun b o e => by
    rw [upd_ne (fun z => by rw [z, hq] at e; cases e)]; exact e
  have p' := p.same sm
  have nO : ¬ Own σ ρ q := fun z => by
    rcases (p.st.kind z).1 with ⟨_, y⟩ | ⟨_, y⟩ | ⟨_, y⟩ <;> · rw [hq] at y; cases y
  refine run p' post fun y ρ2 v F2 H2 p1 p2 r post => ?_
  have eq : H2 q = some (.lst (fs.map fun f => V.ref (Z.fa f))) := p1.sp.keep q _ upd_same nO (fun _ z => by cases z)
  unfold fnS at post
  split at post
  · rename_i k
    split at post
    · rename_i hk
      cases e : fs[k.toNat]? with
      | none => rw [e] at post; exact post.elim
      | some f =>
        rw [e] at post
        have ro : Rp Z F2 H2 (.int k) v := r.1
        have ev : v = .int k := Rp.inv_int ro
        refine ⟨q, _, k, .ref (Z.fa f), rfl, ev, SqL.of eq, ?_, post _ F2 H2 p2 ⟨⟨hf f (List.mem_of_getElem? e), rfl⟩, fun z => by cases z⟩⟩
        unfold atI ixN
        rw [List.length_map, if_pos hk.1, if_pos hk.2]
        show (fs.map _)[k.toNat]? = _
        rw [List.getElem?_map, e]
        rfl
    · exact post.elim
  · exact post.elim
end
section
variable {n : Nat} {E : XK} {X : Cx} {Y : Gw} {σ : L2.St} {H : Hp}
/-- x(..), x a slot's name -/
theorem snd_callv (hgd : Y.nm.gd = false) {c : Cs} {i : Nat} {x : Str} {e : Expr} {es : List Expr} {g : Ev → R (List O)} {p pos : Pos} (Yk : Gk Y) (G : Good Y n c E X) (K : Fok Y n) (hN : X.N[i]? = some x) (hv : Vis X.env.scope x) (hd : (x == ("__debug__" : Str)) = false) (hd2 : (x == ("__classdict__" : Str)) = false)
    (ha : PA X (e :: es) (LA Y.Z E g)) (hs : (e :: es).all (fun e => !isStar e) = true) (har : ∀ ρ os ρ1, g ρ = .ok os ρ1 → os.length = 1) : PE X (.Call (.Name x p) (e :: es) [] pos) (LE Y.Z E fun ρ => callvS Y.C n i ρ (g ρ)) := by
  have h1 : isStar e = false ∧ es.all (fun e => !isStar e) = true := by
    simpa only [List.all_cons, Bool.and_eq_true, Bool.not_eq_true'] using hs
  refine ⟨fun pins s σ H Q I ⟨F0, H0, ρ0, F, ρ, p, post⟩ => ?_⟩
  have post : PostG Y.Z E (relE Y.Z) σ F0 H0 ρ0 (callvS Y.C n i ρ (g ρ)) Q := post
  unfold callvS at post
  split at post
  · rename_i f ef
    obtain ⟨v, e1, r1, rfl⟩ := p.st.rep i _ ef
    obtain ⟨x', hf, har1, hmf⟩ := Yk.fa f r1
    obtain ⟨a, fd, ps, hm, hk, hb, FO⟩ := K.fn f x' hf
    have ea : a = Y.Z.fa f := by
      rw [hmf] at hm
      injection (Option.some.inj hm) with e
      exact e.symm
    subst ea
    have FO := (FO n (Nat.le_refl _)).ok hgd
    rw [← G.prog, ← G.w, ← G.K, ← G.mg, ← G.base] at FO
    rw [← G.K] at hk hb
    refine (pe_callL FO G.room hN hv hk hb .nil G.pass ha hd hd2 (star_cons h1.1) (star_none h1.2)).run pins s σ H Q I ⟨e1, ?_⟩
    refine runE p post fun os ρ1 vs F1 H1 eg p1 p01 r post => ?_
    rw [List.append_nil]
    exact call_sp p01 (OutL.back p r) (by rw [← OutL.len r, har ρ os ρ1 eg, har1]) post
  · exact post.elim
end
end Ev
/-! Ev15: the look at expressions; its soundness. -/
namespace Ev
open PySem PySem.Spec PyProof.Rows L2
/-- a test's text is no conditional expression -/
def okT : Expr → Bool
  | .IfExp _ _ _ _ => false
  | _ => true
def noSetB : Expr → Bool
  | .Set _ _ _ => false
  | _ => true
def noPar (a : Arguments) : Bool := match a with
  | ⟨[], [], none, [], [], none, []⟩ => true
  | _ => false
def isAnd : PySem.BoolOp → Bool
  | .And => true
  | .Or => false
/-- how many the built-in takes -/
def bltA (b : Blt) (k : Nat) : Bool := match b with
  | .max2 => k == 2
  | .min2 => k == 2
  | .min3 => false
  | .sortedSet => false
  | _ => k == 1
def isSS : Blt → Bool
  | .sortedSet => true
  | _ => false
def Pos.same (a b : Pos) : Bool := a.endLine == b.line
def ownP (c : Cs) (own : List Nat) : List (Str × Nat) := own.map fun i => (c.N.getD i ⟨#[]⟩, i)
mutual
def chkTg (c : Cs) : Tg → Expr → Bool
  | .nm i, x => match x with
    | .Name y _ => stoB c i y
    | _ => false
  | .tp ts, x => match x with
    | .Tuple xs _ _ => chkTgs c ts xs
    | _ => false
def chkTgs (c : Cs) : List Tg → List Expr → Bool
  | [], xs => xs.isEmpty
  | t :: ts, xs => match xs with
    | [] => false
    | x :: xs => chkTg c t x && chkTgs c ts xs
end
def isTp : Expr → Bool
  | .Tuple _ _ _ => true
  | _ => false
def isOp (a b : CmpOp) : Bool := decide (a = b)
/-- a built-in's name, called -/
def bName (c : Cs) (x y : Str) : Bool := decide (x = y) && glB c y
/-- what is walked: a value; range(..); enumerate(..), zip(.., ..) with a tuple as target -/
def chkIt (k : Ik) (c : Cs) (t x : Expr) (L : List Expr → Bool) : Bool := match k with
  | .seq => noSetB x && L [x]
  | .rng => (match x with
    | .Call (.Name y _) xs [] _ => bName c "range" y && (decide (1 ≤ xs.length) && decide (xs.length ≤ 2)) && L xs
    | _ => false)
  | .enum => (match x with
    | .Call (.Name y _) xs [] _ => bName c "enumerate" y && decide (xs.length = 1) && isTp t && L xs
    | _ => false)
  | .zip => (match x with
    | .Call (.Name y _) xs [] _ => bName c "zip" y && decide (xs.length = 2) && isTp t && L xs
    | _ => false)
/-- names of defs that take one thing -/
def chkFs (nm : Nm) (c : Cs) : List Nat → List Expr → Bool
  | [], xs => xs.isEmpty
  | f :: fs, xs => match xs with
    | [] => false
    | x :: xs => (match x with
      | .Name y _ => nth nm.fns f y && (glB c y && !odd y) && decide (nm.ars.getD f 0 = 1)
      | _ => false) && chkFs nm c fs xs
mutual
def chkE (nm : Nm) : E → Cs → Expr → Bool
  | .non, _, x => match x with
    | .Constant k _ _ => (match k with | .none => true | _ => false)
    | _ => false
  | .bl b, _, x => match x with
    | .Constant k _ _ => (match k with | .bool b' => b == b' | _ => false)
    | _ => false
  | .int i, _, x => match x with
    | .Constant k _ _ => (match k with | .int j => decide (i = j) | _ => false)
    | _ => false
  | .str n, _, x => match x with
    | .Constant k _ _ => (match k with | .str y => nth nm.txt n y | _ => false)
    | _ => false
  | .abs, _, _ => false
  | .var i, c, x => match x with
    | .Name y _ => varB c i y
    | _ => false
  | .con k, c, x => match x with
    | .Name y _ => nth nm.cons k y && (glB c y && !odd y)
    | _ => false
  | .bin op a b, c, x => match x with
    | .BinOp l o r _ => decide (o = bopOf op) && (chkE nm a c l && chkE nm b c r)
    | _ => false
  | .neg a, c, x => match x with
    | .UnaryOp o y _ => (match o with | .USub => chkE nm a c y | _ => false)
    | _ => false
  | .andL es, c, x => match x with
    | .BoolOp o xs _ => isAnd o && (chkL nm es c xs && xs.all okT)
    | _ => false
  | .orL es, c, x => match x with
    | .BoolOp o xs _ => !isAnd o && (chkL nm es c xs && xs.all okT)
    | _ => false
  | .not_ a, c, x => match x with
    | .UnaryOp o y _ => (match o with | .Not => chkE nm a c y && okT y | _ => false)
    | _ => false
  | .cmp op a b, c, x => match x with
    | .Compare l os rs _ => (match os, rs with | [o], [r] => isOp o (copOf op) && (noSetB r && (chkE nm a c l && chkE nm b c r)) | _, _ => false)
    | _ => false
  | .chain o1 o2 a b d, c, x => match x with
    | .Compare l os rs _ => (match os, rs with | [p, q], [r, t] => isOp p (copOf o1) && isOp q (copOf o2) && (noSetB r && noSetB t && (chkE nm a c l && (chkE nm b c r && chkE nm d c t))) | _, _ => false)
    | _ => false
  | .ite t a b, c, x => match x with
    | .IfExp y l r _ => okT y && (chkE nm t c y && (chkE nm a c l && chkE nm b c r))
    | _ => false
  | .tup es, c, x => match x with
    | .Tuple xs _ _ => decide (es.length ≤ 1000) && chkL nm es c xs
    | _ => false
  | .lst es, c, x => match x with
    | .List xs _ => decide (es.length ≤ 1000) && chkL nm es c xs
    | _ => false
  | .dnew t, _, x => match x with
    | .Dict ks vs _ => !t && (ks.isEmpty && vs.isEmpty)
    | _ => false
  | .ix a i, c, x => match x with
    | .Subscript y k _ => !isSlice k && (chkE nm a c y && chkE nm i c k)
    | _ => false
  | .sl a lo hi, c, x => match x with
    | .Subscript y k _ => (match k with
      | .Slice l h none _ => chkE nm a c y && ((match l with | none => isAbs lo | some l => !isAbs lo && chkE nm lo c l) && (match h with | none => isAbs hi | some h => !isAbs hi && chkE nm hi c h))
      | _ => false)
    | _ => false
  | .rev _, _, _ => false
  | .req ne a b, c, x => match x with
    | .Compare l os rs _ => (match l, os, rs with
      | .Call (.Name y _) [p] [] _, [o], [.Call (.Name z _) [q] [] _] => nm.gd && (isOp o (if ne then .NotEq else .Eq) && (bName c "repr" y && (bName c "repr" z && (!isStar p && (!isStar q && (chkE nm a c p && chkE nm b c q))))))
      | _, _, _ => false)
    | _ => false
  | .call f es, c, x => match x with
    | .Call g xs kws _ => (match g, kws with
      | .Name y _, [] => nth nm.fns f y && (glB c y && !odd y) && (decide (es.length = nm.ars.getD f 0) && !es.isEmpty) && chkL nm es c xs
      | _, _ => false)
    | _ => false
  | .blt b es, c, x => match x with
    | .Call g xs kws _ => (match g, kws with
      | .Name y _, [] => if isSS b = true then bName c "sorted" y && (match xs with
          | [.Call (.Name z _) us [] _] => bName c "set" z && decide (es.length = 1) && chkL nm es c us
          | _ => false)
        else bName c (bltS b) y && bltA b es.length && chkL nm es c xs
      | _, _ => false)
    | _ => false
  | .isi a t, c, x => match x with
    | .Call g xs kws _ => (match g, xs, kws with
      | .Name y _, [u, .Name z _], [] => bName c "isinstance" y && bName c (tyS t) z && !isStar u && chkE nm a c u
      | _, _, _ => false)
    | _ => false
  | .app i e, c, x => match x with
    | .Call g xs kws cpos => (match g, xs, kws with
      | .Attribute (.Name y _) at_ apos, [u], [] => decide (at_ = "append") && varB c i y && (apos.endLine == cpos.line) && !isStar u && chkE nm e c u
      | _, _, _ => false)
    | _ => false
  | .pop i, c, x => match x with
    | .Call g xs kws cpos => (match g, xs, kws with
      | .Attribute (.Name y _) at_ apos, [], [] => decide (at_ = "pop") && varB c i y && (apos.endLine == cpos.line)
      | _, _, _ => false)
    | _ => false
  | .get2 i k e, c, x => match x with
    | .Call g xs kws cpos => (match g, xs, kws with
      | .Attribute (.Name y _) at_ apos, [u, w], [] => decide (at_ = "get") && varB c i y && (apos.endLine == cpos.line) && !isStar u && !isStar w && chkE nm k c u && chkE nm e c w
      | _, _, _ => false)
    | _ => false
  | .cnt i e, c, x => match x with
    | .Call g xs kws cpos => (match g, xs, kws with
      | .Attribute (.Name y _) at_ apos, [u], [] => decide (at_ = "count") && varB c i y && (apos.endLine == cpos.line) && !isStar u && chkE nm e c u
      | _, _, _ => false)
    | _ => false
  | .frz i, c, x => match x with
    | .Name y _ => varB c i y
    | _ => false
  | .sdef _ _ _, _, _ => false
  | .comp elt tg k es ifs own, c, x => match x with
    | .ListComp y gs sc _ => (match gs with
      | [⟨t, it, fs, 0⟩] => chkE nm elt ⟨c.N, sc, c.lam⟩ y && chkTg ⟨c.N, sc, c.lam⟩ tg t && chkIt k c t it (fun xs => chkL nm es c xs) && chkTs nm ifs ⟨c.N, sc, c.lam⟩ fs && blkC c.N c.sc sc (ownP c own) && (slots tg).all (fun i => own.contains i)
      | _ => false)
    | _ => false
  | .comp2 elt t1 k1 e1 t2 k2 e2 ifs own, c, x => match x with
    | .ListComp y gs sc _ => (match gs with
      | [⟨t, it, [], 0⟩, ⟨t', it', fs, 0⟩] => chkE nm elt ⟨c.N, sc, c.lam⟩ y && chkTg ⟨c.N, sc, c.lam⟩ t1 t && chkIt k1 c t it (fun xs => chkL nm e1 c xs) && chkTg ⟨c.N, sc, c.lam⟩ t2 t' && chkIt k2 ⟨c.N, sc, c.lam⟩ t' it' (fun xs => chkL nm e2 ⟨c.N, sc, c.lam⟩ xs) && chkTs nm ifs ⟨c.N, sc, c.lam⟩ fs && blkC c.N c.sc sc (ownP c own) && (slots t1).all (fun i => own.contains i) && (slots t2).all (fun i => own.contains i)
      | _ => false)
    | _ => false
  | .dcomp _ key val tg k es ifs own, c, x => match x with
    | .DictComp y z gs sc _ => (match gs with
      | [⟨t, it, fs, 0⟩] => chkE nm key ⟨c.N, sc, c.lam⟩ y && chkE nm val ⟨c.N, sc, c.lam⟩ z && chkTg ⟨c.N, sc, c.lam⟩ tg t && chkIt k c t it (fun xs => chkL nm es c xs) && chkTs nm ifs ⟨c.N, sc, c.lam⟩ fs && blkC c.N c.sc sc (ownP c own) && (slots tg).all (fun i => own.contains i)
      | _ => false)
    | _ => false
  | .dcomp2 key val t1 k1 e1 t2 k2 e2 ifs own, c, x => match x with
    | .DictComp y z gs sc _ => (match gs with
      | [⟨t, it, [], 0⟩, ⟨t', it', fs, 0⟩] => chkE nm key ⟨c.N, sc, c.lam⟩ y && chkE nm val ⟨c.N, sc, c.lam⟩ z && chkTg ⟨c.N, sc, c.lam⟩ t1 t && chkIt k1 c t it (fun xs => chkL nm e1 c xs) && chkTg ⟨c.N, sc, c.lam⟩ t2 t' && chkIt k2 ⟨c.N, sc, c.lam⟩ t' it' (fun xs => chkL nm e2 ⟨c.N, sc, c.lam⟩ xs) && chkTs nm ifs ⟨c.N, sc, c.lam⟩ fs && blkC c.N c.sc sc (ownP c own) && (slots t1).all (fun i => own.contains i) && (slots t2).all (fun i => own.contains i)
      | _ => false)
    | _ => false
  | .told b, c, x => match x with
    | .Call g xs kws _ => (match g, xs, kws with
      | .Name y _, [.Lambda ps body sc _], [] => !nm.gd && ((match nm.told with | some z => decide (z = y) | none => false) && (glB c y && !odd y) && c.lam && LamX.lamSB c.sc sc && noPar ps && chkE nm b ⟨c.N, sc, false⟩ body)
      | _, _, _ => false)
    | _ => false
  | .fns fs a, c, x => match x with
    | .Subscript (.List xs _) k _ => !isSlice k && (decide (fs.length ≤ 1000) && (chkFs nm c fs xs && chkE nm a c k))
    | _ => false
  | .callv i es, c, x => match x with
    | .Call g xs kws _ => (match g, kws with
      | .Name y _, [] => !nm.gd && (varB c i y && decide (es.length = 1) && chkL nm es c xs)
      | _, _ => false)
    | _ => false
termination_by structural e => e
def chkL (nm : Nm) : List E → Cs → List Expr → Bool
  | [], _, xs => xs.isEmpty
  | e :: es, c, xs => match xs with
    | [] => false
    | x :: xs => !isStar x && (chkE nm e c x && chkL nm es c xs)
termination_by structural es => es
def chkTs (nm : Nm) : List E → Cs → List Expr → Bool
  | [], _, xs => xs.isEmpty
  | e :: es, c, xs => match xs with
    | [] => false
    | x :: xs => okT x && (chkE nm e c x && chkTs nm es c xs)
termination_by structural es => es
end
end Ev
/-! Ev16: soundness of the look at expressions. -/
namespace Ev
open PySem PySem.Spec PyProof.Rows L2
section
variable {Y : Gw} {n : Nat} {c : Cs} {K0 : XK} {X : Cx} {x : Expr} {f : Ev → R O}
/-- as a value, as a test -/
def Both (Y : Gw) (K0 : XK) (X : Cx) (x : Expr) (f : Ev → R O) : Prop := PE X x (LE Y.Z K0 f) ∧ (okT x = true → PT X x (LT Y.Z K0 fun ρ => asT (f ρ)))
theorem both (G : Gd Y n c K0 X) (h : PE X x (LE Y.Z K0 f)) (hp : plainT x = true) : Both Y K0 X x f := ⟨h, fun _ => snd_truth G.g.K h hp⟩
theorem nosetI {op : CmpOp} {r : Expr} (h : noSetB r = true) : behindInMarks op r = false := by
  cases r <;> first | rfl | (cases h)
theorem op_cmp (Yk : Gk Y) (G : Gd Y n c K0 X) (op : Cop) : OpR X (compareOp (copOf op)) (rNb Y.Z (cmp op)) := by
  have hK := G.g.K
  have hu := G.g.hu
  have hs := Yk.ok.st
  cases op with
  | eq => exact op_eqO hK hs (by omega)
  | ne => exact op_neO hK hs (by omega)
  | lt => exact op_ltO hK (by omega)
  | le => exact op_leO
  | gt => exact op_gtO
  | ge => exact op_geO
  | isin => exact op_inO hK hs hu
  | notin => exact op_notinO hK hs hu
  | is_ => exact op_isO
  | isnot => exact op_isnotO
theorem bName_of {z y : Str} (h : bName c z y = true) (G : Gd Y n c K0 X) (Yk : Gk Y) (hz : z ∈ bltN) : y = z ∧ Gl X z ∧ X.mg z = none := by
  unfold bName at h
  simp only [Bool.and_eq_true, decide_eq_true_eq] at h
  obtain ⟨h1, h2⟩ := h
  subst h1
  exact ⟨rfl, G.g.gl _ h2, by rw [G.g.mg]; exact Yk.ok.blt _ hz⟩
/-- targets -/
theorem sndTg (G : Gd Y n c K0 X) : ∀ {t : Tg} {x : Expr}, chkTg c t x = true → PG X x (LGt Y.Z t) ∧ isStar x = false
  | .nm i, x, h => by
    simp only [chkTg] at h
    split at h
    · rename_i y p
      unfold stoB at h
      simp only [Bool.and_eq_true, Bool.not_eq_true'] at h
      obtain ⟨h1, h2, h3⟩ := h
      obtain ⟨l1, l2⟩ := G.g.loc y h2
      exact ⟨snd_nm (pg_name (by rw [G.g.N]; exact G.g.nd) (by rw [G.g.N]; exact nth_of h1) l1 l2), rfl⟩
    · cases h
  | .tp ts, x, h => by
    simp only [chkTg] at h
    split at h
    · rename_i xs k p
      obtain ⟨h1, h2, h3⟩ := sndTgs G h
      exact ⟨snd_tp G.g.K G.g.calm h1 h2 h3, rfl⟩
    · cases h
where
  sndTgs (G : Gd Y n c K0 X) : ∀ {ts : List Tg} {xs : List Expr}, chkTgs c ts xs = true → PGs X xs (LGts Y.Z ts) ∧ (assignEach xs X.env).length = ts.length ∧ (assignEach xs X.env).findIdx? (·.1) = none
    | [], xs, h => by
      simp only [chkTgs] at h
      cases xs with
      | nil => exact ⟨snd_tnil, rfl, rfl⟩
      | cons x xs => cases h
    | t :: ts, xs, h => by
      simp only [chkTgs] at h
      cases xs with
      | nil => cases h
      | cons x xs =>
        simp only [Bool.and_eq_true] at h
        obtain ⟨h1, h2⟩ := h
        obtain ⟨a1, a2⟩ := sndTg G h1
        obtain ⟨b1, b2, b3⟩ := sndTgs G h2
        have e : assignEach (x :: xs) X.env = (false, PySem.assign x X.env) :: assignEach xs X.env := by
          cases x <;> first | rfl | (cases a2)
        refine ⟨snd_tcons a1 b1 (by rw [e]; rfl), by rw [e, List.length_cons, List.length_cons, b2], ?_⟩
        rw [e]
        simp [List.findIdx?_cons, b3]
/-- what a list of texts gives -/
structure ArgsOk (Y : Gw) (K0 : XK) (X : Cx) (xs : List Expr) (g : Ev → R (List O)) : Prop where
  pa : PA X xs (LA Y.Z K0 g)
  len : ∀ ρ os ρ1, g ρ = .ok os ρ1 → os.length = xs.length
  st : xs.all (fun e => !isStar e) = true
theorem snd_it {k : Ik} {t : Expr} {g : Ev → R (List O)} {L : List Expr → Bool} (Yk : Gk Y) (G : Gd Y n c K0 X) (h : chkIt k c t x L = true) (hL : ∀ xs, L xs = true → ArgsOk Y K0 X xs g) (h1 : ∀ x, L [x] = true → ∃ f, PE X x (LE Y.Z K0 f) ∧ g = fun ρ => (f ρ).bind fun o ρ1 => .ok [o] ρ1) :
    PI X t x (LI Y.Z K0 fun ρ => iterF k (g ρ)) ∧ noSetB x = true := by
  cases k with
  | seq =>
    simp only [chkIt, Bool.and_eq_true] at h
    obtain ⟨f, pf, rfl⟩ := h1 x h.2
    refine ⟨?_, h.1⟩
    have e : (fun ρ => (f ρ).bind fun o ρ1 => R.opt (walk .seq [rs ρ1 o]) fun xs => R.ok (xs, walked [o]) ρ1) = fun ρ => iterF .seq ((f ρ).bind fun o ρ1 => .ok [o] ρ1) := by
      funext ρ
      cases f ρ <;> rfl
    rw [← e]
    exact snd_seq G.g.K pf
  | rng =>
    simp only [chkIt] at h
    split at h
    · rename_i y p xs q
      simp only [Bool.and_eq_true, decide_eq_true_eq] at h
      obtain ⟨⟨hb, h2, h3⟩, h4⟩ := h
      obtain ⟨rfl, hg, hm⟩ := bName_of hb G Yk (by decide)
      have a := hL xs h4
      cases xs with
      | nil => simp at h2
      | cons e es => exact ⟨snd_range a.len hg hm a.pa a.st (by simpa using h3), rfl⟩
    · cases h
  | enum =>
    simp only [chkIt] at h
    split at h
    · rename_i y p xs q
      simp only [Bool.and_eq_true, decide_eq_true_eq] at h
      obtain ⟨⟨⟨hb, h2⟩, h3⟩, h4⟩ := h
      obtain ⟨rfl, hg, hm⟩ := bName_of hb G Yk (by decide)
      have a := hL xs h4
      match xs, h2 with
      | [e], _ =>
        have s := a.st
        simp only [List.all_cons, List.all_nil, Bool.and_true, Bool.not_eq_true'] at s
        cases t <;> first | exact ⟨snd_enum G.g.K a.len hg hm a.pa s, rfl⟩ | (cases h3)
    · cases h
  | zip =>
    simp only [chkIt] at h
    split at h
    · rename_i y p xs q
      simp only [Bool.and_eq_true, decide_eq_true_eq] at h
      obtain ⟨⟨⟨hb, h2⟩, h3⟩, h4⟩ := h
      obtain ⟨rfl, hg, hm⟩ := bName_of hb G Yk (by decide)
      have a := hL xs h4
      match xs, h2 with
      | [e, e2], _ =>
        have s := a.st
        simp only [List.all_cons, List.all_nil, Bool.and_true, Bool.and_eq_true, Bool.not_eq_true'] at s
        cases t <;> first | exact ⟨snd_zip G.g.K a.len hg hm a.pa s.1 s.2, rfl⟩ | (cases h3)
    · cases h
/-- built-ins -/
theorem snd_bltAll {b : Blt} {e : Expr} {es : List Expr} {g : Ev → R (List O)} {y : Str} {p pos : Pos} (Yk : Gk Y) (G : Gd Y n c K0 X) (hb : bName c (bltS b) y = true) (hA : bltA b (e :: es).length = true) (a : ArgsOk Y K0 X (e :: es) g) :
    PE X (.Call (.Name y p) (e :: es) [] pos) (LE Y.Z K0 fun ρ => (g ρ).bind fun os ρ1 => oko (blt b (os.map (rs ρ1))) ρ1) := by
  have hz : bltS b ∈ bltN := by cases b <;> decide
  obtain ⟨rfl, hg, hm⟩ := bName_of hb G Yk hz
  have hK := G.g.K
  have hc := G.g.calm
  cases b with
  | len => exact snd_blt (cr_lenO hK) hg hm (by decide +kernel) (by decide) (by decide) a.pa a.st
  | abs => exact snd_blt cr_abs hg hm (by decide +kernel) (by decide) (by decide) a.pa a.st
  | int => exact snd_bty cr_int hg hm (by decide +kernel) (by decide) (by decide) a.pa a.st
  | tuple => exact snd_bty (cr_tuple hK) hg hm (by decide +kernel) (by decide) (by decide) a.pa a.st
  | list => exact snd_bty (cr_list hK) hg hm (by decide +kernel) (by decide) (by decide) a.pa a.st
  | sum => exact snd_blt (cr_sumO2 hK hc) hg hm (by decide +kernel) (by decide) (by decide) a.pa a.st
  | max => exact snd_blt (cr_maxO hK hc) hg hm (by decide +kernel) (by decide) (by decide) a.pa a.st
  | min => exact snd_blt (cr_minO hK hc) hg hm (by decide +kernel) (by decide) (by decide) a.pa a.st
  | max2 => exact snd_blt (cr_max2 hc) hg hm (by decide +kernel) (by decide) (by decide) a.pa a.st
  | min2 => exact snd_blt (cr_min2 hc) hg hm (by decide +kernel) (by decide) (by decide) a.pa a.st
  | min3 => cases hA
  | all => exact snd_blt (cr_allO hK hc) hg hm (by decide +kernel) (by decide) (by decide) a.pa a.st
  | any => exact snd_blt (cr_anyO hK hc) hg hm (by decide +kernel) (by decide) (by decide) a.pa a.st
  | sorted => exact snd_blt (cr_sortedO hK hc) hg hm (by decide +kernel) (by decide) (by decide) a.pa a.st
  | sortedSet => cases hA
  | dict => exact snd_bty (cr_dictO hK hc) hg hm (by decide +kernel) (by decide) (by decide) a.pa a.st
/-- sorted(set(a)) -/
theorem snd_sortSet {a : Expr} {f : Ev → R O} {y z : Str} {p p2 q pos : Pos} (Yk : Gk Y) (G : Gd Y n c K0 X) (h1 : bName c "sorted" y = true) (h2 : bName c "set" z = true) (ha : PE X a (LE Y.Z K0 f)) (hs : isStar a = false) :
    PE X (.Call (.Name y p) [.Call (.Name z p2) [a] [] q] [] pos) (LE Y.Z K0 fun ρ => ((f ρ).bind fun o ρ1 => .ok [o] ρ1).bind fun os ρ1 => oko (blt .sortedSet (os.map (rs ρ1))) ρ1) := by
  obtain ⟨rfl, g1, m1⟩ := bName_of h1 G Yk (by decide)
  obtain ⟨rfl, g2, m2⟩ := bName_of h2 G Yk (by decide)
  refine peImp (pe_sortSet G.g.calm g1 m1 g2 m2 ha (star_cons hs)) fun σ H Q q => ?_
  simp only [bind_assoc, R.bind_ok] at q
  refine one q fun o ρ1 x F1 H1 F0 H0 ρ0 p oa fr post => ?_
  cases e : blt .sortedSet ([o].map (rs ρ1)) with
  | none => rw [e] at post; exact post.elim
  | some r =>
    rw [e] at post
    obtain ⟨l, ns, el, sq, er⟩ := intsF_ok (os := [rs ρ1 o]) (vs := [x]) ⟨x, [], rfl, oa.rv p.st, rfl⟩ e
    cases el
    split at er
    · rename_i hl
      cases er
      rw [G.g.K]
      exact ⟨l, ns, rfl, sq, hl, fun b hb => fin_new p post (new_lst hb (Rps.ints _))⟩
    · cases er
end
end Ev
/-! Ev17: soundness of the look at expressions, all of them. -/
namespace Ev
open PySem PySem.Spec PyProof.Rows L2
theorem isAnd_of {o : PySem.BoolOp} (h : isAnd o = true) : o = .And := by cases o <;> first | rfl | (cases h)
theorem isOr_of {o : PySem.BoolOp} (h : (!isAnd o) = true) : o = .Or := by cases o <;> first | rfl | (cases h)
theorem noPar_of {a : Arguments} (h : noPar a = true) : a = ⟨[], [], none, [], [], none, []⟩ := by
  unfold noPar at h
  split at h
  · rfl
  · cases h
theorem chkIt_ns {k : Ik} {c : Cs} {t x : Expr} {L : List Expr → Bool} (h : chkIt k c t x L = true) : noSetB x = true := by
  cases k with
  | seq =>
    simp only [chkIt, Bool.and_eq_true] at h
    exact h.1
  | rng =>
    simp only [chkIt] at h
    split at h
    · rfl
    · cases h
  | enum =>
    simp only [chkIt] at h
    split at h
    · rfl
    · cases h
  | zip =>
    simp only [chkIt] at h
    split at h
    · rfl
    · cases h
def stopOf : PySem.BoolOp → Bool
  | .And => false
  | .Or => true
theorem evAO_two {T : Top} {C : Calls} {b : Bool} {e e2 : Ev.E} {es : List Ev.E} {n : Nat} : evAO T C b (e :: e2 :: es) n = fun ρ => onB b (evE T C e n ρ) (evAO T C b (e2 :: es) n) := rfl
theorem evAO_one {T : Top} {C : Calls} {b : Bool} {e : Ev.E} {n : Nat} : evAO T C b [e] n = evE T C e n := rfl
theorem chkFs_ok {Y : Gw} {n : Nat} {c : Cs} {K0 : XK} {X : Cx} (Yk : Gk Y) (G : Gd Y n c K0 X) : ∀ {fs : List Nat} {xs : List Expr}, chkFs Y.nm c fs xs = true → xs.length = fs.length ∧
    (∀ (i : Nat) (x : Expr) (f : Nat), xs[i]? = some x → fs[i]? = some f → PE X x (tC (.ref (Y.Z.fa f))) ∧ isStar x = false) ∧ ∀ f ∈ fs, Y.Z.f1 f = true
  | [], xs, h => by
    simp only [chkFs] at h
    cases xs with
    | nil => exact ⟨rfl, fun i x f e => by simp at e, fun f e => by cases e⟩
    | cons x xs => cases h
  | f :: fs, xs, h => by
    simp only [chkFs] at h
    cases xs with
    | nil => cases h
    | cons x xs =>
      simp only [Bool.and_eq_true] at h
      obtain ⟨h1, h2⟩ := h
      obtain ⟨i1, i2, i3⟩ := chkFs_ok Yk G h2
      split at h1
      · rename_i y p
        simp only [Bool.and_eq_true, Bool.not_eq_true', decide_eq_true_eq] at h1
        obtain ⟨⟨a1, a2, a3⟩, a4⟩ := h1
        have f1 := Yk.f1 f y (nth_of a1) a4
        obtain ⟨x', e1, _, e3⟩ := Yk.fa f f1
        rw [nth_of a1] at e1
        cases e1
        have pe : PE X (.Name y p) (tC (.ref (Y.Z.fa f))) := pe_glob (G.g.gl _ a2) (by rw [G.g.mg]; exact e3) rfl (odd_no a3).1
        refine ⟨by rw [List.length_cons, List.length_cons, i1], fun i x f' ex ef => ?_, fun f' hf => ?_⟩
        · cases i with
          | zero =>
            cases (show some (Expr.Name y p) = some x from ex)
            cases (show some f = some f' from ef)
            exact ⟨pe, rfl⟩
          | succ i => exact i2 i x f' (by simpa using ex) (by simpa using ef)
        · rcases List.mem_cons.mp hf with e | hf
          · rw [e]; exact f1
          · exact i3 f' hf
      · cases h1
section
variable {Y : Gw}
/-- and, or -/
def AO (Y : Gw) (K0 : XK) (X : Cx) (op : PySem.BoolOp) (xs : List Expr) (f : Ev → R O) : Prop := ∀ pos, PE X (.BoolOp op xs pos) (LE Y.Z K0 f) ∧ PW X (.BoolOp op xs pos) (LT Y.Z K0 fun ρ => asT (f ρ))
mutual
theorem sndE (Yk : Gk Y) : ∀ {e : Ev.E} {n : Nat} {c : Cs} {K0 : XK} {X : Cx} {x : Expr}, Gd Y n c K0 X → Fok Y n → chkE Y.nm e c x = true → Both Y K0 X x (evE Y.T Y.C e n)
  | .non, n, c, K0, X, x, G, K, h => by
    simp only [chkE] at h
    split at h
    · split at h
      · exact both G (snd_const pe_non fun _ _ => by simp only [Rp]) rfl
      · cases h
    · cases h
  | .bl b, n, c, K0, X, x, G, K, h => by
    simp only [chkE] at h
    split at h
    · split at h
      · rename_i b'
        have e : b = b' := by simpa using h
        subst e
        exact both G (snd_const pe_bl fun _ _ => by simp only [Rp]) rfl
      · cases h
    · cases h
  | .int i, n, c, K0, X, x, G, K, h => by
    simp only [chkE] at h
    split at h
    · split at h
      · have e : i = _ := of_decide_eq_true h
        subst e
        exact both G (snd_const pe_int fun _ _ => by simp only [Rp]) rfl
      · cases h
    · cases h
  | .str k, n, c, K0, X, x, G, K, h => by
    simp only [chkE] at h
    split at h
    · split at h
      · have e := nth_of h
        rw [← Yk.ok.sts] at e
        exact both G (snd_const pe_str fun _ _ => by simp only [Rp]; exact ⟨_, e, rfl⟩) rfl
      · cases h
    · cases h
  | .abs, n, c, K0, X, x, G, K, h => by
    simp only [chkE] at h
    cases h
  | .var i, n, c, K0, X, x, G, K, h => by
    simp only [chkE] at h
    split at h
    · unfold varB at h
      simp only [Bool.and_eq_true, Bool.not_eq_true'] at h
      obtain ⟨h1, h2, h3⟩ := h
      obtain ⟨d1, d2, _⟩ := odd_no h3
      exact both G (snd_var (pe_var (by rw [G.g.N]; exact nth_of h1) (G.g.vis _ h2) d1 d2)) rfl
    · cases h
  | .con k, n, c, K0, X, x, G, K, h => by
    simp only [chkE] at h
    split at h
    · simp only [Bool.and_eq_true, Bool.not_eq_true'] at h
      obtain ⟨h1, h2, h3⟩ := h
      obtain ⟨d1, d2, _⟩ := odd_no h3
      obtain ⟨d, v, u, e1, e2, e3, e4⟩ := Yk.ok.con k _ (nth_of h1)
      have ee : evE Y.T Y.C (.con k) n = fun ρ => .ok (.d d) ρ := by
        funext ρ
        simp only [evE, e1, okd, R.opt_some]
      rw [ee]
      exact both G (snd_const (pe_glob (G.g.gl _ h2) (by rw [G.g.mg]; exact e2) e3 d1) e4) rfl
    · cases h
  | .bin op a b, n, c, K0, X, x, G, K, h => by
    simp only [chkE] at h
    split at h
    · simp only [Bool.and_eq_true, decide_eq_true_eq] at h
      obtain ⟨h1, h2, h3⟩ := h
      subst h1
      exact both G (snd_bin (sndE Yk G K h2).1 (sndE Yk G K h3).1 (op_bin G.g.K Yk.ok.st op)) rfl
    · cases h
  | .neg a, n, c, K0, X, x, G, K, h => by
    simp only [chkE] at h
    split at h
    · split at h
      · exact both G (snd_neg (sndE Yk G K h).1) rfl
      · cases h
    · cases h
  | .andL es, n, c, K0, X, x, G, K, h => by
    simp only [chkE] at h
    split at h
    · rename_i o xs pos
      simp only [Bool.and_eq_true] at h
      obtain ⟨h1, h2, h3⟩ := h
      rw [isAnd_of h1]
      have z := (sndAO Yk (op := .And) G K h2 h3) pos
      exact ⟨z.1, fun _ => z.2.pt⟩
    · cases h
  | .orL es, n, c, K0, X, x, G, K, h => by
    simp only [chkE] at h
    split at h
    · rename_i o xs pos
      simp only [Bool.and_eq_true] at h
      obtain ⟨h1, h2, h3⟩ := h
      rw [isOr_of h1]
      have z := (sndAO Yk (op := .Or) G K h2 h3) pos
      exact ⟨z.1, fun _ => z.2.pt⟩
    · cases h
  | .not_ a, n, c, K0, X, x, G, K, h => by
    simp only [chkE] at h
    split at h
    · split at h
      · simp only [Bool.and_eq_true] at h
        have z := sndE Yk G K h.1
        exact ⟨snd_notV G.g.K z.1, fun _ => snd_not (z.2 h.2)⟩
      · cases h
    · cases h
  | .cmp op a b, n, c, K0, X, x, G, K, h => by
    simp only [chkE] at h
    split at h
    · split at h
      · simp only [Bool.and_eq_true, isOp, decide_eq_true_eq] at h
        obtain ⟨h1, h2, h3, h4⟩ := h
        subst h1
        have za := sndE Yk G K h3
        have zb := sndE Yk G K h4
        exact ⟨snd_cmp za.1 zb.1 (op_cmp Yk G op) (nosetI h2), fun _ => snd_cmpT za.1 zb.1 (op_cmp Yk G op) (nosetI h2)⟩
      · cases h
    · cases h
  | .chain o1 o2 a b d, n, c, K0, X, x, G, K, h => by
    simp only [chkE] at h
    split at h
    · split at h
      · simp only [Bool.and_eq_true, isOp, decide_eq_true_eq] at h
        obtain ⟨⟨h1, h2⟩, ⟨h3, h4⟩, h5, h6, h7⟩ := h
        subst h1 h2
        have za := sndE Yk G K h5
        have zb := sndE Yk G K h6
        have zd := sndE Yk G K h7
        exact ⟨snd_chain (op_cmp Yk G o1) (op_cmp Yk G o2) za.1 zb.1 zd.1 (nosetI h3) (nosetI h4), fun _ => snd_chainT (op_cmp Yk G o1) (op_cmp Yk G o2) za.1 zb.1 zd.1 (nosetI h3) (nosetI h4)⟩
      · cases h
    · cases h
  | .ite t a b, n, c, K0, X, x, G, K, h => by
    simp only [chkE] at h
    split at h
    · simp only [Bool.and_eq_true] at h
      obtain ⟨h1, h2, h3, h4⟩ := h
      exact ⟨snd_ite ((sndE Yk G K h2).2 h1) (sndE Yk G K h3).1 (sndE Yk G K h4).1, fun z => by cases z⟩
    · cases h
  | .tup es, n, c, K0, X, x, G, K, h => by
    simp only [chkE] at h
    split at h
    · simp only [Bool.and_eq_true, decide_eq_true_eq] at h
      exact both G (snd_tup (sndL Yk G K h.2).pa fun ρ os ρ1 e => by rw [evL_len e]; exact h.1) rfl
    · cases h
  | .lst es, n, c, K0, X, x, G, K, h => by
    simp only [chkE] at h
    split at h
    · simp only [Bool.and_eq_true, decide_eq_true_eq] at h
      exact both G (snd_lst (sndL Yk G K h.2).pa fun ρ os ρ1 e => by rw [evL_len e]; exact h.1) rfl
    · cases h
  | .dnew t, n, c, K0, X, x, G, K, h => by
    simp only [chkE] at h
    split at h
    · rename_i ks vs pos
      simp only [Bool.and_eq_true, Bool.not_eq_true', List.isEmpty_iff] at h
      obtain ⟨rfl, rfl, rfl⟩ := h
      exact both G snd_dnew rfl
    · cases h
  | .ix a i, n, c, K0, X, x, G, K, h => by
    simp only [chkE] at h
    split at h
    · simp only [Bool.and_eq_true, Bool.not_eq_true'] at h
      obtain ⟨h1, h2, h3⟩ := h
      exact both G (snd_ix (sndE Yk G K h2).1 (sndE Yk G K h3).1 (ix_O G.g.K (by have := G.g.hu; omega)) h1) rfl
    · cases h
  | .sl a lo hi, n, c, K0, X, x, G, K, h => by
    simp only [chkE] at h
    split at h
    · split at h
      · rename_i l hh p2
        simp only [Bool.and_eq_true] at h
        obtain ⟨h1, h2, h3⟩ := h
        have po : ∀ {b : Ev.E} {o : Option Expr}, (∀ y, chkE Y.nm b c y = true → Both Y K0 X y (evE Y.T Y.C b n)) → (match o with | none => isAbs b | some y => !isAbs b && chkE Y.nm b c y) = true →
            PO X o (fun σ H Q => LG Y.Z K0 relI (fun ρ => if isAbs b = true then .ok none ρ else asI (evE Y.T Y.C b n ρ)) σ H Q) := fun {b o} hb q => by
          cases o with
          | none =>
            simp only at q
            simp only [q, if_true]
            exact snd_absent
          | some y =>
            simp only [Bool.and_eq_true, Bool.not_eq_true'] at q
            simp only [q.1, Bool.false_eq_true, if_false]
            exact snd_some (hb y q.2).1
        exact both G (snd_slice G.g.K (sndE Yk G K h1).1 (po (fun y hy => sndE Yk G K hy) h2) (po (fun y hy => sndE Yk G K hy) h3)) rfl
      · cases h
    · cases h
  | .rev a, n, c, K0, X, x, G, K, h => by
    simp only [chkE] at h
    cases h
  | .req ne a b, n, c, K0, X, x, G, K, h => by
    simp only [chkE] at h
    split at h
    · split at h
      · rename_i y p1 p q1 o z p2 q q2
        simp only [Bool.and_eq_true, isOp, decide_eq_true_eq, Bool.not_eq_true'] at h
        obtain ⟨h1, h2, h3, h4, h5, h6, h7, h8⟩ := h
        obtain ⟨rfl, g1, m1⟩ := bName_of h3 G Yk (by decide)
        obtain ⟨rfl, _, _⟩ := bName_of h4 G Yk (by decide)
        have za := (sndE Yk G K h7).1
        have zb := (sndE Yk G K h8).1
        exact ⟨snd_req h2 G.g.K Yk.ok.st G.g.hu (G.g.gd h1) g1 m1 za zb h5 h6, fun _ => snd_reqT h2 G.g.K Yk.ok.st G.g.hu (G.g.gd h1) g1 m1 za zb h5 h6⟩
      · cases h
    · cases h
  | .call f es, n, c, K0, X, x, G, K, h => by
    simp only [chkE] at h
    split at h
    · rename_i g xs kws pos
      split at h
      · rename_i y p
        simp only [Bool.and_eq_true, Bool.not_eq_true', decide_eq_true_eq] at h
        obtain ⟨⟨⟨h1, h2, h3⟩, h4, h5⟩, h6⟩ := h
        have a := sndL Yk G K h6
        have hlen := chkL_len h6
        cases xs with
        | nil =>
          rw [List.length_nil] at hlen
          have : es = [] := List.length_eq_zero_iff.mp hlen.symm
          rw [this] at h5
          cases h5
        | cons e xs =>
          exact both G (snd_call G.g K (nth_of h1) (G.g.gl _ h2) (odd_no h3).1 a.pa a.st fun ρ os ρ1 eg => by rw [evL_len eg, Yk.ar, h4]) rfl
      · cases h
    · cases h
  | .blt b es, n, c, K0, X, x, G, K, h => by
    simp only [chkE] at h
    split at h
    · rename_i g xs kws pos
      split at h
      · split at h
        · rename_i hb
          have eb : b = .sortedSet := by cases b <;> first | rfl | cases hb
          subst eb
          simp only [Bool.and_eq_true] at h
          obtain ⟨h1, h2⟩ := h
          split at h2
          · rename_i z p2 us q
            simp only [Bool.and_eq_true, decide_eq_true_eq] at h2
            obtain ⟨⟨h2, h3⟩, h4⟩ := h2
            have hl := chkL_len h4
            rw [h3] at hl
            match us, hl with
            | [u], _ =>
              obtain ⟨f, pf, ef⟩ := snd1 Yk G K h4
              have st := (sndL Yk G K h4).st
              have hs : isStar u = false := by simpa using st
              have ee : evE Y.T Y.C (.blt .sortedSet es) n = fun ρ => ((f ρ).bind fun o ρ1 => .ok [o] ρ1).bind fun os ρ1 => oko (blt .sortedSet (os.map (rs ρ1))) ρ1 := by
                funext ρ
                simp only [evE]
                rw [ef]
              rw [ee]
              exact both G (snd_sortSet Yk G h1 h2 pf hs) rfl
          · cases h2
        · simp only [Bool.and_eq_true] at h
          obtain ⟨⟨h1, h2⟩, h3⟩ := h
          have a := sndL Yk G K h3
          have hlen := chkL_len h3
          cases xs with
          | nil =>
            rw [← hlen] at h2
            cases b <;> cases h2
          | cons e xs => exact both G (snd_bltAll Yk G h1 (by rw [hlen]; exact h2) a) rfl
      · cases h
    · cases h
  | .isi a t, n, c, K0, X, x, G, K, h => by
    simp only [chkE] at h
    split at h
    · split at h
      · simp only [Bool.and_eq_true, Bool.not_eq_true'] at h
        obtain ⟨⟨⟨h1, h2⟩, h3⟩, h4⟩ := h
        obtain ⟨rfl, g1, m1⟩ := bName_of h1 G Yk (by decide)
        obtain ⟨rfl, g2, m2⟩ := bName_of h2 G Yk (by cases t <;> decide)
        have q : bootBuiltins (tyS t) = some (.type (tyN t)) := by cases t <;> decide +kernel
        exact both G (snd_isi G.g.K (sndE Yk G K h4).1 g1 m1 (by decide +kernel) (by decide) (by decide) g2 m2 q (by cases t <;> decide) (by cases t <;> decide) h3) rfl
      · cases h
    · cases h
  | .app i e, n, c, K0, X, x, G, K, h => by
    simp only [chkE] at h
    split at h
    · split at h
      · simp only [Bool.and_eq_true, Bool.not_eq_true', decide_eq_true_eq] at h
        obtain ⟨⟨⟨⟨h1, h2⟩, h3⟩, h4⟩, h5⟩ := h
        subst h1
        unfold varB at h2
        simp only [Bool.and_eq_true, Bool.not_eq_true'] at h2
        obtain ⟨v1, v2, v3⟩ := h2
        obtain ⟨d1, d2, _⟩ := odd_no v3
        exact both G (snd_app G.g.K (pe_var (by rw [G.g.N]; exact nth_of v1) (G.g.vis _ v2) d1 d2) (sndE Yk G K h5).1 h4 h3) rfl
      · cases h
    · cases h
  | .pop i, n, c, K0, X, x, G, K, h => by
    simp only [chkE] at h
    split at h
    · split at h
      · simp only [Bool.and_eq_true, decide_eq_true_eq] at h
        obtain ⟨⟨h1, h2⟩, h3⟩ := h
        subst h1
        unfold varB at h2
        simp only [Bool.and_eq_true, Bool.not_eq_true'] at h2
        obtain ⟨v1, v2, v3⟩ := h2
        obtain ⟨d1, d2, _⟩ := odd_no v3
        exact both G (snd_pop G.g.K (pe_var (by rw [G.g.N]; exact nth_of v1) (G.g.vis _ v2) d1 d2) h3) rfl
      · cases h
    · cases h
  | .get2 i k e, n, c, K0, X, x, G, K, h => by
    simp only [chkE] at h
    split at h
    · split at h
      · simp only [Bool.and_eq_true, Bool.not_eq_true', decide_eq_true_eq] at h
        obtain ⟨⟨⟨⟨⟨⟨h1, h2⟩, h3⟩, h4⟩, h5⟩, h6⟩, h7⟩ := h
        subst h1
        unfold varB at h2
        simp only [Bool.and_eq_true, Bool.not_eq_true'] at h2
        obtain ⟨v1, v2, v3⟩ := h2
        obtain ⟨d1, d2, _⟩ := odd_no v3
        exact both G (snd_get2 (by have := G.g.hu; omega) (pe_var (by rw [G.g.N]; exact nth_of v1) (G.g.vis _ v2) d1 d2) (sndE Yk G K h6).1 (sndE Yk G K h7).1 h4 h5 h3) rfl
      · cases h
    · cases h
  | .cnt i e, n, c, K0, X, x, G, K, h => by
    simp only [chkE] at h
    split at h
    · split at h
      · simp only [Bool.and_eq_true, Bool.not_eq_true', decide_eq_true_eq] at h
        obtain ⟨⟨⟨⟨h1, h2⟩, h3⟩, h4⟩, h5⟩ := h
        subst h1
        unfold varB at h2
        simp only [Bool.and_eq_true, Bool.not_eq_true'] at h2
        obtain ⟨v1, v2, v3⟩ := h2
        obtain ⟨d1, d2, _⟩ := odd_no v3
        exact both G (snd_cnt G.g.K (pe_var (by rw [G.g.N]; exact nth_of v1) (G.g.vis _ v2) d1 d2) (sndE Yk G K h5).1 h4 h3) rfl
      · cases h
    · cases h
  | .frz i, n, c, K0, X, x, G, K, h => by
    simp only [chkE] at h
    split at h
    · unfold varB at h
      simp only [Bool.and_eq_true, Bool.not_eq_true'] at h
      obtain ⟨h1, h2, h3⟩ := h
      obtain ⟨d1, d2, _⟩ := odd_no h3
      exact both G (snd_frz (pe_var (by rw [G.g.N]; exact nth_of h1) (G.g.vis _ h2) d1 d2)) rfl
    · cases h
  | .sdef i k e, n, c, K0, X, x, G, K, h => by
    simp only [chkE] at h
    cases h
  | .comp elt tg k es ifs own, n, c, K0, X, x, G, K, h => by
    simp only [chkE] at h
    split at h
    · rename_i y gs sc pos
      split at h
      · rename_i t it fs
        simp only [Bool.and_eq_true] at h
        obtain ⟨⟨⟨⟨⟨h1, h2⟩, h3⟩, h4⟩, h5⟩, h6⟩ := h
        have it := snd_it Yk G h3 (fun xs hx => sndL Yk G K hx) (fun x hx => snd1 Yk G K hx)
        exact both G (snd_comp G.g.calm (by rw [G.g.N]; exact G.g.nd) it.1 (G.blkOk (blkOk_by h5)) (by unfold ownP; simp [List.map_map, Function.comp_def]) (fun i hi => by simpa using List.all_eq_true.mp h6 i hi)
          (fun s H C cl fp => (sndTg (G.blk s H C cl fp) h2).1) (fun s H C cl fp => sndTs Yk (G.blk s H C cl fp) K h4) (fun s H C cl fp => (sndE Yk (G.blk s H C cl fp) K h1).1) (noSet it.2)) rfl
      · cases h
    · cases h
  | .comp2 elt t1 k1 e1 t2 k2 e2 ifs own, n, c, K0, X, x, G, K, h => by
    simp only [chkE] at h
    split at h
    · rename_i y gs sc pos
      split at h
      · rename_i t it t' it' fs
        simp only [Bool.and_eq_true] at h
        obtain ⟨⟨⟨⟨⟨⟨⟨⟨h1, h2⟩, h3⟩, h4⟩, h5⟩, h6⟩, h7⟩, h8⟩, h9⟩ := h
        have it1 := snd_it Yk G h3 (fun xs hx => sndL Yk G K hx) (fun x hx => snd1 Yk G K hx)
        have it2 := fun (s : Shared) (H : Hp) (C : Addr) (cl : List (Str × Addr)) (fp : List Addr) => snd_it Yk (G.blk (scope := sc) s H C cl fp) h5 (fun xs hx => sndL Yk (G.blk (scope := sc) s H C cl fp) K hx) (fun x hx => snd1 Yk (G.blk (scope := sc) s H C cl fp) K hx)
        have ns : noSetB it' = true := chkIt_ns h5
        exact both G (snd_comp2 G.g.calm (by rw [G.g.N]; exact G.g.nd) it1.1 (G.blkOk (blkOk_by h7)) (by unfold ownP; simp [List.map_map, Function.comp_def]) (fun i hi => by simpa using List.all_eq_true.mp h8 i hi) (fun i hi => by simpa using List.all_eq_true.mp h9 i hi)
          (fun s H C cl fp => (sndTg (G.blk s H C cl fp) h2).1) (fun s H C cl fp => (it2 s H C cl fp).1) (fun s H C cl fp => (sndTg (G.blk s H C cl fp) h4).1) (fun s H C cl fp => sndTs Yk (G.blk s H C cl fp) K h6) (fun s H C cl fp => (sndE Yk (G.blk s H C cl fp) K h1).1) (noSet it1.2) (fun env => noSet (env := env) ns)) rfl
      · cases h
    · cases h
  | .dcomp t' k' v tg k es ifs own, n, c, K0, X, x, G, K, h => by
    simp only [chkE] at h
    split at h
    · rename_i y z gs sc pos
      split at h
      · rename_i t it fs
        simp only [Bool.and_eq_true] at h
        obtain ⟨⟨⟨⟨⟨⟨h1, h0⟩, h2⟩, h3⟩, h4⟩, h5⟩, h6⟩ := h
        have it := snd_it Yk G h3 (fun xs hx => sndL Yk G K hx) (fun x hx => snd1 Yk G K hx)
        exact both G (snd_dcomp G.g.calm (by rw [G.g.N]; exact G.g.nd) it.1 (G.blkOk (blkOk_by h5)) (by unfold ownP; simp [List.map_map, Function.comp_def]) (fun i hi => by simpa using List.all_eq_true.mp h6 i hi)
          (fun s H C cl fp => (sndTg (G.blk s H C cl fp) h2).1) (fun s H C cl fp => sndTs Yk (G.blk s H C cl fp) K h4) (fun s H C cl fp => (sndE Yk (G.blk s H C cl fp) K h1).1) (fun s H C cl fp => (sndE Yk (G.blk s H C cl fp) K h0).1) (noSet it.2)) rfl
      · cases h
    · cases h
  | .dcomp2 key val t1 k1 e1 t2 k2 e2 ifs own, n, c, K0, X, x, G, K, h => by
    simp only [chkE] at h
    split at h
    · rename_i y z gs sc pos
      split at h
      · rename_i t it t' it' fs
        simp only [Bool.and_eq_true] at h
        obtain ⟨⟨⟨⟨⟨⟨⟨⟨⟨h1, h0⟩, h2⟩, h3⟩, h4⟩, h5⟩, h6⟩, h7⟩, h8⟩, h9⟩ := h
        have it1 := snd_it Yk G h3 (fun xs hx => sndL Yk G K hx) (fun x hx => snd1 Yk G K hx)
        have it2 := fun (s : Shared) (H : Hp) (C : Addr) (cl : List (Str × Addr)) (fp : List Addr) => snd_it Yk (G.blk (scope := sc) s H C cl fp) h5 (fun xs hx => sndL Yk (G.blk (scope := sc) s H C cl fp) K hx) (fun x hx => snd1 Yk (G.blk (scope := sc) s H C cl fp) K hx)
        exact both G (snd_dcomp2 G.g.calm (by rw [G.g.N]; exact G.g.nd) it1.1 (G.blkOk (blkOk_by h7)) (by unfold ownP; simp [List.map_map, Function.comp_def]) (fun i hi => by simpa using List.all_eq_true.mp h8 i hi) (fun i hi => by simpa using List.all_eq_true.mp h9 i hi)
          (fun s H C cl fp => (sndTg (G.blk s H C cl fp) h2).1) (fun s H C cl fp => (it2 s H C cl fp).1) (fun s H C cl fp => (sndTg (G.blk s H C cl fp) h4).1) (fun s H C cl fp => sndTs Yk (G.blk s H C cl fp) K h6) (fun s H C cl fp => (sndE Yk (G.blk s H C cl fp) K h1).1) (fun s H C cl fp => (sndE Yk (G.blk s H C cl fp) K h0).1) (noSet it1.2) (fun env => noSet (env := env) (chkIt_ns h5))) rfl
      · cases h
    · cases h
  | .told b, n, c, K0, X, x, G, K, h => by
    simp only [chkE] at h
    split at h
    · split at h
      · rename_i y p ps body sc lp
        simp only [Bool.and_eq_true, Bool.not_eq_true'] at h
        obtain ⟨hgd, ⟨⟨⟨⟨h1, h2, h3⟩, h4⟩, h5⟩, h6⟩, h7⟩ := h
        have ht : Y.nm.told = some y := by
          cases q : Y.nm.told with
          | none => rw [q] at h1; cases h1
          | some z => rw [q] at h1; rw [of_decide_eq_true h1]
        obtain ⟨cd, P, L⟩ := G.lam h4
        have ls := G.lamS (LamX.lamS_by h5)
        have ep := noPar_of h6
        subst ep
        match n, G, K with
        | 0, G, K => exact both G peStuck rfl
        | 1, G, K => exact both G peStuck rfl
        | m + 2, G, K =>
          have K1 : Fok Y (m + 1) := ⟨fun f x e => by
            obtain ⟨a, fd, ps, h1, h2, h3, h4⟩ := K.fn f x e
            exact ⟨a, fd, ps, h1, h2, h3, fun k hk => h4 k (by omega)⟩⟩
          have K2 : Fok Y m := ⟨fun f x e => by
            obtain ⟨a, fd, ps, h1, h2, h3, h4⟩ := K.fn f x e
            exact ⟨a, fd, ps, h1, h2, h3, fun k hk => h4 k (by omega)⟩⟩
          exact both G (snd_told hgd G.g K1 (Yk.tol _ ht) L (G.g.gl _ h2) h3 ls rfl rfl (fun _ _ _ _ _ => rfl) fun A outer s H E' f c' hr => (sndE Yk (G.lamb hgd ls A outer s H E' f c' hr) K2 h7).1) rfl
      · cases h
    · cases h
  | .fns fs a, n, c, K0, X, x, G, K, h => by
    simp only [chkE] at h
    split at h
    · rename_i xs lp k pos
      simp only [Bool.and_eq_true, Bool.not_eq_true', decide_eq_true_eq] at h
      obtain ⟨h1, h2, h3, h4⟩ := h
      obtain ⟨l1, l2, l3⟩ := chkFs_ok Yk G h3
      exact both G (snd_fns G.g.K (pa_refs l1 l2) (sndE Yk G K h4).1 h1 h2 l3) rfl
    · cases h
  | .callv i es, n, c, K0, X, x, G, K, h => by
    simp only [chkE] at h
    split at h
    · rename_i g xs kws pos
      split at h
      · rename_i y p
        simp only [Bool.and_eq_true, decide_eq_true_eq, Bool.not_eq_true'] at h
        obtain ⟨hgd, ⟨h1, h2⟩, h3⟩ := h
        unfold varB at h1
        simp only [Bool.and_eq_true, Bool.not_eq_true'] at h1
        obtain ⟨v1, v2, v3⟩ := h1
        obtain ⟨d1, d2, _⟩ := odd_no v3
        have a := sndL Yk G K h3
        have hlen := chkL_len h3
        cases xs with
        | nil =>
          rw [List.length_nil] at hlen
          omega
        | cons e xs =>
          exact both G (snd_callv hgd Yk G.g K (by rw [G.g.N]; exact nth_of v1) (G.g.vis _ v2) d1 d2 a.pa a.st fun ρ os ρ1 eg => by rw [evL_len eg, h2]) rfl
      · cases h
    · cases h
theorem sndL (Yk : Gk Y) : ∀ {es : List Ev.E} {n : Nat} {c : Cs} {K0 : XK} {X : Cx} {xs : List Expr}, Gd Y n c K0 X → Fok Y n → chkL Y.nm es c xs = true → ArgsOk Y K0 X xs (evL Y.T Y.C es n)
  | [], n, c, K0, X, xs, G, K, h => by
    simp only [chkL] at h
    cases xs with
    | nil => exact ⟨snd_nil, fun ρ os ρ1 e => by rw [evL_len e]; rfl, rfl⟩
    | cons x xs => cases h
  | e :: es, n, c, K0, X, xs, G, K, h => by
    simp only [chkL] at h
    cases xs with
    | nil => cases h
    | cons x xs =>
      simp only [Bool.and_eq_true, Bool.not_eq_true'] at h
      obtain ⟨h1, h2, h3⟩ := h
      have a := sndL Yk G K h3
      exact ⟨snd_cons (sndE Yk G K h2).1 a.pa h1, fun ρ os ρ1 e => by rw [evL_len e, List.length_cons, List.length_cons, chkL_len h3], by rw [List.all_cons, a.st, h1]; rfl⟩
theorem snd1 (Yk : Gk Y) : ∀ {es : List Ev.E} {n : Nat} {c : Cs} {K0 : XK} {X : Cx} {x : Expr}, Gd Y n c K0 X → Fok Y n → chkL Y.nm es c [x] = true → ∃ f, PE X x (LE Y.Z K0 f) ∧ evL Y.T Y.C es n = fun ρ => (f ρ).bind fun o ρ1 => .ok [o] ρ1
  | [], n, c, K0, X, x, G, K, h => by
    simp only [chkL] at h
    cases h
  | e :: es, n, c, K0, X, x, G, K, h => by
    simp only [chkL, Bool.and_eq_true] at h
    obtain ⟨_, h2, h3⟩ := h
    have e0 : es = [] := List.length_eq_zero_iff.mp (by rw [← chkL_len h3]; rfl)
    subst e0
    exact ⟨_, (sndE Yk G K h2).1, by funext ρ; simp only [evL, R.bind_ok]⟩
theorem sndTs (Yk : Gk Y) : ∀ {es : List Ev.E} {n : Nat} {c : Cs} {K0 : XK} {X : Cx} {xs : List Expr}, Gd Y n c K0 X → Fok Y n → chkTs Y.nm es c xs = true → PTs X xs (LT Y.Z K0 (evTs Y.T Y.C es n))
  | [], n, c, K0, X, xs, G, K, h => by
    simp only [chkTs] at h
    cases xs with
    | nil => exact snd_tests0
    | cons x xs => cases h
  | e :: es, n, c, K0, X, xs, G, K, h => by
    simp only [chkTs] at h
    cases xs with
    | nil => cases h
    | cons x xs =>
      simp only [Bool.and_eq_true] at h
      obtain ⟨h1, h2, h3⟩ := h
      exact snd_tests ((sndE Yk G K h2).2 h1) (sndTs Yk G K h3)
theorem sndAO (Yk : Gk Y) {op : PySem.BoolOp} : ∀ {es : List Ev.E} {n : Nat} {c : Cs} {K0 : XK} {X : Cx} {xs : List Expr}, Gd Y n c K0 X → Fok Y n → chkL Y.nm es c xs = true → xs.all okT = true → AO Y K0 X op xs (evAO Y.T Y.C (stopOf op) es n)
  | [], n, c, K0, X, xs, G, K, h, ht => fun pos => ⟨peStuck, ⟨fun _ _ _ _ _ _ _ ⟨_, _, _, _, _, _, post⟩ => post.elim⟩⟩
  | e :: es, n, c, K0, X, xs, G, K, h, ht => by
    simp only [chkL] at h
    cases xs with
    | nil => cases h
    | cons x xs =>
      simp only [Bool.and_eq_true, Bool.not_eq_true'] at h
      obtain ⟨h1, h2, h3⟩ := h
      rw [List.all_cons, Bool.and_eq_true] at ht
      have z := sndE Yk G K h2
      cases es with
      | nil =>
        have e0 : xs = [] := List.length_eq_zero_iff.mp (chkL_len h3)
        subst e0
        intro pos
        have ee : evAO Y.T Y.C (stopOf op) [e] n = evE Y.T Y.C e n := by
          exact evAO_one
        rw [ee]
        refine ⟨snd_ao1 z.1, ?_⟩
        cases op with
        | And => exact pw_and1 (z.2 ht.1)
        | Or => exact pw_or1 (z.2 ht.1)
      | cons e2 es =>
        cases xs with
        | nil => simp [chkL] at h3
        | cons x2 xs =>
          have w := sndAO Yk (op := op) G K h3 ht.2
          intro pos
          have ee : evAO Y.T Y.C (stopOf op) (e :: e2 :: es) n = fun ρ => onB (stopOf op) (evE Y.T Y.C e n ρ) (evAO Y.T Y.C (stopOf op) (e2 :: es) n) := by
            exact evAO_two
          rw [ee]
          cases op with
          | And => exact ⟨snd_and z.1 (w pos).1, snd_andT (z.2 ht.1) (w pos).2⟩
          | Or => exact ⟨snd_or z.1 (w pos).1, snd_orT (z.2 ht.1) (w pos).2⟩
theorem chkL_len : ∀ {es : List Ev.E} {c : Cs} {xs : List Expr}, chkL Y.nm es c xs = true → xs.length = es.length
  | [], c, xs, h => by
    simp only [chkL] at h
    cases xs with
    | nil => rfl
    | cons x xs => cases h
  | e :: es, c, xs, h => by
    simp only [chkL] at h
    cases xs with
    | nil => cases h
    | cons x xs =>
      simp only [Bool.and_eq_true] at h
      rw [List.length_cons, List.length_cons, chkL_len h.2.2]
end
end
end Ev
/-! Ev18: the look at statements; its soundness. -/
namespace Ev
open PySem PySem.Spec PyProof.Rows L2
/-! ### a list comprehension that is put to a name at once -/
section
variable {n : Nat} {E : XK} {X : Cx} {Z : Wo}
theorem snd_setLc {i : Nat} {y : Str} {py pos spos : Pos} {elt tg iter : Expr} {ifs : List Expr} {scope : Scope} {own : List (Str × Nat)} {ow : List Nat} {gi : Ev → R (List D × List Nat)} {t : Tg} {ft : Ev → R Bool} {fe : Ev → R O} (hc : X.calm = true) (hN : X.N.Nodup) (hy : X.N[i]? = some y) (hyl : X.env.scope.names.lookup y = some .local)
    (hsw : swapsWith (.ListComp elt [⟨tg, iter, ifs, 0⟩] scope pos) (some (.Name y py)) spos.line X.env = pure true) (hi : PI X tg iter (LI Z E gi)) (ok : BlkOk X.N X.env.scope scope own)
    (hw : own.map (·.2) = ow) (hts : ∀ i ∈ slots t, i ∈ ow)
    (hg : ∀ (s : Shared) (H : Hp) (C : Addr) (cl : List (Str × Addr)) (fp : List Addr), PG (X.blk s H scope (compEnvC scope cl C X.env) fp) tg (LGt Z t)) (ht : ∀ (s : Shared) (H : Hp) (C : Addr) (cl : List (Str × Addr)) (fp : List Addr), PTs (X.blk s H scope (compEnvC scope cl C X.env) fp) ifs (LT Z E0 ft))
    (he : ∀ (s : Shared) (H : Hp) (C : Addr) (cl : List (Str × Addr)) (fp : List Addr), PE (X.blk s H scope (compEnvC scope cl C X.env) fp) elt (LE Z E0 fe)) (hs : ∀ x, foldedSetIterable iter X.env x = pure x) :
    PS X (.Assign [.Name y py] (.ListComp elt [⟨tg, iter, ifs, 0⟩] scope pos) spos) (LS Z E [i] fun ρ => ((gi ρ).bind fun p ρ1 => compEnd ow ρ1 p.2 (walkL (compTurn ow ρ1 p.2 t ft fe) p.1 [] (wipe ρ1 ow))).bind fun o ρ1 => nxt (assign ρ1 i o)) := by
  subst hw
  exact psImp (ps_setLc hc hN hy hyl hsw hi ok hg ht he hs) fun D σ H q => snd_comp.lcImp hts (setImp (e := elt) (List.mem_singleton.mpr rfl) D σ H q)
theorem snd_setLc2 {i : Nat} {y : Str} {py pos spos : Pos} {elt tg iter tg1 iter1 : Expr} {ifs1 : List Expr} {scope : Scope} {own : List (Str × Nat)} {ow : List Nat} {gi g2 : Ev → R (List D × List Nat)} {t t2 : Tg} {ft : Ev → R Bool} {fe : Ev → R O} (hc : X.calm = true) (hN : X.N.Nodup) (hy : X.N[i]? = some y) (hyl : X.env.scope.names.lookup y = some .local)
    (hsw : swapsWith (.ListComp elt [⟨tg, iter, [], 0⟩, ⟨tg1, iter1, ifs1, 0⟩] scope pos) (some (.Name y py)) spos.line X.env = pure true) (hi : PI X tg iter (LI Z E gi)) (ok : BlkOk X.N X.env.scope scope own)
    (hw : own.map (·.2) = ow) (hts : ∀ i ∈ slots t, i ∈ ow) (hts2 : ∀ i ∈ slots t2, i ∈ ow)
    (hg : ∀ (s : Shared) (H : Hp) (C : Addr) (cl : List (Str × Addr)) (fp : List Addr), PG (X.blk s H scope (compEnvC scope cl C X.env) fp) tg (LGt Z t))
    (hi1 : ∀ (s : Shared) (H : Hp) (C : Addr) (cl : List (Str × Addr)) (fp : List Addr), PI (X.blk s H scope (compEnvC scope cl C X.env) fp) tg1 iter1 (LI Z E0 g2))
    (hg1 : ∀ (s : Shared) (H : Hp) (C : Addr) (cl : List (Str × Addr)) (fp : List Addr), PG (X.blk s H scope (compEnvC scope cl C X.env) fp) tg1 (LGt Z t2))
    (ht1 : ∀ (s : Shared) (H : Hp) (C : Addr) (cl : List (Str × Addr)) (fp : List Addr), PTs (X.blk s H scope (compEnvC scope cl C X.env) fp) ifs1 (LT Z E0 ft))
    (he : ∀ (s : Shared) (H : Hp) (C : Addr) (cl : List (Str × Addr)) (fp : List Addr), PE (X.blk s H scope (compEnvC scope cl C X.env) fp) elt (LE Z E0 fe)) (hs : ∀ x, foldedSetIterable iter X.env x = pure x) (hs1 : ∀ env x, foldedSetIterable iter1 env x = pure x) :
    PS X (.Assign [.Name y py] (.ListComp elt [⟨tg, iter, [], 0⟩, ⟨tg1, iter1, ifs1, 0⟩] scope pos) spos) (LS Z E [i] fun ρ => ((gi ρ).bind fun p ρ1 => compEnd ow ρ1 p.2 (walkL (compTurn2 ow ρ1 p.2 t g2 (slots t2) fun ρ3 ws2 => compTurn (slots t2) ρ3 ws2 t2 ft fe) p.1 [] (wipe ρ1 ow))).bind fun o ρ1 => nxt (assign ρ1 i o)) := by
  subst hw
  exact psImp (ps_setLc2 (vs1 := slots t2) hc hN hy hyl hsw hi ok hts2 hg (fun _ _ _ _ _ => pts_nil) hi1 hg1 ht1 he hs hs1) fun D σ H q => snd_comp2.lcImp2 hts hts2 (setImp (e := elt) (List.mem_singleton.mpr rfl) D σ H q)
end
/-! ### the look -/
def isCompX : Expr → Bool
  | .ListComp _ _ _ _ => true
  | .SetComp _ _ _ _ => true
  | .DictComp _ _ _ _ _ => true
  | _ => false
theorem swaps_no {x : Expr} {t : Option Expr} {l : Nat} {env : Env} (h : isCompX x = false) : swapsWith x t l env = pure false := by
  cases x <;> first | rfl | (cases h)
/-- whether a comprehension is put to the name at once -/
def swB (c : Cs) (y : Str) (py pos : Pos) (sc : Scope) : Bool := (match c.sc.names.lookup y with | some .local => true | _ => false) && (py.line == pos.line) && !(sc.names.any fun (n, k) => n == y && (k == .local || k == .cell))
theorem swaps_is {c : Cs} {y : Str} {py pos : Pos} {elt : Expr} {gs : List Comprehension} {sc : Scope} {l : Nat} {env : Env} (hk : env.scope.kind = .function) (he : env.scope = c.sc) : swapsWith (.ListComp elt gs sc pos) (some (.Name y py)) l env = pure (swB c y py pos sc) := by
  have hb : env.blockKind = .function := by unfold Env.blockKind; rw [hk]; rfl
  have ky : env.kindOf y = c.sc.names.lookup y := by unfold Env.kindOf; rw [he]
  unfold swapsWith swB
  simp only [hb, ky, Expr.pos]
  congr 1
  cases c.sc.names.lookup y with
  | none => simp
  | some k => cases k <;> simp
/-- which names the stores of a pair are swapped with -/
def swapC (sc : Scope) (ts vs : List Expr) : Option (Option (List Str)) :=
  if (!(ts.length == 2 || ts.length == 3) || vs.length != ts.length) = true then some none
  else if (vs.any isStar) = true then some none
  else if ((ts.filterMap fun | .Name id pos => if sc.names.lookup id == some .local && pos.line == (ts.head?.map (·.pos.line)).getD 0 then some id else none | _ => none).length != ts.length ||
    (ts.filterMap fun | .Name id pos => if sc.names.lookup id == some .local && pos.line == (ts.head?.map (·.pos.line)).getD 0 then some id else none | _ => none).eraseDups.length != (ts.filterMap fun | .Name id pos => if sc.names.lookup id == some .local && pos.line == (ts.head?.map (·.pos.line)).getD 0 then some id else none | _ => none).length) = true then some none
  else if (vs.all (foldedForSure 8)) = true then some none
  else if (vs.all (constantsAlone 8)) = true then none
  else some (some (ts.filterMap fun | .Name id pos => if sc.names.lookup id == some .local && pos.line == (ts.head?.map (·.pos.line)).getD 0 then some id else none | _ => none))
theorem swap_is {sc : Scope} {ts vs : List Expr} {env : Env} {k k2 : Nat} {p p2 : Pos} {r : Option (List Str)} (hk : env.scope.kind = .function) (he : env.scope = sc) (h : swapC sc ts vs = some r) : swappedStores [.Tuple ts k p] (.Tuple vs k2 p2) env = pure r := by
  have hb : env.blockKind = .function := by unfold Env.blockKind; rw [hk]; rfl
  have ky : ∀ y, env.kindOf y = sc.names.lookup y := fun y => by unfold Env.kindOf; rw [he]
  have hst : (vs.any fun | .Starred .. => true | _ => false) = vs.any isStar := by
    congr 1
  unfold swapC at h
  unfold swappedStores
  simp only [hb, ky]
  by_cases h1 : (!(ts.length == 2 || ts.length == 3) || vs.length != ts.length) = true
  · rw [if_pos h1] at h
    cases h
    have : (!(ts.length == 2 || ts.length == 3) || vs.length != ts.length || (ScopeKind.function != ScopeKind.function)) = true := by rw [h1]; rfl
    rw [if_pos this]
  · rw [if_neg h1] at h
    have : ¬ (!(ts.length == 2 || ts.length == 3) || vs.length != ts.length || (ScopeKind.function != ScopeKind.function)) = true := by simpa using h1
    rw [if_neg this]
    by_cases h2 : (vs.any isStar) = true
    · rw [if_pos h2] at h
      cases h
      exact (if_pos (hst.trans h2)).trans rfl
    · rw [if_neg h2] at h
      refine (if_neg (fun z => h2 (hst.symm.trans z))).trans ?_
      split at h
      · rename_i h3
        cases h
        exact (if_pos h3).trans rfl
      · rename_i h3
        refine (if_neg h3).trans ?_
        split at h
        · rename_i h4
          cases h
          exact (if_pos h4).trans rfl
        · rename_i h4
          refine (if_neg h4).trans ?_
          split at h
          · cases h
          · rename_i h5
            cases h
            exact (if_neg h5).trans rfl
end Ev
/-! Ev19: the look at statements; its soundness. -/
namespace Ev
open PySem PySem.Spec PyProof.Rows L2
def isTupX : Expr → Bool
  | .Tuple _ _ _ => true
  | _ => false
/-- plain names in slots, none twice -/
def chkNs (c : Cs) : List Nat → List Expr → Bool
  | [], xs => xs.isEmpty
  | i :: is, xs => match xs with
    | [] => false
    | x :: xs => (match x with | .Name y _ => stoB c i y | _ => false) && !is.contains i && chkNs c is xs
def augOp : Bop → Operator → Bool
  | .add, .Add => true
  | .sub, .Sub => true
  | _, _ => false
def isLoc (c : Cs) (y : Str) : Bool := match c.sc.names.lookup y with
  | some .local => true
  | _ => false
def setOk (c : Cs) (y : Str) (py : Pos) (x : Expr) : Bool := match x with
  | .ListComp _ _ sc p => !swB c y py p sc || isLoc c y
  | .SetComp _ _ _ _ => false
  | .DictComp _ _ _ _ _ => false
  | _ => true
mutual
def chkS (nm : Nm) : S → Cs → Stmt → Bool
  | .ex e, c, st => match st with
    | .Expr x _ => !isCompX x && chkE nm e c x
    | _ => false
  | .ret e, c, st => match st with
    | .Return (some x) _ => chkE nm e c x
    | _ => false
  | .retN, _, st => match st with
    | .Return none _ => true
    | _ => false
  | .set i e, c, st => match st with
    | .Assign [.Name y py] x _ => stoB c i y && chkE nm e c x && setOk c y py x
    | _ => false
  | .setT ts e, c, st => match st with
    | .Assign [.Tuple xs _ _] x _ => chkTgs c ts xs && chkE nm e c x && !isTupX x
    | _ => false
  | .par is es, c, st => match st with
    | .Assign [.Tuple ts _ _] (.Tuple xs _ _) _ => chkNs c is ts && chkL nm es c xs && decide (is.length = es.length) && decide (is.length ≤ 1000) && (match swapC c.sc ts xs with
      | none => false
      | some none => true
      | some (some ns) => decide (ns.length = is.length) && ts.all (fun t => match t with | .Name y _ => isLoc c y | _ => false) && decide (ns = ts.filterMap fun t => match t with | .Name y _ => some y | _ => none) && decide (is.length = 2 ∨ is.length = 3))
    | _ => false
  | .setIx i k e, c, st => match st with
    | .Assign [.Subscript (.Name y _) ke _] x _ => varB c i y && chkE nm k c ke && chkE nm e c x && !isSlice ke
    | _ => false
  | .aug i op e, c, st => match st with
    | .AugAssign (.Name y _) o x _ => stoB c i y && augOp op o && chkE nm e c x
    | _ => false
  | .augIx _ _ _ _, _, _ => false
  | .ite t a b, c, st => match st with
    | .If x xs ys _ => okT x && chkE nm t c x && chkB nm a c xs && chkB nm b c ys
    | _ => false
  | .for_ tg k es b, c, st => match st with
    | .For t it xs [] _ => chkTg c tg t && chkIt k c t it (fun xs => chkL nm es c xs) && chkB nm b c xs
    | _ => false
  | .while_ t b, c, st => match st with
    | .While x xs [] _ => okT x && chkE nm t c x && chkB nm b c xs
    | _ => false
  | .raise k, c, st => match st with
    | .Raise (some (.Call (.Name y _) [.Constant (.str _) _ _] [] _)) none _ => nth nm.exs k y && (glB c y && !odd y)
    | _ => false
  | .pass, _, st => match st with
    | .Pass _ => true
    | .Expr (.Constant (.str _) _ _) _ => true
    | _ => false
  | .brk, _, st => match st with
    | .Break _ => true
    | _ => false
  | .cont, _, st => match st with
    | .Continue _ => true
    | _ => false
termination_by structural s => s
def chkB (nm : Nm) : List S → Cs → List Stmt → Bool
  | [], _, xs => xs.isEmpty
  | s :: ss, c, xs => match xs with
    | [] => false
    | x :: xs => chkS nm s c x && chkB nm ss c xs
termination_by structural ss => ss
end
/-- the context of a def's body -/
structure Gs (Y : Gw) (n : Nat) (c : Cs) (E : XK) (X : Cx) : Prop where
  gd : Gd Y n c E X
  sc : X.env.scope = c.sc
  fn : c.sc.kind = .function
  po : PassesOwn (model X.prog X.w) X.A X.env X.xe
  tk : Takes X (fun cls d _ H => E cls d H)
section
variable {Y : Gw} {n : Nat} {c : Cs} {K0 : XK} {X : Cx} {A : List Nat}
theorem sto_of {i : Nat} {y : Str} (G : Gd Y n c K0 X) (h : stoB c i y = true) : X.N[i]? = some y ∧ L2.Loc X.env.scope y ∧ (X.fn y = true ∨ X.env.scope.names.lookup y = some .local) := by
  unfold stoB at h
  simp only [Bool.and_eq_true, Bool.not_eq_true'] at h
  obtain ⟨h1, h2, _⟩ := h
  obtain ⟨l1, l2⟩ := G.g.loc y h2
  exact ⟨by rw [G.g.N]; exact nth_of h1, l1, l2⟩
theorem var_pe {i : Nat} {y : Str} {p : Pos} (G : Gd Y n c K0 X) (h : varB c i y = true) : PE X (.Name y p) (tVar i) := by
  unfold varB at h
  simp only [Bool.and_eq_true, Bool.not_eq_true'] at h
  obtain ⟨v1, v2, v3⟩ := h
  obtain ⟨d1, d2, _⟩ := odd_no v3
  exact pe_var (by rw [G.g.N]; exact nth_of v1) (G.g.vis _ v2) d1 d2
theorem chkNs_ok (G : Gd Y n c K0 X) : ∀ {is : List Nat} {ts : List Expr}, chkNs c is ts = true → PGs X ts (gAll is) ∧ (assignEach ts X.env).length = is.length ∧ (assignEach ts X.env).findIdx? (·.1) = none ∧ ts.length = is.length
  | [], ts, h => by
    simp only [chkNs] at h
    cases ts with
    | nil => exact ⟨gall_nil, rfl, rfl, rfl⟩
    | cons x xs => cases h
  | i :: is, ts, h => by
    simp only [chkNs] at h
    cases ts with
    | nil => cases h
    | cons x xs =>
      simp only [Bool.and_eq_true] at h
      obtain ⟨⟨h1, _⟩, h2⟩ := h
      obtain ⟨b1, b2, b3, b4⟩ := chkNs_ok G h2
      split at h1
      · rename_i y p
        obtain ⟨s1, s2, s3⟩ := sto_of G h1
        refine ⟨gall_cons (pg_name (by rw [G.g.N]; exact G.g.nd) s1 s2 s3) b1 rfl, by simp only [assignEach, List.length_cons, b2], by simp [assignEach, List.findIdx?_cons, b3], by simp only [List.length_cons, b4]⟩
      · cases h1
theorem isLoc_of {y : Str} (h : isLoc c y = true) : c.sc.names.lookup y = some .local := by
  unfold isLoc at h
  split at h
  · assumption
  · cases h
theorem snd_par {is : List Nat} {es : List Ev.E} {ts xs : List Expr} {kt k2 : Nat} {pt pt2 pos : Pos} (Yk : Gk Y) (G : Gs Y n c K0 X) (K : Fok Y n) (h1 : chkNs c is ts = true) (h2 : chkL Y.nm es c xs = true) (h3 : is.length = es.length) (h4 : is.length ≤ 1000)
    (h5 : (match swapC c.sc ts xs with
      | none => false
      | some none => true
      | some (some ns) => decide (ns.length = is.length) && ts.all (fun t => match t with | .Name y _ => isLoc c y | _ => false) && decide (ns = ts.filterMap fun t => match t with | .Name y _ => some y | _ => none) && decide (is.length = 2 ∨ is.length = 3)) = true) :
    PS X (.Assign [.Tuple ts kt pt] (.Tuple xs k2 pt2) pos) (LS Y.Z K0 is (parF is (evL Y.T Y.C es n))) := by
  have a := sndL Yk G.gd K h2
  obtain ⟨b1, b2, b3, b4⟩ := chkNs_ok G.gd h1
  have hN : X.N.Nodup := by rw [G.gd.g.N]; exact G.gd.g.nd
  have hk : X.env.scope.kind = .function := by rw [G.sc]; exact G.fn
  have hl : ∀ ρ os ρ1, evL Y.T Y.C es n ρ = .ok os ρ1 → os.length = is.length := fun ρ os ρ1 e => by rw [evL_len e, h3]
  cases q : swapC c.sc ts xs with
  | none => rw [q] at h5; cases h5
  | some r =>
    have sw := fun (k k2 : Nat) (p p2 : Pos) => swap_is (k := k) (k2 := k2) (p := p) (p2 := p2) hk G.sc q
    cases r with
    | none => exact snd_parG G.gd.g.K hl h4 G.gd.g.calm b1 b2 b3 a.pa rfl (sw kt k2 pt pt2) rfl
    | some ns =>
      rw [q] at h5
      simp only [Bool.and_eq_true, decide_eq_true_eq] at h5
      obtain ⟨⟨⟨g1, g2⟩, g3⟩, g4⟩ := h5
      have lx := chkL_len h2
      rcases g4 with g4 | g4
      · match is, ts, xs, g4, b4, h3, lx, h1, g2, g3 with
        | [i, j], [t1, t2], [x1, x2], _, _, _, _, h1, g2, g3 =>
          simp only [chkNs, Bool.and_eq_true] at h1
          obtain ⟨⟨u1, u2⟩, ⟨v1, v2⟩, _⟩ := h1
          cases t1 with
          | Name y1 q1 =>
            cases t2 with
            | Name y2 q2 =>
              simp only [List.all_cons, List.all_nil, Bool.and_true, Bool.and_eq_true] at g2
              have e3 : ns = [y1, y2] := g3
              subst e3
              obtain ⟨s1, _, _⟩ := sto_of G.gd u1
              obtain ⟨s2, _, _⟩ := sto_of G.gd v1
              have nij : i ≠ j := by simpa using u2
              exact snd_par2 hl G.gd.g.calm hN s1 s2 nij (by rw [G.sc]; exact isLoc_of g2.1) (by rw [G.sc]; exact isLoc_of g2.2) a.pa (sw kt k2 pt pt2)
            | _ => cases v1
          | _ => cases u1
      · match is, ts, xs, g4, b4, h3, lx, h1, g2, g3 with
        | [i, j, l], [t1, t2, t3], [x1, x2, x3], _, _, _, _, h1, g2, g3 =>
          simp only [chkNs, Bool.and_eq_true] at h1
          obtain ⟨⟨u1, u2⟩, ⟨v1, v2⟩, ⟨w1, w2⟩, _⟩ := h1
          cases t1 with
          | Name y1 q1 =>
            cases t2 with
            | Name y2 q2 =>
              cases t3 with
              | Name y3 q3 =>
                simp only [List.all_cons, List.all_nil, Bool.and_true, Bool.and_eq_true] at g2
                have e3 : ns = [y1, y2, y3] := g3
                subst e3
                obtain ⟨s1, _, _⟩ := sto_of G.gd u1
                obtain ⟨s2, _, _⟩ := sto_of G.gd v1
                obtain ⟨s3, _, _⟩ := sto_of G.gd w1
                have n1 : i ≠ j ∧ i ≠ l := by simpa using u2
                have n2 : j ≠ l := by simpa using v2
                exact snd_par3 hl G.gd.g.calm hN s1 s2 s3 n1.1 n1.2 n2 (by rw [G.sc]; exact isLoc_of g2.1) (by rw [G.sc]; exact isLoc_of g2.2.1) (by rw [G.sc]; exact isLoc_of g2.2.2) a.pa (sw kt k2 pt pt2)
              | _ => cases w1
            | _ => cases v1
          | _ => cases u1
end
end Ev
/-! Ev20: soundness of the look at statements. -/
namespace Ev
open PySem PySem.Spec PyProof.Rows L2
section
variable {Y : Gw} {n : Nat} {c : Cs} {K0 : XK} {X : Cx} {A : List Nat}
/-- name = value -/
theorem snd_setAll {i : Nat} {e : Ev.E} {y : Str} {x : Expr} {py pos : Pos} (Yk : Gk Y) (G : Gs Y n c K0 X) (K : Fok Y n) (h1 : stoB c i y = true) (h2 : chkE Y.nm e c x = true) (h3 : setOk c y py x = true) : PS X (.Assign [.Name y py] x pos) (LS Y.Z K0 [i] fun ρ => (evE Y.T Y.C e n ρ).bind fun o ρ1 => nxt (assign ρ1 i o)) := by
  obtain ⟨s1, s2, s3⟩ := sto_of G.gd h1
  have hN : X.N.Nodup := by rw [G.gd.g.N]; exact G.gd.g.nd
  have hk : X.env.scope.kind = .function := by rw [G.sc]; exact G.fn
  by_cases hc : isCompX x = true
  · cases x with
    | ListComp elt gs sc p =>
      have sw := swaps_is (c := c) (y := y) (py := py) (pos := p) (elt := elt) (gs := gs) (sc := sc) (l := pos.line) hk G.sc
      cases q : swB c y py p sc with
      | false =>
        rw [q] at sw
        exact snd_set hN s1 s2 s3 (sndE Yk G.gd K h2).1 sw
      | true =>
        rw [q] at sw
        simp only [setOk, q, Bool.not_true, Bool.false_or] at h3
        have hl := isLoc_of h3
        rw [← G.sc] at hl
        have G' := G.gd
        cases e with
        | comp elt' tg k es ifs own =>
          simp only [chkE] at h2
          split at h2
          · rename_i t it fs
            simp only [Bool.and_eq_true] at h2
            obtain ⟨⟨⟨⟨⟨g1, g2⟩, g3⟩, g4⟩, g5⟩, g6⟩ := h2
            have it := snd_it Yk G' g3 (fun xs hx => sndL Yk G' K hx) (fun x hx => snd1 Yk G' K hx)
            exact snd_setLc G'.g.calm hN s1 hl sw it.1 (G'.blkOk (blkOk_by g5)) (by unfold ownP; simp [List.map_map, Function.comp_def]) (fun i hi => by simpa using List.all_eq_true.mp g6 i hi)
              (fun s H C cl fp => (sndTg (G'.blk s H C cl fp) g2).1) (fun s H C cl fp => sndTs Yk (G'.blk s H C cl fp) K g4) (fun s H C cl fp => (sndE Yk (G'.blk s H C cl fp) K g1).1) (noSet it.2)
          · cases h2
        | comp2 elt' t1 k1 e1 t2 k2 e2 ifs own =>
          simp only [chkE] at h2
          split at h2
          · rename_i t it t' it' fs
            simp only [Bool.and_eq_true] at h2
            obtain ⟨⟨⟨⟨⟨⟨⟨⟨g1, g2⟩, g3⟩, g4⟩, g5⟩, g6⟩, g7⟩, g8⟩, g9⟩ := h2
            have it1 := snd_it Yk G' g3 (fun xs hx => sndL Yk G' K hx) (fun x hx => snd1 Yk G' K hx)
            have it2 := fun (s : Shared) (H : Hp) (C : Addr) (cl : List (Str × Addr)) (fp : List Addr) => snd_it Yk (G'.blk (scope := sc) s H C cl fp) g5 (fun xs hx => sndL Yk (G'.blk (scope := sc) s H C cl fp) K hx) (fun x hx => snd1 Yk (G'.blk (scope := sc) s H C cl fp) K hx)
            exact snd_setLc2 G'.g.calm hN s1 hl sw it1.1 (G'.blkOk (blkOk_by g7)) (by unfold ownP; simp [List.map_map, Function.comp_def]) (fun i hi => by simpa using List.all_eq_true.mp g8 i hi) (fun i hi => by simpa using List.all_eq_true.mp g9 i hi)
              (fun s H C cl fp => (sndTg (G'.blk s H C cl fp) g2).1) (fun s H C cl fp => (it2 s H C cl fp).1) (fun s H C cl fp => (sndTg (G'.blk s H C cl fp) g4).1) (fun s H C cl fp => sndTs Yk (G'.blk s H C cl fp) K g6) (fun s H C cl fp => (sndE Yk (G'.blk s H C cl fp) K g1).1) (noSet it1.2) (fun env => noSet (env := env) (chkIt_ns g5))
          · cases h2
        | _ => simp only [chkE] at h2; cases h2
    | SetComp _ _ _ _ => cases h3
    | DictComp _ _ _ _ _ => cases h3
    | _ => cases hc
  · exact snd_set hN s1 s2 s3 (sndE Yk G.gd K h2).1 (swaps_no (by simpa using hc))
theorem aug_of {op : Bop} {o : Operator} (h : augOp op o = true) : ∃ g : Int → Int → Int, PIp X o (ipI g) ∧ ∀ a b z, augI op a b = some z → z = g a b := by
  cases op <;> cases o <;> first | (cases h; done) | skip
  · exact ⟨_, ip_add, fun a b z e => by simp only [augI, Option.some.injEq] at e; exact e.symm⟩
  · exact ⟨_, ip_sub, fun a b z e => by simp only [augI, Option.some.injEq] at e; exact e.symm⟩
theorem swSole {t x : Expr} {l : Nat} {env : Env} (h : (match t with | .Name _ _ => false | _ => true) = true) : swapsWithSole [t] x l env = pure false := by
  show swapsWith x (some t) l env = pure false
  by_cases hc : isCompX x = true
  · cases x <;> first | (cases hc; done) | (cases t <;> first | rfl | (cases h))
  · exact swaps_no (by simpa using hc)
mutual
theorem sndS (Yk : Gk Y) : ∀ {s : S} {n : Nat} {c : Cs} {K0 : XK} {X : Cx} {st : Stmt} {A : List Nat}, Gs Y n c K0 X → Fok Y n → chkS Y.nm s c st = true → (∀ i ∈ sets s, i ∈ A) → PS X st (LS Y.Z K0 A (evS Y.T Y.C s n))
  | .ex e, n, c, K0, X, st, A, G, K, h, hA => by
    simp only [chkS] at h
    split at h
    · simp only [Bool.and_eq_true, Bool.not_eq_true'] at h
      exact snd_ex (sndE Yk G.gd K h.2).1 (swaps_no h.1)
    · cases h
  | .ret e, n, c, K0, X, st, A, G, K, h, hA => by
    simp only [chkS] at h
    split at h
    · exact snd_ret (sndE Yk G.gd K h).1
    · cases h
  | .retN, n, c, K0, X, st, A, G, K, h, hA => by
    simp only [chkS] at h
    split at h
    · exact snd_retN
    · cases h
  | .set i e, n, c, K0, X, st, A, G, K, h, hA => by
    simp only [chkS] at h
    split at h
    · simp only [Bool.and_eq_true] at h
      obtain ⟨⟨h1, h2⟩, h3⟩ := h
      exact PS.more (snd_setAll Yk G K h1 h2 h3) fun j hj => hA j (by simpa [sets] using hj)
    · cases h
  | .setT ts e, n, c, K0, X, st, A, G, K, h, hA => by
    simp only [chkS] at h
    split at h
    · rename_i xs k p x pos
      simp only [Bool.and_eq_true, Bool.not_eq_true'] at h
      obtain ⟨⟨h1, h2⟩, h3⟩ := h
      have hg : PG X (.Tuple xs k p) (LGt Y.Z (.tp ts)) := (sndTg G.gd (t := .tp ts) (x := .Tuple xs k p) (by simp only [chkTg]; exact h1)).1
      refine PS.more (snd_setT (sndE Yk G.gd K h2).1 hg (swSole rfl) ?_ rfl) hA
      cases x <;> first | rfl | (cases h3)
    · cases h
  | .par is es, n, c, K0, X, st, A, G, K, h, hA => by
    simp only [chkS] at h
    split at h
    · simp only [Bool.and_eq_true, decide_eq_true_eq] at h
      obtain ⟨⟨⟨⟨h1, h2⟩, h3⟩, h4⟩, h5⟩ := h
      exact PS.more (snd_par Yk G K h1 h2 h3 h4 h5) hA
    · cases h
  | .setIx i k e, n, c, K0, X, st, A, G, K, h, hA => by
    simp only [chkS] at h
    split at h
    · simp only [Bool.and_eq_true, Bool.not_eq_true'] at h
      obtain ⟨⟨⟨h1, h2⟩, h3⟩, h4⟩ := h
      exact snd_setIx (by have := G.gd.g.hu; omega) (var_pe G.gd h1) (sndE Yk G.gd K h3).1 (sndE Yk G.gd K h2).1 h4 (swSole rfl)
    · cases h
  | .aug i op e, n, c, K0, X, st, A, G, K, h, hA => by
    simp only [chkS] at h
    split at h
    · simp only [Bool.and_eq_true] at h
      obtain ⟨⟨h1, h2⟩, h3⟩ := h
      obtain ⟨s1, s2, s3⟩ := sto_of G.gd h1
      obtain ⟨g, g1, g2⟩ := aug_of (X := X) h2
      exact PS.more (snd_aug g1 g2 (by rw [G.gd.g.N]; exact G.gd.g.nd) s1 s2 s3 (sndE Yk G.gd K h3).1) fun j hj => hA j (by simpa [sets] using hj)
    · cases h
  | .augIx i k op e, n, c, K0, X, st, A, G, K, h, hA => by
    simp only [chkS] at h
    cases h
  | .ite t a b, n, c, K0, X, st, A, G, K, h, hA => by
    simp only [chkS] at h
    split at h
    · simp only [Bool.and_eq_true] at h
      obtain ⟨⟨⟨h1, h2⟩, h3⟩, h4⟩ := h
      exact snd_if ((sndE Yk G.gd K h2).2 h1) (sndB Yk G K h3 fun i hi => hA i (by simp only [sets]; exact List.mem_append_left _ hi)) (sndB Yk G K h4 fun i hi => hA i (by simp only [sets]; exact List.mem_append_right _ hi))
    · cases h
  | .for_ tg k es b, n, c, K0, X, st, A, G, K, h, hA => by
    simp only [chkS] at h
    split at h
    · simp only [Bool.and_eq_true] at h
      obtain ⟨⟨h1, h2⟩, h3⟩ := h
      have it := snd_it Yk G.gd h2 (fun xs hx => sndL Yk G.gd K hx) (fun x hx => snd1 Yk G.gd K hx)
      exact PS.more (snd_for G.po G.gd.g.calm it.1 (sndTg G.gd h1).1 (sndB (A := setss b) Yk G K h3 fun i hi => hi) rfl (noSet it.2)) hA
    · cases h
  | .while_ t b, n, c, K0, X, st, A, G, K, h, hA => by
    simp only [chkS] at h
    split at h
    · simp only [Bool.and_eq_true] at h
      obtain ⟨⟨h1, h2⟩, h3⟩ := h
      exact snd_while G.po ((sndE Yk G.gd K h2).2 h1) (sndB Yk G K h3 fun i hi => hA i hi)
    · cases h
  | .raise k, n, c, K0, X, st, A, G, K, h, hA => by
    simp only [chkS] at h
    split at h
    · simp only [Bool.and_eq_true, Bool.not_eq_true'] at h
      obtain ⟨h1, h2, h3⟩ := h
      obtain ⟨C, e⟩ := Yk.exc k _ (nth_of h1)
      exact snd_raise G.gd.g.K G.gd.g.mg G.gd.g.calm G.tk e (G.gd.g.gl _ h2) (odd_no h3).1
    · cases h
  | .pass, n, c, K0, X, st, A, G, K, h, hA => by
    simp only [chkS] at h
    split at h
    · exact snd_pass
    · exact snd_doc
    · cases h
  | .brk, n, c, K0, X, st, A, G, K, h, hA => by
    simp only [chkS] at h
    split at h
    · exact snd_brk
    · cases h
  | .cont, n, c, K0, X, st, A, G, K, h, hA => by
    simp only [chkS] at h
    split at h
    · exact snd_cont
    · cases h
theorem sndB (Yk : Gk Y) : ∀ {ss : List S} {n : Nat} {c : Cs} {K0 : XK} {X : Cx} {sts : List Stmt} {A : List Nat}, Gs Y n c K0 X → Fok Y n → chkB Y.nm ss c sts = true → (∀ i ∈ setss ss, i ∈ A) → PSs X sts (LS Y.Z K0 A (evB Y.T Y.C ss n))
  | [], n, c, K0, X, sts, A, G, K, h, hA => by
    simp only [chkB] at h
    cases sts with
    | nil => exact snd_bnil
    | cons x xs => cases h
  | s :: ss, n, c, K0, X, sts, A, G, K, h, hA => by
    simp only [chkB] at h
    cases sts with
    | nil => cases h
    | cons x xs =>
      simp only [Bool.and_eq_true] at h
      exact snd_bcons (sndS Yk G K h.1 fun i hi => hA i (by simp only [setss]; exact List.mem_append_left _ hi)) (sndB Yk G K h.2 fun i hi => hA i (by simp only [setss]; exact List.mem_append_right _ hi))
end
end
end Ev
/-! Ev21: a def runs. -/
namespace Ev
open PySem PySem.Spec PyProof.Rows L2
section
variable {Z : Wo} {E : XK} {σ σ' : L2.St} {F F' : Fz} {H H' : Hp} {ρ ρ' ρ2 args r : Ev} {N : List Str} {vs : List V} {k : Nat}
theorem start_in {i : Nat} (h : i < vs.length) : (L2.start N vs)[i]? = (vs.map some)[i]? := by
  unfold L2.start
  rw [List.getElem?_append_left (by rw [List.length_map]; exact h)]
theorem slot_in {i : Nat} {w : W} (h : (args ++ List.replicate k none)[i]? = some (some w)) : i < args.length ∧ args[i]? = some (some w) := by
  rcases Nat.lt_or_ge i args.length with hl | hl
  · rw [List.getElem?_append_left hl] at h
    exact ⟨hl, h⟩
  · rw [List.getElem?_append_right hl] at h
    obtain ⟨h1, h2⟩ := List.getElem?_eq_some_iff.mp h
    rw [List.getElem_replicate] at h2
    cases h2
theorem own_start (hl : args.length = vs.length) (b : Addr) : Own (L2.start N vs) (args ++ List.replicate k none) b ↔ Own (vs.map some) args b := by
  constructor
  · rintro ⟨i, w, e, ho, es⟩
    obtain ⟨h1, h2⟩ := slot_in e
    rw [start_in (by omega)] at es
    exact own_of h2 ho es
  · rintro ⟨i, w, e, ho, es⟩
    have h1 := (List.getElem?_eq_some_iff.mp e).1
    refine ⟨i, w, by rw [List.getElem?_append_left h1]; exact e, ho, ?_⟩
    rw [start_in (by omega)]
    exact es
/-- the state at a def's entry -/
theorem start_ok (s : Sta Z F H (vs.map some) args) (hl : args.length = vs.length) (hN : N.length = args.length + k) : Sta Z F H (L2.start N vs) (args ++ List.replicate k none) := by
  refine ⟨?_, fun i w e => ?_, fun i j wi wj a ei ej hi hj si sj => ?_, s.tabs, s.ft⟩
  · unfold L2.start
    rw [List.length_append, List.length_append, List.length_map, List.length_replicate, List.length_replicate]
    omega
  · obtain ⟨h1, h2⟩ := slot_in e
    rw [start_in (by omega)]
    exact s.rep i w h2
  · obtain ⟨h1, h2⟩ := slot_in ei
    obtain ⟨h3, h4⟩ := slot_in ej
    rw [start_in (by omega)] at si sj
    exact s.inj _ _ _ _ _ h2 h4 hi hj si sj
/-- what the caller gets back of its slots -/
theorem outs_ok : ∀ {args ρ r : Ev}, outs args.length args ρ = some r → r.length = args.length ∧ (∀ (i : Nat) (w : W), r[i]? = some (some w) → isP w = true ∧ ρ[i]? = some (some w) ∧ ∃ w0, args[i]? = some (some w0) ∧ isP w0 = true) ∧
    ∀ (i : Nat) (w0 : W), args[i]? = some (some w0) → isP w0 = true → ∃ w, r[i]? = some (some w)
  | [], ρ, r, h => by
    simp only [List.length_nil, outs, Option.some.injEq] at h
    subst h
    exact ⟨rfl, fun i w e => by simp at e, fun i w0 e => by simp at e⟩
  | a :: args, ρ, r, h => by
    cases ρ with
    | nil => simp [outs] at h
    | cons u ρ =>
      simp only [List.length_cons, outs] at h
      obtain ⟨w, e1, h⟩ := Option.bind_eq_some_iff.mp h
      obtain ⟨r', e2, rfl⟩ := Option.map_eq_some_iff.mp h
      obtain ⟨i1, i2, i3⟩ := outs_ok e2
      -- the first
      have hd : (∀ x, w = some x → isP x = true ∧ u = some x ∧ ∃ w0, a = some w0 ∧ isP w0 = true) ∧ ∀ w0, a = some w0 → isP w0 = true → ∃ x, w = some x := by
        split at e1
        · split at e1
          · cases e1
            exact ⟨fun x e => by cases e; exact ⟨rfl, rfl, _, rfl, rfl⟩, fun w0 e _ => ⟨_, rfl⟩⟩
          · cases e1
        · split at e1
          · split at e1
            · rename_i ht
              have ht := eq_of_beq ht
              subst ht
              cases e1
              exact ⟨fun x e => by cases e; exact ⟨rfl, rfl, _, rfl, rfl⟩, fun w0 e _ => ⟨_, rfl⟩⟩
            · cases e1
          · cases e1
        · rename_i n1 n2
          cases e1
          refine ⟨fun x e => (by cases e), fun w0 e hp => ?_⟩
          subst e
          cases w0 with
          | d x => cases hp
          | F f => cases hp
          | Z kvs => cases hp
          | L p xs =>
            have hp : p = true := hp
            subst hp
            exact (n1 _ rfl).elim
          | M p t kvs =>
            have hp : p = true := hp
            subst hp
            exact (n2 _ _ rfl).elim
      refine ⟨by rw [List.length_cons, List.length_cons, i1], fun i x e => ?_, fun i w0 e hp => ?_⟩
      · cases i with
        | zero =>
          have e : w = some x := by simpa using e
          obtain ⟨h1, h2, w0, h3, h4⟩ := hd.1 x e
          exact ⟨h1, by rw [h2]; rfl, w0, by rw [h3]; rfl, h4⟩
        | succ i => simpa using i2 i x (by simpa using e)
      · cases i with
        | zero =>
          have e : a = some w0 := by simpa using e
          obtain ⟨x, hx⟩ := hd.2 w0 e hp
          exact ⟨x, by rw [hx]; rfl⟩
        | succ i => simpa using i3 i w0 (by simpa using e) hp
/-- the way back to the caller's slots -/
theorem outs_path (s : Sta Z F H (vs.map some) args) (hl : args.length = vs.length) (p : Path Z (L2.start N vs) F H (args ++ List.replicate k none) σ' F' H' ρ') (hs : ∀ (i : Nat) (w : W), ρ2[i]? = some (some w) → ρ'[i]? = some (some w)) (e : outs args.length args ρ2 = some r) :
    Path Z (vs.map some) F H args (vs.map some) F' H' r ∧ (∀ b, Own (vs.map some) r b → Own σ' ρ2 b) ∧
      ∀ (i : Nat) (w : W), r[i]? = some (some w) → isP w = true ∧ ρ'[i]? = some (some w) ∧ σ'[i]? = (vs.map some)[i]? := by
  obtain ⟨o1, o2, o3⟩ := outs_ok e
  have key : ∀ (i : Nat) (w : W), r[i]? = some (some w) → isP w = true ∧ ρ'[i]? = some (some w) ∧ σ'[i]? = (vs.map some)[i]? := fun i w ei => by
    obtain ⟨h1, h2, w0, h3, _⟩ := o2 i w ei
    have h4 := hs i w h2
    obtain ⟨_, h5⟩ := p.pp i w h4 h1
    have h6 := (List.getElem?_eq_some_iff.mp h3).1
    rw [start_in (by omega)] at h5
    exact ⟨h1, h4, h5⟩
  have own' : ∀ b, Own (vs.map some) r b → Own σ' ρ' b := fun b ⟨i, w, ei, ho, es⟩ => by
    obtain ⟨_, h2, h3⟩ := key i w ei
    rw [← h3] at es
    exact own_of h2 ho es
  refine ⟨⟨⟨by rw [o1, List.length_map, hl], fun i w ei => ?_, fun i j wi wj a ei ej hi hj si sj => ?_, p.st.tabs, p.st.ft⟩, ⟨fun b o eb nb t => p.sp.keep b o eb (fun z => nb ((own_start hl b).mp z)) t, p.sp.there, p.sp.fin, fun b f => ?_⟩, fun b ob => ?_, fun i w ei hp => ?_⟩, fun b ⟨i, w, ei, ho, es⟩ => ?_, key⟩
  · obtain ⟨_, h2, h3⟩ := key i w ei
    rw [← h3]
    exact p.st.rep i w h2
  · obtain ⟨_, h2, h3⟩ := key i wi ei
    obtain ⟨_, h4, h5⟩ := key j wj ej
    rw [← h3] at si
    rw [← h5] at sj
    exact p.st.inj _ _ _ _ _ h2 h4 hi hj si sj
  · rcases p.sp.fout b f with z | z | z
    · exact .inl z
    · exact .inr (.inl z)
    · exact .inr (.inr ((own_start hl b).mp z))
  · rcases p.sub b (own' b ob) with z | z
    · exact .inl ((own_start hl b).mp z)
    · exact .inr z
  · obtain ⟨_, _, w0, h3, h4⟩ := o2 i w ei
    exact ⟨⟨w0, h3, h4⟩, rfl⟩
  · obtain ⟨_, h2, _⟩ := o2 i w ei
    obtain ⟨_, _, h3⟩ := key i w ei
    rw [← h3] at es
    exact own_of h2 ho es
end
end Ev
/-! Ev22: each def keeps its promise, at each level. -/
namespace Ev
open PySem PySem.Spec PyProof.Rows L2
/-- the same world, other calls -/
def Gw.to (Y : Gw) (C : Calls) : Gw := { Y with C := C }
theorem Gk.to {Y : Gw} (h : Gk Y) (C : Calls) : Gk (Y.to C) :=
  ⟨⟨h.ok.st, h.ok.sts, h.ok.blt, h.ok.con⟩, h.ar, fun c x e => by
    obtain ⟨D, q⟩ := h.exc c x e
    exact ⟨D, q.cls, q.base, q.mg, q.kp, q.sub, q.ty⟩, fun x e => ⟨(h.tol x e).ex⟩, h.fa, h.f1⟩
/-- a def of the text -/
structure DefAt (Y : Gw) (f : Nat) (x : Str) (d : Def) (N ps : List Str) (st : Stmt) (lam : Bool) : Prop where
  ex : ∃ (g : Addr) (oc : Value) (od : Option Addr) (dV kV doc pm : Value) (an : Option Addr) (cdv ct : Value) (osl : Array (Option Value)), Y.mg x = some (.ref g) ∧ PySem.W.keepIn Y.Z.K (.ref g) = true ∧
    Y.Z.K.lookup g = some ⟨oc, od, .func (PySem.W.fnOf x x (defArgs st) (defBody st) (defScope st) dV kV doc pm an cdv ct), osl⟩ ∧ PySem.W.codeIn Y.Z.K cdv x = true ∧
    L2.Binds Y.Z.K (PySem.W.fnOf x x (defArgs st) (defBody st) (defScope st) dV kV doc pm an cdv ct) ps [] ∧
    (lam = true → ∃ c P, cdv = .ref c ∧ LamX.TabB Y.base Y.mg c P ∧ (P, (x ++ ".<locals>.") ++ "<lambda>") ∈ Y.Z.TT ∧ ∀ p ∈ Y.Z.TT, p.1 = P → p.2 = (x ++ ".<locals>.") ++ "<lambda>")
  sc : FnScope N ps (defScope st)
  np : ps.length = d.np
  nl : N.length = d.np + d.nl
  ar : Y.ar f = d.np
  chk : chkB Y.nm d.body ⟨N, defScope st, lam⟩ (defBody st) = true
/-- a def's promise, by its body -/
theorem fnU_of {g : Bool} {CX : CXT} {P : Program} {w : World} {K : PySem.W.Frag} {mg : Str → Option Value} {base : Heap} {k : Nat} {f : Addr} {name qual : Str} {params : Arguments} {body : List Stmt} {scope : Scope} {dV kV doc pm cdv ct oc : Value} {an od : Option Addr} {osl : Array (Option Value)} {N ps : List Str} {sp : Sp}
    (lk : K.lookup f = some ⟨oc, od, .func (PySem.W.fnOf name qual params body scope dV kV doc pm an cdv ct), osl⟩) (hcd : PySem.W.codeIn K cdv qual = true) (S : FnScope N ps scope) (len : ∀ vs H Q E, sp vs H Q E → vs.length = ps.length)
    (hbody : ∀ (A : Around) (outer : List Env) (s : Shared) (H : Hp) (vs : List V) (Q : VK) (E : XK), (g = true → A.guards = some []) → Room k (A.deeper (envOfC qual scope s.heap.objs.size f cdv)) → sp vs H Q E →
      ∃ t, PSs (cxOf CX P w K mg base N qual scope f cdv A outer s H E) body t ∧ t { nx := fun _ H' => Q .non H', rt := Q } (start N vs) H) : FnU g P w K mg base CX (k + 1) f (PySem.W.fnOf name qual params body scope dV kV doc pm an cdv ct) ps sp := by
  constructor
  · exact len
  intro A outer s H args us vs Q E gd room e0 bd rv hsp
  have stay : ∀ b o, base.get? b = some o → s.heap.get? b = some o := fun b o q => (e0.bs b o q).1
  have inK := e0.mod.kin.keeps stay
  apply codeAny_call_function room.depth (inK _ _ lk) rfl S.co S.gen rfl (PySem.W.codeRec_of inK hcd)
  apply bd
  apply wpAny_newFunctionEnv_cells S.kind
  · rintro ⟨y, u⟩ hy
    have hp := (List.of_mem_zip hy).1
    cases S.par y hp with
    | inl q => exact .inl q
    | inr q => exact .inr ⟨q, PySem.W.cellsFrom_some _ _ _ (.inl q)⟩
  rintro env rfl s1 x
  constructor
  · exact (e0.mod.nolimit.keeps stay).keeps x.toInCall.keep
  apply codeAny_func
  obtain ⟨t, ht, q⟩ := hbody A outer s H vs Q E gd (room.deeper _) hsp
  have I0 := inv_start (CX := CX) (E := E) S room.hd e0 (len _ _ _ _ hsp) rv x
  apply wpAny_mono (ht.run [] s1 _ H _ I0 q)
  · intro fl s2 z
    match fl, z with
    | .ret u, ⟨v, _, H2, J, r, z⟩ => exact ⟨v, H2, J.os, J.bare, J.base, J.hok, r, z⟩
    | .next, ⟨_, H2, J, z⟩ => exact ⟨V.non, H2, J.os, J.bare, J.base, J.hok, rfl, z⟩
    | .brk, ⟨_, _, _, z⟩ => exact z.elim
    | .cont, ⟨_, _, _, z⟩ => exact z.elim
  · exact fun _ _ z => z
section
variable {Y : Gw}
theorem give_ok {Z : Wo} {σ' : L2.St} {F' : Fz} {H' : Hp} {ρ' ρ2 : Ev} {o o2 : O} (h : give ρ' o = some (o2, ρ2)) : (∀ (i : Nat) (w : W), ρ2[i]? = some (some w) → ρ'[i]? = some (some w)) ∧ ((o2 = o ∧ isBor o = false ∧ ρ2 = ρ') ∨
    ∃ i, o = .bor i ∧ ρ2 = ρ'.set i none ∧ ((∃ xs, o2 = .L xs ∧ ρ'[i]? = some (some (.L false xs))) ∨ ∃ t kvs, o2 = .M t kvs ∧ ρ'[i]? = some (some (.M false t kvs)))) := by
  have off : ∀ i (j : Nat) (w : W), (ρ'.set i none)[j]? = some (some w) → ρ'[j]? = some (some w) := fun i j w e => by
    rcases getset e with ⟨_, z, _⟩ | ⟨_, z⟩
    · cases z
    · exact z
  cases o with
  | d x =>
    simp only [give, Option.some.injEq, Prod.mk.injEq] at h
    obtain ⟨rfl, rfl⟩ := h
    exact ⟨fun _ _ e => e, .inl ⟨rfl, rfl, rfl⟩⟩
  | L x =>
    simp only [give, Option.some.injEq, Prod.mk.injEq] at h
    obtain ⟨rfl, rfl⟩ := h
    exact ⟨fun _ _ e => e, .inl ⟨rfl, rfl, rfl⟩⟩
  | M t x =>
    simp only [give, Option.some.injEq, Prod.mk.injEq] at h
    obtain ⟨rfl, rfl⟩ := h
    exact ⟨fun _ _ e => e, .inl ⟨rfl, rfl, rfl⟩⟩
  | F f => simp only [give] at h; cases h
  | Z kvs => simp only [give] at h; cases h
  | bor i =>
    simp only [give] at h
    split at h
    · rename_i xs e
      simp only [Option.some.injEq, Prod.mk.injEq] at h
      obtain ⟨rfl, rfl⟩ := h
      exact ⟨off i, .inr ⟨i, rfl, rfl, .inl ⟨xs, rfl, e⟩⟩⟩
    · rename_i t kvs e
      simp only [Option.some.injEq, Prod.mk.injEq] at h
      obtain ⟨rfl, rfl⟩ := h
      exact ⟨off i, .inr ⟨i, rfl, rfl, .inr ⟨t, kvs, rfl, e⟩⟩⟩
    · cases h
theorem fnD {f : Nat} {x : Str} {d : Def} {N ps : List Str} {st : Stmt} {lam : Bool} (D : DefAt Y f x d N ps st lam) :
    ∃ (g : Addr) (fd : FuncData), Y.mg x = some (.ref g) ∧ PySem.W.keepIn Y.Z.K (.ref g) = true ∧ L2.Binds Y.Z.K fd ps [] ∧ (∃ oc od osl, Y.Z.K.lookup g = some ⟨oc, od, .func fd, osl⟩) ∧ ∀ (C1 C2 : Calls) (n : Nat), Gk (Y.to C1) → Fok (Y.to C1) n → (∀ args, C2 (n + 1) f args = runD Y.T C1 d n args) →
      FnU Y.nm.gd Y.P Y.w Y.Z.K Y.mg Y.base (L2.CX Y.P Y.w) (n + 1) g fd ps (spF (Y.to C2) (n + 1) f) := by
  obtain ⟨g, oc, od, dV, kV, doc, pm, an, cdv, ct, osl, hm, hk, lk, hcd, hb, hl⟩ := D.ex
  refine ⟨g, _, hm, hk, hb, ⟨_, _, _, lk⟩, fun C1 C2 n Yk K hC => fnU_of (N := N) lk hcd D.sc (fun vs H Q E h => ?_) fun A outer s H vs Q E hgd hr hsp => ?_⟩
  · obtain ⟨F, args, h1, _⟩ := h
    rw [h1, D.np]
    exact D.ar
  obtain ⟨F, args, h1, h2, h3, h4, sta, post⟩ := hsp
  have e1 : args.length = d.np := by rw [h2, h1]; exact D.ar
  have e2 : (Y.to C2).C (n + 1) f args = runD Y.T C1 d n args := hC args
  rw [e2] at post
  -- the context
  have hP := takes_of (X := cxOf (L2.CX Y.P Y.w) Y.P Y.w Y.Z.K Y.mg Y.base N x (defScope st) g cdv A outer s H E) (E := E) rfl rfl rfl rfl
  have gs : Gs (Y.to C1) n ⟨N, defScope st, lam⟩ E (cxOf (L2.CX Y.P Y.w) Y.P Y.w Y.Z.K Y.mg Y.base N x (defScope st) g cdv A outer s H E) :=
    ⟨⟨⟨rfl, rfl, rfl, rfl, rfl, rfl, D.sc.nd, fun y h => vis_of h, fun y h => ⟨loc_of h, .inl rfl⟩, fun y h => gl_of h, rfl, hr, passes_call hP fun _ _ _ _ h => h, hgd⟩, fun y h => h, fun h => by
      obtain ⟨c, P, q1, q2, q3, q4⟩ := hl h
      exact ⟨c, P, q2, q1, q3, q4⟩⟩, rfl, D.sc.kind, L2.passes_of rfl, hP⟩
  refine ⟨LS Y.Z E (setss d.body) (evB Y.T C1 d.body n), sndB Yk gs K D.chk fun i h => h, F, args ++ List.replicate d.nl none, start_ok sta h2 (by rw [D.nl, e1]), ?_⟩
  unfold runD at post
  rw [if_pos e1] at post
  cases ev : evB Y.T C1 d.body n (args ++ List.replicate d.nl none) with
  | stuck => rw [ev] at post; exact post.elim
  | exc c ρ' =>
    rw [ev] at post
    simp only at post
    cases eo : outs args.length args ρ' with
    | none => rw [eo] at post; exact post.elim
    | some r =>
      rw [eo] at post
      intro σ' F' H' p
      exact post F' H' (outs_path sta h2 p (fun _ _ e => e) eo).1
  | ok fl ρ' =>
    rw [ev] at post
    intro σ' F' H' p _
    cases fl with
    | brk => exact post.elim
    | cont => exact post.elim
    | nx =>
      simp only at post
      cases eo : outs args.length args ρ' with
      | none => rw [eo] at post; exact post.elim
      | some r =>
        rw [eo] at post
        exact post .non F' H' (outs_path sta h2 p (fun _ _ e => e) eo).1 ⟨by show Rp Y.Z F' H' .non .non; simp only [Rp], fun z => by cases z⟩
    | ret o =>
      simp only at post
      intro v ov fr
      cases eg : give ρ' o with
      | none => rw [eg] at post; exact post.elim
      | some q =>
        obtain ⟨o2, ρ2⟩ := q
        rw [eg] at post
        simp only [R.opt_some] at post
        cases eo : outs args.length args ρ2 with
        | none => rw [eo] at post; exact post.elim
        | some r =>
          rw [eo] at post
          simp only [R.opt_some] at post
          obtain ⟨g1, g2⟩ := give_ok (Z := Y.Z) (σ' := σ') (F' := F') (H' := H') eg
          obtain ⟨p2, ow2, ky⟩ := outs_path sta h2 p g1 eo
          refine post v F' H' p2 ?_
          rcases g2 with ⟨rfl, nb, rfl⟩ | ⟨i, rfl, rfl, g2⟩
          · refine ⟨?_, fr⟩
            cases o2 with
            | d y => exact ov
            | F f => exact ov
            | Z kvs => exact ov
            | L xs =>
              obtain ⟨a, ws, rfl, k1, k2, k3, k4⟩ := ov
              exact ⟨a, ws, rfl, k1, k2, k3, fun z => k4 (ow2 a z)⟩
            | M t kvs =>
              obtain ⟨a, rfl, k1, k3, k4⟩ := ov
              exact ⟨a, rfl, k1, k3, fun z => k4 (ow2 a z)⟩
            | bor i => cases nb
          · have sv : σ'[i]? = some (some v) := ov
            -- the slot's own list: the caller has none of it
            have no : ∀ (w : W) (a : Addr), ρ'[i]? = some (some w) → isOwn w = true → isP w = false → v = .ref a → ¬ Own (vs.map some) r a ∧ NoO (H a) := fun w a ew ho hp ea => by
              subst ea
              refine ⟨fun ⟨j, u, ej, hj, sj⟩ => ?_, ?_⟩
              · obtain ⟨k1, k2, k3⟩ := ky j u ej
                rw [← k3] at sj
                have : i = j := p.st.inj _ _ _ _ _ ew k2 ho hj sv sj
                subst this
                rw [ew] at k2
                cases k2
                rw [hp] at k1
                cases k1
              · rcases p.sub a (own_of ew ho sv) with z | z
                · obtain ⟨j, u, ej, hj, sj⟩ := (own_start h2 a).mp z
                  obtain ⟨_, _, o3⟩ := outs_ok eo
                  obtain ⟨w', ew'⟩ := o3 j u ej (h4 j u ej hj)
                  obtain ⟨k1, k2, k3⟩ := ky j w' ew'
                  rw [← k3] at sj
                  have hw' : isOwn w' = true := by cases w' <;> first | rfl | cases k1
                  have : i = j := p.st.inj _ _ _ _ _ ew k2 ho hw' sv sj
                  subst this
                  rw [ew] at k2
                  cases k2
                  rw [hp] at k1
                  cases k1
                · exact z
            rcases g2 with ⟨xs, rfl, ei⟩ | ⟨t, kvs, rfl, ei⟩
            · obtain ⟨v', ev', a, ws, e4, k1, k2, k3⟩ := p.st.rep i _ ei
              rw [sv] at ev'
              cases (Option.some.inj (Option.some.inj ev'))
              obtain ⟨n1, n2⟩ := no _ a ei rfl rfl e4
              exact ⟨⟨a, ws, e4, k1, k2, k3, n1⟩, fun _ b eb => by rw [e4] at eb; cases eb; exact n2⟩
            · obtain ⟨v', ev', a, e4, k1, k3⟩ := p.st.rep i _ ei
              rw [sv] at ev'
              cases (Option.some.inj (Option.some.inj ev'))
              obtain ⟨n1, n2⟩ := no _ a ei rfl rfl e4
              exact ⟨⟨a, e4, k1, k3, n1⟩, fun _ b eb => by rw [e4] at eb; cases eb; exact n2⟩
theorem fok_mono {C1 C2 : Calls} {n m : Nat} (K : Fok (Y.to C1) n) (h : m ≤ n) (hc : ∀ k, k ≤ m → C1 k = C2 k) : Fok (Y.to C2) m := ⟨fun f x e => by
  obtain ⟨a, fd, ps, h1, h2, h3, h4⟩ := K.fn f x e
  refine ⟨a, fd, ps, h1, h2, h3, fun k hk => (h4 k (by omega)).imp fun vs H Q E hq => ?_⟩
  obtain ⟨F, args, q1, q2, q3, q4, q5, q6⟩ := hq
  refine ⟨F, args, q1, q2, q3, q4, q5, ?_⟩
  have e : (Y.to C1).C k f args = (Y.to C2).C k f args := congrFun (congrFun (hc k hk) f) args
  rw [e]
  exact q6⟩
/-- all defs, at each level -/
theorem levels {ds : List Def} (Yk : Gk Y) (defs : ∀ (f : Nat) (x : Str), Y.nm.fns[f]? = some x → ∃ d N ps st lam, ds[f]? = some d ∧ DefAt Y f x d N ps st lam) : ∀ n, Fok (Y.to (calls Y.T ds n)) n := by
  intro n
  induction n with
  | zero =>
    refine ⟨fun f x e => ?_⟩
    obtain ⟨d, N, ps, st, lam, hd, D⟩ := defs f x e
    obtain ⟨g, fd, h1, h2, h3, _, h4⟩ := fnD D
    refine ⟨g, fd, ps, h1, h2, h3, fun k hk => ?_⟩
    have e0 : k = 0 := by omega
    subst e0
    have no : ∀ vs H Q E, ¬ spF (Y.to (calls Y.T ds 0)) 0 f vs H Q E := fun vs H Q E ⟨F, args, _, _, _, _, _, post⟩ => post
    exact ⟨fun vs H Q E h => (no vs H Q E h).elim, fun A outer s H args us vs Q E _ _ _ _ _ h => (no vs H Q E h).elim⟩
  | succ n ih =>
    refine ⟨fun f x e => ?_⟩
    obtain ⟨d, N, ps, st, lam, hd, D⟩ := defs f x e
    obtain ⟨g, fd, h1, h2, h3, _, h4⟩ := fnD D
    refine ⟨g, fd, ps, h1, h2, h3, fun k hk => ?_⟩
    cases k with
    | zero =>
      have no : ∀ vs H Q E, ¬ spF (Y.to (calls Y.T ds (n + 1))) 0 f vs H Q E := fun vs H Q E ⟨F, args, _, _, _, _, _, post⟩ => by
        have e0 : (Y.to (calls Y.T ds (n + 1))).C 0 f args = .stuck := by
          show calls Y.T ds (n + 1) 0 f args = .stuck
          rw [calls_le Y.T ds (Nat.zero_le _)] <;> rfl
        rw [e0] at post
        exact post
      exact ⟨fun vs H Q E h => (no vs H Q E h).elim, fun A outer s H args us vs Q E _ _ _ _ _ h => (no vs H Q E h).elim⟩
    | succ k =>
      have kn : k ≤ n := by omega
      have K : Fok (Y.to (calls Y.T ds k)) k := fok_mono ih kn fun j hj => by rw [calls_le Y.T ds (by omega), calls_le Y.T ds hj]
      refine h4 (calls Y.T ds k) (calls Y.T ds (n + 1)) k (Yk.to _) K fun args => ?_
      rw [calls_le Y.T ds hk]
      show (if k + 1 = k + 1 then _ else _) = _
      rw [if_pos rfl, hd]
end
end Ev
/-! Ev23: a law's data; what its head must tell; the law's end. -/
namespace Ev
open PySem PySem.Spec PyProof.Rows L2
/-- a def: its name, its form, its slots' names, its parameters, its text, whether it makes lambdas -/
structure Ld where
  name : Str
  d : Def
  N : List Str
  ps : List Str
  st : Stmt
  lam : Bool
/-- a law: defs, whole numbers, errors (and which is out of range), texts, the reader, the two words, told -/
structure LawD where
  es : List Ld
  cons : List (Str × Int)
  exs : List (Str × Bool)
  txt : List Str
  rd : Nat
  kr : Nat
  ko : Nat
  told : Option (Str × Stmt)
  gd : Bool := false
def LawD.nm (L : LawD) : Nm := ⟨L.es.map (·.name), L.cons.map (·.1), L.txt, L.exs.map (·.1), L.es.map (·.ps.length), L.told.map (·.1), L.gd⟩
def LawD.T (L : LawD) : Top := ⟨L.cons.map fun p => .int p.2, L.rd, fun c => if ((L.exs[c]?).map (·.2)).getD false then L.kr else L.ko, L.exs.length⟩
def LawD.ds (L : LawD) : List Def := L.es.map (·.d)
def LawD.fa (L : LawD) : List He.Fa := L.es.map (fun e => He.Fa.glo e.name) ++ (L.cons.map (fun p => He.Fa.int p.1 p.2) ++ (bltN.map He.Fa.free ++ (L.exs.map (fun p => He.Fa.glo p.1) ++ (L.exs.map (fun p => He.Fa.exc p.1) ++ ([He.Fa.glo "EverError", He.Fa.glo "OutOfRange"] ++ (match L.told with | some p => [He.Fa.glo p.1] | none => []))))))
def defD (x : Str) (st : Stmt) : He.DefD := ⟨(x, none), x, x, defArgs st, defBody st, defScope st, [], []⟩
def LawD.fn (L : LawD) : List He.DefD := L.es.map (fun e => defD e.name e.st) ++ (match L.told with | some p => [defD p.1 p.2] | none => [])
def LawD.tf (L : LawD) : List He.Defn := (L.es.filter (·.lam)).map fun e => (e.name, none)
/-- an error's class, as told asks it -/
def excB (K : PySem.W.Frag) (x : Str) (b : Bool) : Bool :=
  He.eqO (PySem.W.findIn K (.ref (He.ga K x)) "__getattribute__") (some (some (.builtin "BaseException.__getattribute__"))) && (He.eqO (PySem.W.findIn K (.ref (He.ga K x)) "__getattr__") (some none) && (PySem.W.hasDictIn K (He.ga K x) &&
    (He.eqO (PySem.W.findIn K (.ref (He.ga K x)) "__class__") (some (some (.builtin "object.__class__"))) && (He.eqO (PySem.W.specialIn K (.builtin "object.__class__") "__get__") (some (some (.builtin "getset_descriptor.__get__"))) &&
      (decide (PySem.W.takesIn K (.builtin "object.__class__") = some true) && (decide (PySem.W.mroIn K (He.ga K x) (.type "object") = some true) &&
        (decide (PySem.W.exmOne K (.ref (He.ga K x)) (.ref (He.ga K "EverError")) = some true) && decide (PySem.W.kitOne K (.ref (He.ga K x)) (.ref (He.ga K "OutOfRange")) = some b))))))))
def LawD.ex (L : LawD) (K : PySem.W.Frag) : Bool := L.exs.all (fun p => excB K p.1 p.2) && decide ((L.tf.map fun p => (He.cT K p).2).Nodup)
/-- what is asked of a def's text -/
structure LdOk (nm : Nm) (e : Ld) : Prop where
  sc : FnScope e.N e.ps (defScope e.st)
  np : e.ps.length = e.d.np
  nl : e.N.length = e.d.np + e.d.nl
  chk : chkB nm e.d.body ⟨e.N, defScope e.st, e.lam⟩ (defBody e.st) = true
  bind : ∀ (kV doc pm : Value) (an : Option Addr) (cdv ct : Value) (us : List Value), us.length = e.ps.length → bindArgs (PySem.W.fnOf e.name e.name (defArgs e.st) (defBody e.st) (defScope e.st) .none kV doc pm an cdv ct) ⟨us, []⟩ = pure (e.ps.zip us)
/-- what is asked of told's text -/
structure TolOk (L : LawD) (x : Str) (st : Stmt) : Prop where
  sc : FnScope ["call", "e"] ["call"] (defScope st)
  bind : ∀ (kV doc pm : Value) (an : Option Addr) (cdv ct : Value) (us : List Value), us.length = (["call"] : List Str).length → bindArgs (PySem.W.fnOf x x (defArgs st) (defBody st) (defScope st) .none kV doc pm an cdv ct) ⟨us, []⟩ = pure ((["call"] : List Str).zip us)
  body : ∃ (rd ev oor r o : Str) (j k ja jb jc jd : Nat) (p1 p2 p3 p4 p5 p6 p7 p8 p9 q1 q2 q3 q4 q5 q6 q7 q8 q9 q10 q11 : Pos), defBody st = toldBody rd ev oor r o j k ja jb jc jd p1 p2 p3 p4 p5 p6 p7 p8 p9 q1 q2 q3 q4 q5 q6 q7 q8 q9 q10 q11 ∧
    (defScope st).names.lookup ("e" : Str) = some .local ∧ (defScope st).names.lookup rd = some .globalImplicit ∧ (defScope st).names.lookup ev = some .globalImplicit ∧ (defScope st).names.lookup oor = some .globalImplicit ∧ (defScope st).names.lookup ("isinstance" : Str) = some .globalImplicit ∧
    L.nm.fns[L.rd]? = some rd ∧ odd rd = false ∧ ev = ("EverError" : Str) ∧ oor = ("OutOfRange" : Str) ∧ L.txt[L.kr]? = some r ∧ L.txt[L.ko]? = some o ∧ L.nm.ars.getD L.rd 0 = 1
section
variable {L : LawD} {K : PySem.W.Frag} {h : Heap} {mg : Str → Option Value} {w : World} {P : Program} {base : Heap} {ts : List He.Tab}
/-- the world of the law -/
def LawD.Y (L : LawD) (P : Program) (w : World) (K : PySem.W.Frag) (mg : Str → Option Value) (base : Heap) : Gw :=
  { Z := ⟨K, L.txt, L.tf.map fun p => ((He.cT K p).2, (p.1 ++ ".<locals>.") ++ "<lambda>"), fun c => .ref (He.ga K (((L.exs[c]?).map (·.1)).getD ⟨#[]⟩)), fun f => He.ga K (((L.es[f]?).map (·.name)).getD ⟨#[]⟩), fun f => decide (f < L.es.length) && decide (L.nm.ars.getD f 0 = 1)⟩, P := P, w := w, mg := mg, base := base, T := L.T, C := fun _ _ _ => .stuck, nm := L.nm, ar := fun f => L.nm.ars.getD f 0 }
theorem says_glo (X : K.In h) (G : h.Ns mainGlobals mg) (c : He.SaysX L.fa L.fn ts L.tf L.ex w h K) {x : Str} (hx : He.Fa.glo x ∈ L.fa) : mg x = some (.ref (He.ga K x)) :=
  He.glo_ok X G (He.SaysD.facts (congrArg (fun z : He.AlT => z.1) c.t) hx)
theorem fun_of (c : He.SaysX L.fa L.fn ts L.tf L.ex w h K) {x : Str} {st : Stmt} (hx : defD x st ∈ L.fn) : ∃ fd, FunD K x x (defArgs st) (defBody st) (defScope st) [] [] (He.ga K x) fd :=
  He.SaysD.defs (congrArg (fun z : He.AlT => z.1) c.t) hx
theorem law_gk (X : K.In h) (G : h.Ns mainGlobals mg) (c : He.SaysX L.fa L.fn ts L.tf L.ex w h K) (tok : L.txt.Nodup ∧ (∀ x ∈ L.txt, PyData.canLay0 (.str x) = true ∧ x.length ≤ 1000) ∧ L.txt.headD "" = "") (tol : ∀ x st, L.told = some (x, st) → TolOk L x st) : Gk (L.Y P w K mg base) := by
  have sd : He.SaysD L.fa L.fn K := congrArg (fun z : He.AlT => z.1) c.t
  have exs : ∀ p ∈ L.exs, excB K p.1 p.2 = true := fun p hp => List.all_eq_true.mp (Bool.and_eq_true_iff.mp c.more).1 p hp
  have inE : ∀ p ∈ L.exs, He.Fa.glo p.1 ∈ L.fa ∧ He.Fa.exc p.1 ∈ L.fa := fun p hp => by
    unfold LawD.fa
    simp only [List.mem_append, List.mem_map]
    exact ⟨.inr (.inr (.inr (.inl ⟨p, hp, rfl⟩))), .inr (.inr (.inr (.inr (.inl ⟨p, hp, rfl⟩))))⟩
  have inC : ∀ p ∈ L.cons, He.Fa.int p.1 p.2 ∈ L.fa := fun p hp => by
    unfold LawD.fa
    simp only [List.mem_append, List.mem_map]
    exact .inr (.inl ⟨p, hp, rfl⟩)
  have inB : ∀ x ∈ bltN, He.Fa.free x ∈ L.fa := fun x hx => by
    unfold LawD.fa
    simp only [List.mem_append, List.mem_map]
    exact .inr (.inr (.inl ⟨x, hx, rfl⟩))
  have inEv : He.Fa.glo "EverError" ∈ L.fa ∧ He.Fa.glo "OutOfRange" ∈ L.fa := by
    unfold LawD.fa
    simp only [List.mem_append, List.mem_map, List.mem_cons]
    exact ⟨.inr (.inr (.inr (.inr (.inr (.inl (.inl trivial)))))), .inr (.inr (.inr (.inr (.inr (.inl (.inr (.inl trivial)))))))⟩
  have inD : ∀ e ∈ L.es, He.Fa.glo e.name ∈ L.fa := fun e he => by
    unfold LawD.fa
    exact List.mem_append_left _ (List.mem_map.mpr ⟨e, he, rfl⟩)
  refine ⟨⟨⟨tok.1, fun x hx => (tok.2.1 x hx).1, fun x e => ?_, fun x hx => (tok.2.1 x hx).2⟩, rfl, fun x hx => He.free_ok X G (He.SaysD.facts sd (inB x hx)), fun k x e => ?_⟩, fun f => rfl, fun k x e => ?_, fun x e => ?_, fun f h1 => ?_, fun f x e h1 => ?_⟩
  · have e : L.txt[0]? = some x := e
    have h3 := tok.2.2
    cases ht : L.txt with
    | nil => rw [ht] at e; cases e
    | cons y r =>
      rw [ht] at e h3
      have e2 : y = x := by simpa using e
      rw [← e2]
      exact h3
  · have e : (L.cons.map (·.1))[k]? = some x := e
    rw [List.getElem?_map] at e
    obtain ⟨p, e1, rfl⟩ := Option.map_eq_some_iff.mp e
    obtain ⟨t, hm⟩ := He.int_ok X G (He.SaysD.facts sd (inC p (List.mem_of_getElem? e1)))
    refine ⟨.int p.2, .int p.2, _, ?_, hm, ⟨t, rfl⟩, fun _ _ => by simp only [Rp]⟩
    show (L.cons.map fun p => D.int p.2)[k]? = _
    rw [List.getElem?_map, e1]
    rfl
  · have e : (L.exs.map (·.1))[k]? = some x := e
    rw [List.getElem?_map] at e
    obtain ⟨p, e1, rfl⟩ := Option.map_eq_some_iff.mp e
    obtain ⟨i1, i2⟩ := inE p (List.mem_of_getElem? e1)
    obtain ⟨x1, x2, x3, x4⟩ := He.exc_ok (He.SaysD.facts sd i2)
    refine ⟨He.ga K p.1, ?_, ⟨_, _, _, _, PySem.F.excBase_ValueError, x1⟩, says_glo X G c i1, x2, x3, x4⟩
    show Value.ref (He.ga K (((L.exs[k]?).map (·.1)).getD ⟨#[]⟩)) = _
    rw [e1]
    rfl
  · have e : L.told.map (·.1) = some x := e
    cases et : L.told with
    | none => rw [et] at e; cases e
    | some p =>
      obtain ⟨y, st⟩ := p
      rw [et] at e
      cases e
      have t := tol y st et
      have iF : defD y st ∈ L.fn := by
        unfold LawD.fn
        rw [et]
        exact List.mem_append_right _ List.mem_cons_self
      have iG : He.Fa.glo y ∈ L.fa := by
        unfold LawD.fa
        rw [et]
        simp only [List.mem_append, List.mem_cons]
        exact .inr (.inr (.inr (.inr (.inr (.inr (.inl trivial))))))
      obtain ⟨fd, F⟩ := fun_of c iF
      have hb := F.bindsN t.bind
      have kp := F.kp
      obtain ⟨oc, od, dV, kV, doc, pm, an, cdv, ct, osl, rfl, lk, hcd, _⟩ := F.ex
      obtain ⟨rd, ev, oor, r, o, j, k, ja, jb, jc, jd, p1, p2, p3, p4, p5, p6, p7, p8, p9, q1, q2, q3, q4, q5, q6, q7, q8, q9, q10, q11, eb, l1, l2, l3, l4, l5, hf, ord, rfl, rfl, s1, s2, har⟩ := t.body
      refine ⟨He.ga K y, defArgs st, defBody st, defScope st, dV, kV, doc, pm, cdv, ct, oc, an, od, osl, rd, "EverError", "OutOfRange", r, o, He.ga K "EverError", He.ga K "OutOfRange", j, k, ja, jb, jc, jd, p1, p2, p3, p4, p5, p6, p7, p8, p9, q1, q2, q3, q4, q5, q6, q7, q8, q9, q10, q11, L.kr, L.ko,
        says_glo X G c iG, kp, lk, hcd, hb, t.sc, l1, l2, l3, l4, l5, eb, hf, ord, by decide +kernel, by decide +kernel, says_glo X G c inEv.1, says_glo X G c inEv.2, He.free_ok X G (He.SaysD.facts sd (inB "isinstance" (by decide))), s1, s2, har, fun k hk => ?_⟩
      have hk : k < L.exs.length := hk
      have b := exs _ (List.getElem_mem hk)
      have e1 : L.exs[k]? = some L.exs[k] := List.getElem?_eq_getElem hk
      obtain ⟨i1, i2⟩ := inE _ (List.getElem_mem hk)
      obtain ⟨_, _, x3, _⟩ := He.exc_ok (He.SaysD.facts sd i2)
      unfold excB at b
      simp only [Bool.and_eq_true, decide_eq_true_eq] at b
      obtain ⟨b1, b2, b3, b4, b5, b6, b7, b8, b9⟩ := b
      refine ⟨He.ga K L.exs[k].1, L.exs[k].2, ?_, ⟨⟨He.eqO_ok b1, He.eqO_ok b2, x3, b3, He.eqO_ok b4, He.eqO_ok b5, b6, b7⟩, b8, b9⟩, ?_⟩
      · show Value.ref (He.ga K (((L.exs[k]?).map (·.1)).getD ⟨#[]⟩)) = _
        rw [e1]
        rfl
      · show (if ((L.exs[k]?).map (·.2)).getD false then L.kr else L.ko) = _
        rw [e1]
        rfl
  · have h1 : (decide (f < L.es.length) && decide (L.nm.ars.getD f 0 = 1)) = true := h1
    simp only [Bool.and_eq_true, decide_eq_true_eq] at h1
    obtain ⟨l1, l2⟩ := h1
    have e1 : L.es[f]? = some L.es[f] := List.getElem?_eq_getElem l1
    refine ⟨L.es[f].name, ?_, l2, ?_⟩
    · show (L.es.map (·.name))[f]? = _
      rw [List.getElem?_map, e1]
      rfl
    · have e2 : (L.Y P w K mg base).Z.fa f = He.ga K L.es[f].name := by
        show He.ga K (((L.es[f]?).map (·.name)).getD ⟨#[]⟩) = _
        rw [e1]
        rfl
      rw [e2]
      exact says_glo X G c (inD _ (List.getElem_mem l1))
  · have e : (L.es.map (·.name))[f]? = some x := e
    rw [List.getElem?_map] at e
    obtain ⟨q, e1, _⟩ := Option.map_eq_some_iff.mp e
    have l1 := (List.getElem?_eq_some_iff.mp e1).1
    show (decide (f < L.es.length) && decide (L.nm.ars.getD f 0 = 1)) = true
    have h1 : L.nm.ars.getD f 0 = 1 := h1
    rw [decide_eq_true l1, decide_eq_true h1]
    rfl
theorem law_def (X : K.In h) (G : h.Ns mainGlobals mg) (c : He.SaysX L.fa L.fn ts L.tf L.ex w h K) (ok : ∀ e ∈ L.es, LdOk L.nm e) (tb : ∀ p ∈ L.tf, LamX.TabB base mg (He.cT K p).1 (He.cT K p).2) {f : Nat} {q : Ld} (e1 : L.es[f]? = some q) :
    DefAt (L.Y P w K mg base) f q.name q.d q.N q.ps q.st q.lam := by
  have hq := List.mem_of_getElem? e1
  have o := ok q hq
  have iF : defD q.name q.st ∈ L.fn := by
    unfold LawD.fn
    exact List.mem_append_left _ (List.mem_map.mpr ⟨q, hq, rfl⟩)
  have iG : He.Fa.glo q.name ∈ L.fa := by
    unfold LawD.fa
    exact List.mem_append_left _ (List.mem_map.mpr ⟨q, hq, rfl⟩)
  obtain ⟨fd, F⟩ := fun_of c iF
  have hb := F.bindsN o.bind
  have kp := F.kp
  obtain ⟨oc, od, dV, kV, doc, pm, an, cdv, ct, osl, rfl, lk, hcd, _⟩ := F.ex
  refine ⟨⟨He.ga K q.name, oc, od, dV, kV, doc, pm, an, cdv, ct, osl, says_glo X G c iG, kp, lk, hcd, hb, fun hl => ?_⟩, o.sc, o.np, o.nl, ?_, o.chk⟩
  · obtain ⟨cc, ecc⟩ := He.codeIn_ref hcd
    have ec : He.codeOf K (q.name, none) = cc := He.codeOf_eq (p := (q.name, none)) lk ecc
    have it : ((q.name, none) : He.Defn) ∈ L.tf := List.mem_map.mpr ⟨q, List.mem_filter.mpr ⟨hq, hl⟩, rfl⟩
    have t := tb _ it
    have e2 : (He.cT K (q.name, none)).1 = cc := ec
    rw [e2] at t
    refine ⟨cc, (He.cT K (q.name, none)).2, ecc, t, List.mem_map.mpr ⟨_, it, rfl⟩, fun p hp z => ?_⟩
    obtain ⟨p', hp', rfl⟩ := List.mem_map.mp hp
    have nd : (L.tf.map fun p => (He.cT K p).2).Nodup := of_decide_eq_true (Bool.and_eq_true_iff.mp c.more).2
    have z : (He.cT K p').2 = (He.cT K (q.name, none)).2 := z
    have : p' = (q.name, none) := by
      obtain ⟨i, hi, ei⟩ := List.mem_iff_getElem.mp hp'
      obtain ⟨j, hj, ej⟩ := List.mem_iff_getElem.mp it
      have hij : i = j := by
        have := (List.getElem_inj (xs := L.tf.map fun p => (He.cT K p).2) (i := i) (j := j) (h₀ := by simpa using hi) (h₁ := by simpa using hj) nd).mp (by rw [List.getElem_map, List.getElem_map, ei, ej]; exact z)
        exact this
      subst hij
      rw [← ei, ← ej]
    rw [this]
  · show L.nm.ars.getD f 0 = _
    have e2 : (L.es.map (·.ps.length))[f]? = some q.ps.length := by rw [List.getElem?_map, e1]; rfl
    show (L.es.map (·.ps.length)).getD f 0 = _
    rw [List.getD_eq_getElem?_getD, e2]
    exact o.np
theorem law_defs (X : K.In h) (G : h.Ns mainGlobals mg) (c : He.SaysX L.fa L.fn ts L.tf L.ex w h K) (ok : ∀ e ∈ L.es, LdOk L.nm e) (tb : ∀ p ∈ L.tf, LamX.TabB base mg (He.cT K p).1 (He.cT K p).2) :
    ∀ (f : Nat) (x : Str), (L.Y P w K mg base).nm.fns[f]? = some x → ∃ d N ps st lam, L.ds[f]? = some d ∧ DefAt (L.Y P w K mg base) f x d N ps st lam := by
  intro f x e
  have e : (L.es.map (·.name))[f]? = some x := e
  rw [List.getElem?_map] at e
  obtain ⟨q, e1, rfl⟩ := Option.map_eq_some_iff.mp e
  exact ⟨q.d, q.N, q.ps, q.st, q.lam, by unfold LawD.ds; rw [List.getElem?_map, e1]; rfl, law_def X G c ok tb e1⟩
/-- what is known of the law's promise at the head's heap -/
structure LawAt (L : LawD) (l : PySem.W.OpenLaw) (w : World) (K : PySem.W.Frag) (k : Nat) (mg : Str → Option Value) (fa : Addr) (h : Heap) (fd : FuncData) (sp : Sp) : Prop where
  emp : ∀ p ∈ L.tf.map (He.cT K), h.get? p.2 = some { cls := .none, data := .fields #[] }
  out : ∀ p ∈ L.tf.map (He.cT K), K.lookup p.2 = none
  hd : ∀ p ∈ L.tf.map (He.cT K), PySem.W.CodeHd h p.1 p.2
  bind : ∀ (s : Shared) (u : Value), BindsTo s fd ⟨[u], []⟩ [("script", u)]
  asks : ∀ (H : Hp) (a : Addr) (ns : List Int), ns.length ≤ 63 → (∀ z ∈ ns, Builtin.Int.intBits z ≤ 1048576) → (∀ p ∈ L.tf.map (He.cT K), H p.2 = some (.tbl #[])) → SqL K H a (ns.map V.int) → sp [.ref a] H (fun v _ => v = .bl true) fun _ _ _ => False
  gives : ∀ base : Heap, K.In base → base.Ns mainGlobals mg → (∀ p ∈ L.tf.map (He.cT K), LamX.TabB base mg p.1 p.2) → FnU L.gd l.prog w K mg base (L2.CX l.prog w) k fa fd ["script"] sp
theorem law_in {l : PySem.W.OpenLaw} {n fL : Nat} {eL : Ld} {fa : Addr} (X : K.In h) (G : h.Ns mainGlobals mg) (c : He.SaysX L.fa L.fn ts L.tf L.ex w h K) (tok : L.txt.Nodup ∧ (∀ x ∈ L.txt, PyData.canLay0 (.str x) = true ∧ x.length ≤ 1000) ∧ L.txt.headD "" = "") (tol : ∀ x st, L.told = some (x, st) → TolOk L x st)
    (ok : ∀ e ∈ L.es, LdOk L.nm e) (hL : L.es[fL]? = some eL) (hn : eL.name = "law") (hps : eL.ps = ([("script" : Str)] : List Str)) (hmg : mg "law" = some (.ref fa))
    (plain : ∀ ns : List Int, ns.length ≤ 63 → (∀ z ∈ ns, Builtin.Int.intBits z ≤ 1048576) → ∃ r, call L.T L.ds (n + 1) fL [some (.d (.lst (ns.map D.int)))] = .ok (.d (.bl true)) r) :
    ∃ fd sp, LawAt L l w K (n + 1) mg fa h fd sp := by
  have hm := List.mem_of_getElem? hL
  have iF : defD eL.name eL.st ∈ L.fn := by
    unfold LawD.fn
    exact List.mem_append_left _ (List.mem_map.mpr ⟨eL, hm, rfl⟩)
  obtain ⟨fd, F⟩ := fun_of c iF
  have fx : L.nm.fns[fL]? = some eL.name := by
    show (L.es.map (·.name))[fL]? = _
    rw [List.getElem?_map, hL]
    rfl
  have iG : He.Fa.glo eL.name ∈ L.fa := by
    unfold LawD.fa
    exact List.mem_append_left _ (List.mem_map.mpr ⟨eL, hm, rfl⟩)
  have ga := says_glo X G c iG
  rw [hn] at ga
  have efa : He.ga K "law" = fa := by
    rw [hmg] at ga
    injection (Option.some.inj ga) with e
    exact e.symm
  have bA := F.bindsA (ok eL hm).bind
  refine ⟨fd, spF ((L.Y l.prog w K mg h).to (calls L.T L.ds (n + 1))) (n + 1) fL, fun p hp => ?_, fun p hp => ?_, fun p hp => ?_, fun s u => ?_, fun H a ns hl hb hT hS => ?_, fun base hK hN hT => ?_⟩
  · obtain ⟨p', hp', rfl⟩ := List.mem_map.mp hp
    exact c.empty p' hp'
  · obtain ⟨p', hp', rfl⟩ := List.mem_map.mp hp
    exact c.out p' hp'
  · obtain ⟨p', hp', rfl⟩ := List.mem_map.mp hp
    exact PySem.W.codeHd_of_K X (c.hd p' hp')
  · have := bA s [u] (by rw [hps]; rfl)
    rw [hps] at this
    exact this
  · -- the script
    obtain ⟨r, er⟩ := plain ns hl hb
    have hs : ∃ F : Fz, SL (L.Y l.prog w K mg h).Z F H a (ns.map V.int) ∧ ∀ b, F b → ¬ NoO (H b) := by
      rcases hS with q | q
      · refine ⟨fun b => b = a, .inl ⟨rfl, q⟩, fun b e => ?_⟩
        subst e
        rcases q with q | ⟨o, q⟩
        · rw [q]; exact id
        · rw [q]; exact id
      · exact ⟨fun _ => False, .inr q, fun b e => e.elim⟩
    obtain ⟨F, sl, hF⟩ := hs
    refine ⟨F, [some (.d (.lst (ns.map D.int)))], ?_, rfl, fun i => ?_, fun j w' ej ho => ?_, ⟨rfl, fun i w' e => ?_, fun i j wi wj a' ei ej hi hj _ _ => ?_, fun p hp => ?_, hF⟩, ?_⟩
    · show 1 = L.nm.ars.getD fL 0
      show 1 = (L.es.map (·.ps.length)).getD fL 0
      rw [List.getD_eq_getElem?_getD, List.getElem?_map, hL]
      show 1 = eL.ps.length
      rw [hps]
      rfl
    · cases i <;> simp
    · cases j with
      | zero =>
        have e : W.d (.lst (ns.map D.int)) = w' := by simpa using ej
        subst e
        cases ho
      | succ j => simp at ej
    · cases i with
      | zero =>
        have e : W.d (.lst (ns.map D.int)) = w' := by simpa using e
        subst e
        refine ⟨.ref a, rfl, ?_⟩
        show Rp _ F H (.lst (ns.map D.int)) (.ref a)
        simp only [Rp]
        exact ⟨a, _, rfl, sl, Rps.ints ns⟩
      | succ i => simp at e
    · cases i with
      | zero =>
        have e : W.d (.lst (ns.map D.int)) = wi := by simpa using ei
        subst e
        cases hi
      | succ i => simp at ei
    · obtain ⟨p', hp', rfl⟩ := List.mem_map.mp hp
      exact LamX.TabS.nil (hT _ (List.mem_map.mpr ⟨p', hp', rfl⟩))
    · have e : ((L.Y l.prog w K mg h).to (calls L.T L.ds (n + 1))).C (n + 1) fL [some (.d (.lst (ns.map D.int)))] = .ok (.d (.bl true)) r := er
      rw [e]
      exact fun v F' H' _ rel => Rp.inv_bl rel.1.dp
  · have gk := law_gk (P := l.prog) (base := base) (w := w) X G c tok tol
    have defs := law_defs (P := l.prog) (base := base) (w := w) X G c ok fun p hp => hT _ (List.mem_map.mpr ⟨p, hp, rfl⟩)
    have D := law_def (P := l.prog) (base := base) (w := w) X G c ok (fun p hp => hT _ (List.mem_map.mpr ⟨p, hp, rfl⟩)) hL
    have hd : L.ds[fL]? = some eL.d := by unfold LawD.ds; rw [List.getElem?_map, hL]; rfl
    obtain ⟨g, fd', h1, h2, h3, ⟨oc', od', osl', lk'⟩, h4⟩ := fnD D
    have h1 : mg eL.name = some (.ref g) := h1
    rw [says_glo X G c iG] at h1
    injection (Option.some.inj h1) with eg
    obtain ⟨oc, od, dV, kV, doc, pm, an, cdv, ct, osl, efd, lk, _⟩ := F.ex
    have lk' : K.lookup g = some ⟨oc', od', .func fd', osl'⟩ := lk'
    rw [← eg, lk] at lk'
    have e3 : fd = fd' := by
      have z := Option.some.inj lk'
      injection z with _ _ z3 _
      injection z3
    have FO := h4 (calls L.T L.ds n) (calls L.T L.ds (n + 1)) n (gk.to _) (levels gk defs n) fun args => by
      show (if n + 1 = n + 1 then _ else _) = _
      rw [if_pos rfl, hd]
      rfl
    rw [← e3, ← eg, hps] at FO
    rw [← efa, ← hn]
    exact FO
theorem law_at {l : PySem.W.OpenLaw} {n fL : Nat} {eL : Ld} {fa : Addr} (hgd : L.gd = false) (X : K.In h) (G : h.Ns mainGlobals mg) (c : He.SaysX L.fa L.fn ts L.tf L.ex w h K) (tok : L.txt.Nodup ∧ (∀ x ∈ L.txt, PyData.canLay0 (.str x) = true ∧ x.length ≤ 1000) ∧ L.txt.headD "" = "") (tol : ∀ x st, L.told = some (x, st) → TolOk L x st)
    (ok : ∀ e ∈ L.es, LdOk L.nm e) (hL : L.es[fL]? = some eL) (hn : eL.name = "law") (hps : eL.ps = ([("script" : Str)] : List Str)) (hmg : mg "law" = some (.ref fa))
    (plain : ∀ ns : List Int, ns.length ≤ 63 → (∀ z ∈ ns, Builtin.Int.intBits z ≤ 1048576) → ∃ r, call L.T L.ds (n + 1) fL [some (.d (.lst (ns.map D.int)))] = .ok (.d (.bl true)) r) :
    LamX.LawAtS l w K (L2.CX l.prog w) (n + 1) 63 "script" mg fa h := by
  obtain ⟨fd, sp, z⟩ := law_in X G c tok tol ok hL hn hps hmg plain
  exact ⟨fd, L.tf.map (He.cT K), sp, z.emp, z.out, z.hd, z.bind, z.asks, fun base h1 h2 h3 => (z.gives base h1 h2 h3).ok hgd⟩
end
/-! ### the law's end where its defs are promised with nothing under way; no lambdas -/
theorem law_callG {g : Bool} {P : Program} {w : World} {K : PySem.W.Frag} {mg mb : Str → Option Value} {CX : CXT} {k : Nat} {fa a : Addr} {fd : FuncData} {x : Str} {sp : Sp} {s₁ : Shared} {vs : List Value} {ns : List Int}
    (KX : K.In s₁.heap) (hns : s₁.heap.Ns mainGlobals mg) (hb : s₁.heap.Ns builtinsNs mb) (hbb : ∀ x : Str, x ≠ "__name__" → mb x = bootBuiltins x) (hlim : s₁.heap.NoLimit) (hg : s₁.gens = #[])
    (ha : s₁.heap.get? a = some { cls := .type "list", data := .seq vs.toArray }) (hi : IntsAre vs ns) (hl : ns.length ≤ sizeLine) (hr : Room k callerA)
    (F : ∀ base : Heap, K.In base → base.Ns mainGlobals mg → FnU g P w K mg base CX k fa fd [x] sp) (hbind : ∀ (s : Shared) (u : Value), BindsTo s fd ⟨[u], []⟩ [(x, u)])
    (hsp : ∀ H : Hp, SqL K H a (ns.map V.int) → sp [.ref a] H (fun v _ => v = .bl true) fun _ _ _ => False) (hCX : ∀ H e s', CX [] H s₁ (fun _ _ _ => False) e s' → False) :
    codeAny (model P w) callerA (.call (.ref fa) ⟨[.ref a], []⟩) (fun r s' => r = .ok (.ret (.bool true)) ∧ OldK s₁.heap s'.heap ∧ s'.os = s₁.os ∧ AllBare s'.gens) s₁ := by
  classical
  have rv := vals_ints hi
  -- the script is tracked, unless the module knows it
  obtain ⟨H, inn, out⟩ : ∃ H : Hp, (K.lookup a = none → H a = some (.frz { cls := .type "list", data := .seq vs.toArray } (.lst (ns.map V.int)))) ∧ ∀ b, H b = none ∨ (b = a ∧ K.lookup a = none ∧ H b = some (.frz { cls := .type "list", data := .seq vs.toArray } (.lst (ns.map V.int)))) := by
    refine ⟨fun b => if b = a ∧ K.lookup a = none then some (.frz { cls := .type "list", data := .seq vs.toArray } (.lst (ns.map V.int))) else none, fun z => if_pos ⟨rfl, z⟩, fun b => ?_⟩
    by_cases z : b = a ∧ K.lookup a = none
    · exact .inr ⟨z.1, z.2, if_pos z⟩
    · exact .inl (if_neg z)
  have free : ∀ {b : Addr} {o : Obj}, s₁.heap.get? b = some o → (∀ q n, o.data ≠ .seq q n) → H b = none := fun {b o} e d => by
    rcases out b with z | ⟨rfl, _, _⟩
    · exact z
    · rw [ha] at e
      cases e
      exact absurd rfl (d _ _)
  have names : ∀ {b : Addr} {m : Str → Option Value}, s₁.heap.Ns b m → (hidT s₁.heap H).Ns b m := fun {b m} q => by
    obtain ⟨o, es, ep, e, d, r⟩ := q
    exact ⟨o, es, ep, hidT_get e (free e fun q n z => by rw [d] at z; cases z), d, r⟩
  have inB : K.In (hidT s₁.heap H) := fun b o e => by
    refine hidT_get (KX b o e) ?_
    rcases out b with z | ⟨rfl, z, _⟩
    · exact z
    · rw [z] at e
      cases e
  have sq : SqL K H a (ns.map V.int) := by
    cases q : K.lookup a with
    | none => exact .inl (.inr ⟨_, inn q⟩)
    | some o =>
      have e := KX a o q
      rw [ha] at e
      cases e
      exact .inr ⟨_, vs.toArray, _, q, rfl, rfl, rfl, by rw [List.size_toArray, hi.length]; exact hl, by simpa using rv⟩
  have hok : HOk P w H s₁.heap := fun b u z => by
    rcases out b with q | ⟨rfl, _, q⟩
    · rw [q] at z
      cases z
    · rw [q] at z
      cases z
      exact ⟨ha, by rw [List.length_map]; exact hl, vs, _, rv, ha⟩
  have md : Mod K mg (hidT s₁.heap H) := ⟨inB, names hns, ⟨mb, names hb, hbb⟩, hlim.elim fun mc q => ⟨mc, names q.1, q.2⟩⟩
  have e0 : Env0 P w K mg (hidT s₁.heap H) callerA [] s₁ H := ⟨rfl, md, fun b o e => of_hidT e, Nat.le_of_eq (hidT_size _ _), trivial, fun b z => (by cases (show b ∈ ([] : List Addr) from z)), hok, .of_eq hg⟩
  have r0 := (F _ inB (names hns)).run callerA [] s₁ H ⟨[.ref a], []⟩ [.ref a] [.ref a] _ _ (fun _ => rfl) hr e0 (hbind s₁ (.ref a)) (.cons rfl .nil) (hsp H sq)
  refine codeAny_mono r0 ?_
  intro r s' c
  match r, c with
  | .error e, c => exact (hCX H e s' c).elim
  | .ok (.ret u), ⟨v, H', os, bare, un, hok', r', q⟩ =>
    have q : v = .bl true := q
    subst q
    cases (show u = Value.bool true from r')
    refine ⟨rfl, OldK.of_keep fun b o e => ?_, os, bare⟩
    rcases out b with z | ⟨rfl, _, z⟩
    · exact un.keep b o e z (by intro z; cases (show b ∈ ([] : List Addr) from z)) (by simp)
    · have z2 := (hok' _ _ (un.frzs _ _ _ z)).1
      have z1 := (hok _ _ z).1
      rw [e] at z1
      cases z1
      exact z2
theorem walk_ofG {l : PySem.W.OpenLaw} {n k : Nat} {L : LawD} {q : Program} {loose : List Str} {XP : (Str → Option Value) → Heap → Prop} {YP : World → Heap → Prop} {d : DefRec} (htf : L.tf = [])
    (hn : l.most = some n) (hn2 : n = 63) (hdf : d.params.defaults = []) (hr : Room k callerA)
    (F : ∀ (w : World) (mg : Str → Option Value) (fa : Addr) (h : Heap), YP w h → h.Ns mainGlobals mg → mg d.name = some (.ref fa) → ∃ K : PySem.W.Frag, K.In h ∧ ∃ fd sp, LawAt L l w K k mg fa h fd sp)
    (hCX : ∀ (w : World) (H : Hp) (s : Shared) (e : Value) (s' : Shared), L2.CX l.prog w [] H s (fun _ _ _ => False) e s' → False) :
    PySem.W.WalkO q loose XP YP l.row.toRowW d [] (fun f vs => PySem.call f vs) := by
  subst hn2
  refine Att.attach_callB hn hdf fun w s₀ s₁ mg mb fa o pm cd doc a vs ns G Y ho hd hcd hmg hobj hints hlen hbits hg => ?_
  obtain ⟨K, KX, fd, sp, z⟩ := F w mg fa _ Y G.T.g hmg
  have no : ∀ p, p ∉ L.tf.map (He.cT K) := fun p hp => by
    rw [htf] at hp
    cases hp
  exact law_callG KX G.T.g G.T.b G.T.builtins G.T.nolimit hg hobj hints (Nat.le_trans hlen (by decide)) hr (fun base h1 h2 => z.gives base h1 h2 fun p hp => absurd hp (no p)) z.bind (fun H hS => z.asks H a ns hlen hbits (fun p hp => absurd hp (no p)) hS) fun H e s' => hCX w H s₁ e s'
end Ev
/-! the law law_k65_whole_windows_and_agreed in the small language (printed by gen.py) -/
namespace Ev
namespace K65
open PySem
/-- is_integer(thing) -/
def d0 : Def := ⟨1, 0, [.ret (.andL [.isi (.var 0) .int, .not_ (.isi (.var 0) .bool)])]⟩
def n0 : List Str := ["thing"]
/-- is_below(thing, bound) -/
def d1 : Def := ⟨2, 0, [.ret (.andL [.call 0 [.var 0], .chain .le .lt (.int 0) (.var 0) (.var 1)])]⟩
def n1 : List Str := ["thing", "bound"]
/-- is_between(thing, low, high) -/
def d2 : Def := ⟨3, 0, [.ret (.andL [.call 0 [.var 0], .chain .le .le (.var 1) (.var 0) (.var 2)])]⟩
def n2 : List Str := ["thing", "low", "high"]
/-- check_ones(r, row) -/
def d3 : Def := ⟨2, 1, [.ite (.not_ (.call 2 [.var 0, .int 2, .con 1]))
   [.raise 0]
   [],
  .ite (.orL [.not_ (.isi (.var 1) .tuple), .cmp .gt (.blt .len [.var 1]) (.con 0), .not_ (.blt .all [.comp (.call 1 [.var 2, .int 2]) (.nm 2) .seq [.var 1] [] [2]])])
   [.raise 1]
   []]⟩
def n3 : List Str := ["r", "row", "number"]
/-- all_heaps(r, row) -/
def d4 : Def := ⟨2, 7, [.set 2 (.lst []),
  .for_ (.tp [.nm 3, .nm 4]) .enum [.var 1]
   [.ite (.cmp .eq (.var 4) (.int 1))
     [.par [2, 5] [.bin .add (.lst [.tup [.int 1, .var 3]]) (.var 2), .int 1],
      .while_ (.cmp .gt (.blt .len [.comp (.var 7) (.nm 7) .seq [.var 2] [.cmp .eq (.ix (.var 7) (.int 0)) (.var 5)] [7]]) (.var 0))
       [.set 6 (.blt .max [.comp (.var 8) (.tp [.nm 8, .nm 7]) .enum [.var 2] [.cmp .eq (.ix (.var 7) (.int 0)) (.var 5)] [8, 7]]),
        .set 2 (.bin .add (.bin .add (.sl (.var 2) .abs (.bin .sub (.var 6) (.int 1))) (.lst [.tup [.bin .mul (.int 2) (.var 5), .ix (.ix (.var 2) (.bin .sub (.var 6) (.int 1))) (.int 1)]])) (.sl (.var 2) (.bin .add (.var 6) (.int 1)) .abs)),
        .set 5 (.bin .mul (.int 2) (.var 5))]]
     []],
  .ret (.var 2)]⟩
def n4 : List Str := ["r", "row", "found", "place", "number", "size", "last", "heap", "at"]
/-- heaps(r, row) -/
def d5 : Def := ⟨2, 0, [.ex (.call 3 [.var 0, .var 1]),
  .ret (.blt .tuple [.call 4 [.var 0, .var 1]])]⟩
def n5 : List Str := ["r", "row"]
/-- between_ones(r, row, w) -/
def d6 : Def := ⟨3, 3, [.ex (.call 3 [.var 0, .var 1]),
  .ite (.not_ (.call 2 [.var 2, .int 0, .con 0]))
   [.raise 0]
   [],
  .set 3 (.comp (.var 4) (.tp [.nm 4, .nm 5]) .seq [.call 4 [.var 0, .var 1]] [.cmp .ge (.var 5) (.bin .sub (.blt .len [.var 1]) (.var 2))] [4, 5]),
  .ret (.ite (.cmp .eq (.blt .len [.var 3]) (.int 0)) (.tup [.int 0, .int 0]) (.tup [.bin .add (.bin .sub (.blt .sum [.var 3]) (.ix (.var 3) (.neg (.int 1)))) (.int 1), .blt .sum [.var 3]]))]⟩
def n6 : List Str := ["r", "row", "w", "sizes", "size", "place"]
/-- check_spans(spans) -/
def d7 : Def := ⟨1, 2, [.ite (.orL [.not_ (.isi (.var 0) .tuple), .not_ (.chain .le .le (.int 1) (.blt .len [.var 0]) (.con 2))])
   [.raise 1]
   [],
  .for_ (.nm 1) .seq [.var 0]
   [.ite (.orL [.not_ (.isi (.var 1) .tuple), .cmp .ne (.blt .len [.var 1]) (.int 2)])
     [.raise 1]
     [],
    .ite (.orL [.not_ (.blt .all [.comp (.call 2 [.var 2, .neg (.con 3), .con 3]) (.nm 2) .seq [.var 1] [] [2]]), .cmp .gt (.ix (.var 1) (.int 0)) (.ix (.var 1) (.int 1))])
     [.raise 1]
     []]]⟩
def n7 : List Str := ["spans", "span", "number"]
/-- pieces_of(spans) -/
def d8 : Def := ⟨1, 5, [.set 1 (.blt .sorted [.dcomp2 (.var 2) (.bl true) (.tp [.nm 3, .nm 4]) .seq [.var 0] (.nm 2) .seq [.tup [.var 3, .bin .add (.var 4) (.int 1)]] [] [3, 4, 2]]),
  .ret (.comp (.tup [.var 3, .bin .sub (.var 4) (.int 1), .blt .len [.comp (.var 5) (.nm 5) .seq [.var 0] [.chain .le .le (.ix (.var 5) (.int 0)) (.var 3) (.ix (.var 5) (.int 1))] [5]]]) (.tp [.nm 3, .nm 4]) .zip [.var 1, .sl (.var 1) (.int 1) .abs] [] [3, 4])]⟩
def n8 : List Str := ["spans", "cuts", "cut", "low", "high", "span"]
/-- agreed(spans) -/
def d9 : Def := ⟨1, 7, [.ex (.call 7 [.var 0]),
  .set 1 (.call 8 [.var 0]),
  .par [2, 3] [.blt .max [.comp (.var 6) (.tp [.nm 7, .nm 7, .nm 6]) .seq [.var 1] [] [7, 6]], .lst []],
  .for_ (.tp [.nm 4, .nm 5, .nm 6]) .seq [.var 1]
   [.ite (.cmp .eq (.var 6) (.var 2))
     [.ite (.andL [.cmp .gt (.blt .len [.var 3]) (.int 0), .cmp .eq (.ix (.ix (.var 3) (.neg (.int 1))) (.int 1)) (.bin .sub (.var 4) (.int 1))])
       [.setIx 3 (.neg (.int 1)) (.tup [.ix (.ix (.var 3) (.neg (.int 1))) (.int 0), .var 5])]
       [.ex (.app 3 (.tup [.var 4, .var 5]))]]
     []],
  .ret (.tup [.var 2, .blt .tuple [.var 3]])]⟩
def n9 : List Str := ["spans", "pieces", "most", "found", "low", "high", "many", "_"]
/-- sure_span(spans, f) -/
def d10 : Def := ⟨2, 4, [.ex (.call 7 [.var 0]),
  .ite (.not_ (.call 1 [.var 1, .blt .len [.var 0]]))
   [.raise 0]
   [],
  .set 2 (.comp (.tup [.var 3, .var 4]) (.tp [.nm 3, .nm 4, .nm 5]) .seq [.call 8 [.var 0]] [.cmp .ge (.var 5) (.bin .sub (.blt .len [.var 0]) (.var 1))] [3, 4, 5]),
  .ret (.ite (.cmp .gt (.blt .len [.var 2]) (.int 0)) (.tup [.ix (.ix (.var 2) (.int 0)) (.int 0), .ix (.ix (.var 2) (.neg (.int 1))) (.int 1)]) .non)]⟩
def n10 : List Str := ["spans", "f", "good", "low", "high", "many"]
/-- _law_cell(script, k) -/
def d11 : Def := ⟨2, 0, [.ret (.ite (.cmp .lt (.var 1) (.blt .len [.var 0])) (.blt .int [.ix (.var 0) (.var 1)]) (.int 0))]⟩
def n11 : List Str := ["script", "k"]
/-- _law_stream(script, k) -/
def d12 : Def := ⟨2, 0, [.ret (.lst [.blt .abs [.call 11 [.var 0, .var 1]], .bin .add (.bin .mod (.blt .abs [.call 11 [.var 0, .var 1]]) (.int 1000003)) (.int 7)])]⟩
def n12 : List Str := ["script", "k"]
/-- _law_draw(box, many) -/
def d13 : Def := ⟨2, 1, [.ite (.cmp .gt (.ix (.var 0) (.int 0)) (.int 0))
   [.set 2 (.bin .mod (.ix (.var 0) (.int 0)) (.var 1)),
    .setIx 0 (.int 0) (.bin .fdiv (.ix (.var 0) (.int 0)) (.var 1)),
    .ret (.blt .int [.var 2])]
   [],
  .setIx 0 (.int 1) (.bin .mod (.blt .int [.bin .add (.bin .mul (.ix (.var 0) (.int 1)) (.int 48271)) (.int 12345)]) (.int 2147483647)),
  .ret (.bin .mod (.blt .int [.bin .fdiv (.ix (.var 0) (.int 1)) (.int 64)]) (.var 1))]⟩
def n13 : List Str := ["box", "many", "told"]
/-- _law_common(first, second) -/
def d14 : Def := ⟨2, 0, [.while_ (.cmp .gt (.var 1) (.int 0))
   [.par [0, 1] [.var 1, .bin .mod (.var 0) (.var 1)]],
  .ret (.var 0)]⟩
def n14 : List Str := ["first", "second"]
/-- _law_heaps(r, row) -/
def d15 : Def := ⟨2, 9, [.set 2 (.lst []),
  .for_ (.nm 3) .rng [.blt .len [.var 1]]
   [.ite (.cmp .eq (.ix (.var 1) (.var 3)) (.int 1))
     [.set 2 (.bin .add (.lst [.tup [.int 1, .var 3]]) (.var 2)),
      .set 4 (.int 1),
      .while_ (.cmp .gt (.blt .len [.comp (.var 10) (.nm 10) .seq [.var 2] [.cmp .eq (.ix (.var 10) (.int 0)) (.var 4)] [10]]) (.var 0))
       [.set 5 (.comp (.var 9) (.nm 9) .rng [.blt .len [.var 2]] [.cmp .eq (.ix (.ix (.var 2) (.var 9)) (.int 0)) (.var 4)] [9]),
        .par [7, 8] [.ix (.var 5) (.neg (.int 2)), .ix (.var 5) (.neg (.int 1))],
        .set 6 (.tup [.bin .mul (.int 2) (.var 4), .ix (.ix (.var 2) (.var 7)) (.int 1)]),
        .set 2 (.bin .add (.bin .add (.bin .add (.sl (.var 2) .abs (.var 7)) (.lst [.var 6])) (.sl (.var 2) (.bin .add (.var 7) (.int 1)) (.var 8))) (.sl (.var 2) (.bin .add (.var 8) (.int 1)) .abs)),
        .set 4 (.bin .mul (.int 2) (.var 4))]]
     []],
  .ret (.var 2)]⟩
def n15 : List Str := ["r", "row", "found", "place", "size", "same", "made", "a", "b", "k", "one"]
/-- _law_windows(box) -/
def d16 : Def := ⟨1, 17, [.set 1 (.bin .add (.int 2) (.call 13 [.var 0, .int 4])),
  .set 2 (.bin .add (.int 1) (.call 13 [.var 0, .int 3])),
  .set 3 (.blt .tuple [.comp (.blt .int [.cmp .gt (.call 13 [.var 0, .bin .add (.int 1) (.var 2)]) (.int 0)]) (.nm 15) .rng [.call 13 [.var 0, .int 60]] [] [15]]),
  .set 4 (.call 15 [.var 1, .var 3]),
  .ite (.req true (.call 5 [.var 1, .var 3]) (.blt .tuple [.var 4]))
   [.ret (.bl false)]
   [],
  .set 5 (.comp (.var 6) (.tp [.nm 6, .nm 16]) .seq [.var 4] [] [6, 16]),
  .ite (.orL [.cmp .ne (.var 5) (.blt .sorted [.var 5]), .cmp .ne (.blt .sum [.var 5]) (.blt .sum [.var 3])])
   [.ret (.bl false)]
   [],
  .ite (.blt .any [.comp (.cmp .notin (.blt .len [.comp (.var 17) (.nm 17) .seq [.var 5] [.cmp .eq (.var 17) (.var 6)] [17]]) (.tup [.bin .sub (.var 1) (.int 1), .var 1])) (.nm 6) .seq [.var 5] [.cmp .lt (.var 6) (.blt .max [.var 5])] [6]])
   [.ret (.bl false)]
   [],
  .set 6 (.int 1),
  .while_ (.andL [.cmp .ne (.var 5) (.lst []), .cmp .lt (.var 6) (.blt .max [.var 5])])
   [.ite (.cmp .notin (.var 6) (.var 5))
     [.ret (.bl false)]
     [],
    .set 6 (.bin .mul (.int 2) (.var 6))],
  .set 7 (.call 13 [.var 0, .bin .add (.blt .len [.var 3]) (.int 5)]),
  .set 8 (.comp (.var 14) (.nm 14) .seq [.var 4] [.cmp .ge (.ix (.var 14) (.int 1)) (.bin .sub (.blt .len [.var 3]) (.var 7))] [14]),
  .set 9 (.blt .sum [.comp (.ix (.var 14) (.int 0)) (.nm 14) .seq [.var 8] [] [14]]),
  .set 10 (.ite (.cmp .ne (.var 8) (.lst [])) (.ix (.ix (.var 8) (.neg (.int 1))) (.int 0)) (.int 0)),
  .set 11 (.call 6 [.var 1, .var 3, .var 7]),
  .set 12 (.blt .sum [.sl (.var 3) (.blt .max2 [.int 0, .bin .sub (.blt .len [.var 3]) (.var 7)]) .abs]),
  .ite (.orL [.req true (.var 11) (.ite (.cmp .ne (.var 8) (.lst [])) (.tup [.bin .add (.bin .sub (.var 9) (.var 10)) (.int 1), .var 9]) (.tup [.int 0, .int 0])), .not_ (.chain .le .le (.ix (.var 11) (.int 0)) (.var 12) (.ix (.var 11) (.int 1)))])
   [.ret (.bl false)]
   [],
  .set 13 (.blt .abs [.bin .sub (.bin .sub (.var 9) (.bin .fdiv (.var 10) (.int 2))) (.var 12)]),
  .ret (.orL [.cmp .eq (.var 8) (.lst []), .andL [.cmp .le (.var 13) (.bin .fdiv (.var 10) (.int 2)), .orL [.cmp .lt (.var 10) (.int 2), .cmp .lt (.bin .mul (.var 13) (.bin .sub (.var 1) (.int 1))) (.var 12)]]])]⟩
def n16 : List Str := ["box", "r", "dense", "row", "due", "sizes", "size", "w", "inner", "s", "o", "told", "many", "off", "one", "i", "place", "x"]
/-- _law_agreed(box) -/
def d17 : Def := ⟨1, 19, [.set 1 (.lst []),
  .for_ (.nm 2) .rng [.bin .add (.int 1) (.call 13 [.var 0, .int 8])]
   [.set 12 (.bin .sub (.call 13 [.var 0, .int 20]) (.int 10)),
    .ex (.app 1 (.tup [.var 12, .bin .add (.var 12) (.call 13 [.var 0, .int 10])]))],
  .set 1 (.blt .tuple [.var 1]),
  .set 3 (.blt .len [.var 1]),
  .set 4 (.blt .dict [.comp (.tup [.var 14, .blt .len [.comp (.int 1) (.tp [.nm 12, .nm 15]) .seq [.var 1] [.chain .le .le (.var 12) (.var 14) (.var 15)] [12, 15]]]) (.nm 14) .rng [.neg (.int 12), .int 25] [] [14]]),
  .set 5 (.blt .max [.comp (.ix (.var 4) (.var 14)) (.nm 14) .seq [.frz 4] [] [14]]),
  .par [13, 14] [.lst [], .neg (.int 12)],
  .while_ (.cmp .lt (.var 14) (.int 25))
   [.ite (.cmp .eq (.ix (.var 4) (.var 14)) (.var 5))
     [.set 16 (.var 14),
      .set 17 (.comp (.var 2) (.nm 2) .rng [.var 3] [.chain .le .le (.ix (.ix (.var 1) (.var 2)) (.int 0)) (.var 14) (.ix (.ix (.var 1) (.var 2)) (.int 1))] [2]),
      .while_ (.andL [.cmp .lt (.bin .add (.var 16) (.int 1)) (.int 25), .cmp .eq (.comp (.var 2) (.nm 2) .rng [.var 3] [.chain .le .le (.ix (.ix (.var 1) (.var 2)) (.int 0)) (.bin .add (.var 16) (.int 1)) (.ix (.ix (.var 1) (.var 2)) (.int 1))] [2]) (.var 17)])
       [.set 16 (.bin .add (.var 16) (.int 1))],
      .ex (.app 13 (.tup [.var 14, .var 16])),
      .set 14 (.var 16)]
     [],
    .set 14 (.bin .add (.var 14) (.int 1))],
  .set 6 (.lst []),
  .for_ (.tp [.nm 12, .nm 15]) .seq [.var 13]
   [.ite (.andL [.cmp .ne (.var 6) (.lst []), .cmp .eq (.bin .add (.ix (.ix (.var 6) (.neg (.int 1))) (.int 1)) (.int 1)) (.var 12)])
     [.setIx 6 (.neg (.int 1)) (.tup [.ix (.ix (.var 6) (.neg (.int 1))) (.int 0), .var 15])]
     [.ex (.app 6 (.tup [.var 12, .var 15]))]],
  .ite (.req true (.call 9 [.var 1]) (.tup [.var 5, .blt .tuple [.var 6]]))
   [.ret (.bl false)]
   [],
  .set 7 (.call 13 [.var 0, .var 3]),
  .set 8 (.comp (.var 14) (.nm 14) .seq [.blt .sorted [.var 4]] [.cmp .ge (.ix (.var 4) (.var 14)) (.bin .sub (.var 3) (.var 7))] [14]),
  .ite (.req true (.call 10 [.var 1, .var 7]) (.ite (.cmp .ne (.var 8) (.lst [])) (.tup [.ix (.var 8) (.int 0), .ix (.var 8) (.neg (.int 1))]) .non))
   [.ret (.bl false)]
   [],
  .set 9 (.bin .sub (.call 13 [.var 0, .int 20]) (.int 8)),
  .set 10 (.blt .len [.comp (.int 1) (.tp [.nm 12, .nm 15]) .seq [.var 1] [.not_ (.chain .le .le (.var 12) (.var 9) (.var 15))] [12, 15]]),
  .ite (.andL [.cmp .lt (.var 10) (.var 3), .orL [.cmp .is_ (.call 10 [.var 1, .var 10]) .non, .not_ (.chain .le .le (.ix (.call 10 [.var 1, .var 10]) (.int 0)) (.var 9) (.ix (.call 10 [.var 1, .var 10]) (.int 1)))]])
   [.ret (.bl false)]
   [],
  .set 11 (.blt .all [.comp (.blt .all [.comp (.cmp .le (.blt .max2 [.ix (.var 18) (.int 0), .ix (.var 19) (.int 0)]) (.blt .min2 [.ix (.var 18) (.int 1), .ix (.var 19) (.int 1)])) (.nm 19) .seq [.var 1] [] [19]]) (.nm 18) .seq [.var 1] [] [18]]),
  .ret (.cmp .eq (.var 11) (.cmp .eq (.var 5) (.var 3)))]⟩
def n17 : List Str := ["box", "spans", "k", "n", "counts", "m", "joined", "f", "good", "true", "wrong", "pairs", "low", "parts", "t", "high", "end", "same", "one", "two"]
/-- law(script) -/
def d18 : Def := ⟨1, 1, [.set 1 (.call 12 [.var 0, .int 0]),
  .ret (.andL [.call 16 [.var 1], .call 17 [.var 1]])]⟩
def n18 : List Str := ["script", "box"]
def toS (l : List String) : List Str := l.map Str.ofString
def st (i : Nat) : Stmt := PySem.Challenge.pw_evertold_k65_whole_windows_and_agreed.main.body.getD i (.Pass ⟨0, 0, 0, 0⟩)
def e0 : Ld := ⟨"is_integer", d0, n0, toS ["thing"], st 5, false⟩
def e1 : Ld := ⟨"is_below", d1, n1, toS ["thing", "bound"], st 6, false⟩
def e2 : Ld := ⟨"is_between", d2, n2, toS ["thing", "low", "high"], st 7, false⟩
def e3 : Ld := ⟨"check_ones", d3, n3, toS ["r", "row"], st 11, false⟩
def e4 : Ld := ⟨"all_heaps", d4, n4, toS ["r", "row"], st 12, false⟩
def e5 : Ld := ⟨"heaps", d5, n5, toS ["r", "row"], st 13, false⟩
def e6 : Ld := ⟨"between_ones", d6, n6, toS ["r", "row", "w"], st 14, false⟩
def e7 : Ld := ⟨"check_spans", d7, n7, toS ["spans"], st 18, false⟩
def e8 : Ld := ⟨"pieces_of", d8, n8, toS ["spans"], st 19, false⟩
def e9 : Ld := ⟨"agreed", d9, n9, toS ["spans"], st 20, false⟩
def e10 : Ld := ⟨"sure_span", d10, n10, toS ["spans", "f"], st 21, false⟩
def e11 : Ld := ⟨"_law_cell", d11, n11, toS ["script", "k"], st 23, false⟩
def e12 : Ld := ⟨"_law_stream", d12, n12, toS ["script", "k"], st 24, false⟩
def e13 : Ld := ⟨"_law_draw", d13, n13, toS ["box", "many"], st 25, false⟩
def e14 : Ld := ⟨"_law_common", d14, n14, toS ["first", "second"], st 26, false⟩
def e15 : Ld := ⟨"_law_heaps", d15, n15, toS ["r", "row"], st 27, false⟩
def e16 : Ld := ⟨"_law_windows", d16, n16, toS ["box"], st 28, false⟩
def e17 : Ld := ⟨"_law_agreed", d17, n17, toS ["box"], st 29, false⟩
def e18 : Ld := ⟨"law", d18, n18, toS ["script"], st 30, false⟩
def es : List Ld := ([e0, e1, e2, e3, e4, e5, e6, e7, e8, e9] : List Ld) ++ ([e10, e11, e12, e13, e14, e15, e16, e17, e18] : List Ld)
def L : LawD := { es := es, cons := ([("MOST_ROW", 200), ("MOST_HEAPS", 10), ("MOST_SPANS", 30), ("MOST_TIME", 1000)] : List (Str × Int)), exs := ([("OutOfRange", true), ("BadLog", false)] : List (Str × Bool)), txt := toS [""], rd := 0, kr := 1, ko := 2, told := none, gd := true }
theorem o0 : LdOk L.nm e0 := ⟨⟨rfl, rfl, rfl, by decide +kernel, by decide +kernel, by decide +kernel, by decide +kernel⟩, rfl, rfl, by decide +kernel, fun _ _ _ _ _ _ us hl => match us, hl with | [_], _ => rfl⟩
theorem o1 : LdOk L.nm e1 := ⟨⟨rfl, rfl, rfl, by decide +kernel, by decide +kernel, by decide +kernel, by decide +kernel⟩, rfl, rfl, by decide +kernel, fun _ _ _ _ _ _ us hl => match us, hl with | [_, _], _ => rfl⟩
theorem o2 : LdOk L.nm e2 := ⟨⟨rfl, rfl, rfl, by decide +kernel, by decide +kernel, by decide +kernel, by decide +kernel⟩, rfl, rfl, by decide +kernel, fun _ _ _ _ _ _ us hl => match us, hl with | [_, _, _], _ => rfl⟩
theorem o3 : LdOk L.nm e3 := ⟨⟨rfl, rfl, rfl, by decide +kernel, by decide +kernel, by decide +kernel, by decide +kernel⟩, rfl, rfl, by decide +kernel, fun _ _ _ _ _ _ us hl => match us, hl with | [_, _], _ => rfl⟩
theorem o4 : LdOk L.nm e4 := ⟨⟨rfl, rfl, rfl, by decide +kernel, by decide +kernel, by decide +kernel, by decide +kernel⟩, rfl, rfl, by decide +kernel, fun _ _ _ _ _ _ us hl => match us, hl with | [_, _], _ => rfl⟩
theorem o5 : LdOk L.nm e5 := ⟨⟨rfl, rfl, rfl, by decide +kernel, by decide +kernel, by decide +kernel, by decide +kernel⟩, rfl, rfl, by decide +kernel, fun _ _ _ _ _ _ us hl => match us, hl with | [_, _], _ => rfl⟩
theorem o6 : LdOk L.nm e6 := ⟨⟨rfl, rfl, rfl, by decide +kernel, by decide +kernel, by decide +kernel, by decide +kernel⟩, rfl, rfl, by decide +kernel, fun _ _ _ _ _ _ us hl => match us, hl with | [_, _, _], _ => rfl⟩
theorem o7 : LdOk L.nm e7 := ⟨⟨rfl, rfl, rfl, by decide +kernel, by decide +kernel, by decide +kernel, by decide +kernel⟩, rfl, rfl, by decide +kernel, fun _ _ _ _ _ _ us hl => match us, hl with | [_], _ => rfl⟩
theorem o8 : LdOk L.nm e8 := ⟨⟨rfl, rfl, rfl, by decide +kernel, by decide +kernel, by decide +kernel, by decide +kernel⟩, rfl, rfl, by decide +kernel, fun _ _ _ _ _ _ us hl => match us, hl with | [_], _ => rfl⟩
theorem o9 : LdOk L.nm e9 := ⟨⟨rfl, rfl, rfl, by decide +kernel, by decide +kernel, by decide +kernel, by decide +kernel⟩, rfl, rfl, by decide +kernel, fun _ _ _ _ _ _ us hl => match us, hl with | [_], _ => rfl⟩
theorem o10 : LdOk L.nm e10 := ⟨⟨rfl, rfl, rfl, by decide +kernel, by decide +kernel, by decide +kernel, by decide +kernel⟩, rfl, rfl, by decide +kernel, fun _ _ _ _ _ _ us hl => match us, hl with | [_, _], _ => rfl⟩
theorem o11 : LdOk L.nm e11 := ⟨⟨rfl, rfl, rfl, by decide +kernel, by decide +kernel, by decide +kernel, by decide +kernel⟩, rfl, rfl, by decide +kernel, fun _ _ _ _ _ _ us hl => match us, hl with | [_, _], _ => rfl⟩
theorem o12 : LdOk L.nm e12 := ⟨⟨rfl, rfl, rfl, by decide +kernel, by decide +kernel, by decide +kernel, by decide +kernel⟩, rfl, rfl, by decide +kernel, fun _ _ _ _ _ _ us hl => match us, hl with | [_, _], _ => rfl⟩
theorem o13 : LdOk L.nm e13 := ⟨⟨rfl, rfl, rfl, by decide +kernel, by decide +kernel, by decide +kernel, by decide +kernel⟩, rfl, rfl, by decide +kernel, fun _ _ _ _ _ _ us hl => match us, hl with | [_, _], _ => rfl⟩
theorem o14 : LdOk L.nm e14 := ⟨⟨rfl, rfl, rfl, by decide +kernel, by decide +kernel, by decide +kernel, by decide +kernel⟩, rfl, rfl, by decide +kernel, fun _ _ _ _ _ _ us hl => match us, hl with | [_, _], _ => rfl⟩
theorem o15 : LdOk L.nm e15 := ⟨⟨rfl, rfl, rfl, by decide +kernel, by decide +kernel, by decide +kernel, by decide +kernel⟩, rfl, rfl, by decide +kernel, fun _ _ _ _ _ _ us hl => match us, hl with | [_, _], _ => rfl⟩
theorem o16 : LdOk L.nm e16 := ⟨⟨rfl, rfl, rfl, by decide +kernel, by decide +kernel, by decide +kernel, by decide +kernel⟩, rfl, rfl, by decide +kernel, fun _ _ _ _ _ _ us hl => match us, hl with | [_], _ => rfl⟩
theorem o17 : LdOk L.nm e17 := ⟨⟨rfl, rfl, rfl, by decide +kernel, by decide +kernel, by decide +kernel, by decide +kernel⟩, rfl, rfl, by decide +kernel, fun _ _ _ _ _ _ us hl => match us, hl with | [_], _ => rfl⟩
theorem o18 : LdOk L.nm e18 := ⟨⟨rfl, rfl, rfl, by decide +kernel, by decide +kernel, by decide +kernel, by decide +kernel⟩, rfl, rfl, by decide +kernel, fun _ _ _ _ _ _ us hl => match us, hl with | [_], _ => rfl⟩
theorem ok : ∀ e ∈ L.es, LdOk L.nm e := by
  intro e he
  have he : e ∈ es := he
  simp only [es, List.mem_append, List.mem_cons, List.not_mem_nil, or_false, or_assoc] at he
  rcases he with rfl | rfl | rfl | rfl | rfl | rfl | rfl | rfl | rfl | rfl | rfl | rfl | rfl | rfl | rfl | rfl | rfl | rfl | rfl
  · exact o0
  · exact o1
  · exact o2
  · exact o3
  · exact o4
  · exact o5
  · exact o6
  · exact o7
  · exact o8
  · exact o9
  · exact o10
  · exact o11
  · exact o12
  · exact o13
  · exact o14
  · exact o15
  · exact o16
  · exact o17
  · exact o18
theorem tol : ∀ x s, L.told = some (x, s) → TolOk L x s := by
  intro x s e
  cases e
theorem tok : L.txt.Nodup ∧ (∀ x ∈ L.txt, PyData.canLay0 (.str x) = true ∧ x.length ≤ 1000) ∧ L.txt.headD "" = "" := by decide +kernel
end K65
end Ev
/-! Pv: the evaluator's rows as rules for simp; lemmas of pure comprehensions. -/
namespace Ev
section
variable (T : Top) (C : Calls) (n : Nat) (ρ : Ev)
@[simp] theorem v_non : evE T C .non n ρ = .ok (.d .non) ρ := rfl
@[simp] theorem v_bl (b : Bool) : evE T C (.bl b) n ρ = .ok (.d (.bl b)) ρ := rfl
@[simp] theorem v_int (i : Int) : evE T C (.int i) n ρ = .ok (.d (.int i)) ρ := rfl
@[simp] theorem v_str (k : Nat) : evE T C (.str k) n ρ = .ok (.d (.str k)) ρ := rfl
@[simp] theorem v_var (i : Nat) : evE T C (.var i) n ρ = varS i ρ := rfl
@[simp] theorem v_con (k : Nat) : evE T C (.con k) n ρ = okd T.con[k]? ρ := rfl
@[simp] theorem v_bin (op : Bop) (a b : E) : evE T C (.bin op a b) n ρ = (evE T C a n ρ).bind fun x ρ1 => (evE T C b n ρ1).bind fun y ρ2 => oko (bin op (rs ρ2 x) (rs ρ2 y)) ρ2 := rfl
@[simp] theorem v_neg (a : E) : evE T C (.neg a) n ρ = (evE T C a n ρ).bind fun x ρ1 => R.opt (optInt x) fun i => .ok (.d (.int (-i))) ρ1 := rfl
@[simp] theorem v_and (es : List E) : evE T C (.andL es) n ρ = evAO T C false es n ρ := rfl
@[simp] theorem v_or (es : List E) : evE T C (.orL es) n ρ = evAO T C true es n ρ := rfl
@[simp] theorem v_not (a : E) : evE T C (.not_ a) n ρ = (asT (evE T C a n ρ)).bind fun b ρ1 => .ok (.d (.bl (!b))) ρ1 := rfl
@[simp] theorem v_cmp (op : Cop) (a b : E) : evE T C (.cmp op a b) n ρ = (evE T C a n ρ).bind fun x ρ1 => (evE T C b n ρ1).bind fun y ρ2 => okb (cmp op (rs ρ2 x) (rs ρ2 y)) ρ2 := rfl
@[simp] theorem v_chain (o1 o2 : Cop) (a b c : E) : evE T C (.chain o1 o2 a b c) n ρ = (evE T C a n ρ).bind fun x ρ1 => (evE T C b n ρ1).bind fun y ρ2 => R.opt (cmp o1 (rs ρ2 x) (rs ρ2 y)) fun k =>
      if k = true then (evE T C c n ρ2).bind fun z ρ3 => okb (cmp o2 (rs ρ3 y) (rs ρ3 z)) ρ3 else .ok (.d (.bl false)) ρ2 := rfl
@[simp] theorem v_ite (c a b : E) : evE T C (.ite c a b) n ρ = ifB (asT (evE T C c n ρ)) (evE T C a n) (evE T C b n) := rfl
@[simp] theorem v_tup (es : List E) : evE T C (.tup es) n ρ = (evL T C es n ρ).bind fun os ρ1 => R.opt (keeps ρ1 os) fun p => .ok (.d (.tup p.1)) p.2 := rfl
@[simp] theorem v_lst (es : List E) : evE T C (.lst es) n ρ = (evL T C es n ρ).bind fun os ρ1 => R.opt (keeps ρ1 os) fun p => .ok (.L p.1) p.2 := rfl
@[simp] theorem v_ix (a i : E) : evE T C (.ix a i) n ρ = (evE T C a n ρ).bind fun x ρ1 => (evE T C i n ρ1).bind fun y ρ2 => okd (index (rs ρ2 x) (rs ρ2 y)) ρ2 := rfl
@[simp] theorem v_sl (a lo hi : E) : evE T C (.sl a lo hi) n ρ = (evE T C a n ρ).bind fun x ρ1 => (if isAbs lo = true then .ok none ρ1 else asI (evE T C lo n ρ1)).bind fun l ρ2 =>
      (if isAbs hi = true then .ok none ρ2 else asI (evE T C hi n ρ2)).bind fun h ρ3 => oko (slice (rs ρ3 x) l h) ρ3 := rfl
@[simp] theorem v_call (f : Nat) (es : List E) : evE T C (.call f es) n ρ = (evL T C es n ρ).bind fun os ρ1 => callF C n f os ρ1 := rfl
@[simp] theorem v_blt (b : Blt) (es : List E) : evE T C (.blt b es) n ρ = (evL T C es n ρ).bind fun os ρ1 => oko (blt b (os.map (rs ρ1))) ρ1 := rfl
@[simp] theorem v_isi (a : E) (t : Ty) : evE T C (.isi a t) n ρ = (evE T C a n ρ).bind fun x ρ1 => okb (isTy t (rs ρ1 x)) ρ1 := rfl
@[simp] theorem v_app (i : Nat) (e : E) : evE T C (.app i e) n ρ = if isL ρ i = true then (evE T C e n ρ).bind fun x ρ1 => R.opt (keep ρ1 x) fun p => appS i p.1 p.2 else .stuck := rfl
@[simp] theorem v_pop (i : Nat) : evE T C (.pop i) n ρ = popS i ρ := rfl
@[simp] theorem v_told (b : E) (m : Nat) : evE T C (.told b) (m + 2) ρ = toldS T C m (evE T C b m ρ) := rfl
@[simp] theorem v_comp (elt : E) (tg : Tg) (k : Ik) (es ifs : List E) (own : List Nat) : evE T C (.comp elt tg k es ifs own) n ρ = (iterF k (evL T C es n ρ)).bind fun p ρ1 => compEnd own ρ1 p.2 (walkL (compTurn own ρ1 p.2 tg (evTs T C ifs n) (evE T C elt n)) p.1 [] (wipe ρ1 own)) := rfl
@[simp] theorem v_lnil : evL T C [] n ρ = .ok [] ρ := rfl
@[simp] theorem v_lcons (e : E) (es : List E) : evL T C (e :: es) n ρ = (evE T C e n ρ).bind fun o ρ1 => (evL T C es n ρ1).bind fun os ρ2 => .ok (o :: os) ρ2 := rfl
@[simp] theorem v_tnil : evTs T C [] n ρ = .ok true ρ := rfl
@[simp] theorem v_tcons (e : E) (es : List E) : evTs T C (e :: es) n ρ = ifB (asT (evE T C e n ρ)) (evTs T C es n) (fun ρ1 => .ok false ρ1) := rfl
@[simp] theorem v_ao1 (stop : Bool) (e : E) : evAO T C stop [e] n ρ = evE T C e n ρ := rfl
@[simp] theorem v_ao2 (stop : Bool) (e e' : E) (es : List E) : evAO T C stop (e :: e' :: es) n ρ = onB stop (evE T C e n ρ) (evAO T C stop (e' :: es) n) := rfl
@[simp] theorem v_ex (e : E) : evS T C (.ex e) n ρ = (evE T C e n ρ).bind fun _ ρ1 => .ok .nx ρ1 := rfl
@[simp] theorem v_ret (e : E) : evS T C (.ret e) n ρ = (evE T C e n ρ).bind fun o ρ1 => .ok (.ret o) ρ1 := rfl
@[simp] theorem v_set (i : Nat) (e : E) : evS T C (.set i e) n ρ = (evE T C e n ρ).bind fun o ρ1 => nxt (assign ρ1 i o) := rfl
@[simp] theorem v_setT (ts : List Tg) (e : E) : evS T C (.setT ts e) n ρ = (evE T C e n ρ).bind fun o ρ1 => match o with
    | .d x => nxt (bindT (.tp ts) x ρ1)
    | _ => .stuck := rfl
@[simp] theorem v_par (is : List Nat) (es : List E) : evS T C (.par is es) n ρ = (evL T C es n ρ).bind fun os ρ1 => R.grd ((walked os).all fun k => !is.contains k) (nxt (assigns ρ1 is os)) := rfl
@[simp] theorem v_setIx (i : Nat) (k e : E) : evS T C (.setIx i k e) n ρ = (evE T C e n ρ).bind fun o ρ1 => R.opt (keep ρ1 o) fun p => R.grd (isLM p.2 i) ((evE T C k n p.2).bind fun y ρ2 => nxt (setAt ρ2 i y p.1)) := rfl
@[simp] theorem v_if (c : E) (a b : List S) : evS T C (.ite c a b) n ρ = ifB (asT (evE T C c n ρ)) (evB T C a n) (evB T C b n) := rfl
@[simp] theorem v_for (tg : Tg) (k : Ik) (es : List E) (b : List S) : evS T C (.for_ tg k es b) n ρ = (iterF k (evL T C es n ρ)).bind fun p ρ1 => R.grd (p.2.all fun i => !(slots tg ++ setss b).contains i) (forL p.2 ρ1 tg (evB T C b n) p.1 ρ1) := rfl
@[simp] theorem v_while (c : E) (b : List S) : evS T C (.while_ c b) n ρ = whileL (fun ρ => asT (evE T C c n ρ)) (evB T C b n) big ρ := rfl
@[simp] theorem v_raise (c : Nat) : evS T C (.raise c) n ρ = .exc c ρ := rfl
@[simp] theorem v_bnil : evB T C [] n ρ = .ok .nx ρ := rfl
@[simp] theorem v_bcons (s : S) (ss : List S) : evB T C (s :: ss) n ρ = (evS T C s n ρ).bind fun fl ρ1 => match fl with
    | .nx => evB T C ss n ρ1
    | fl => .ok fl ρ1 := rfl
end
section
variable (ρ : Ev)
@[simp] theorem ifB_t {α : Type} (f g : Ev → R α) : ifB (.ok true ρ) f g = f ρ := rfl
@[simp] theorem ifB_f {α : Type} (f g : Ev → R α) : ifB (.ok false ρ) f g = g ρ := rfl
theorem ifB_b {α : Type} (b : Bool) (f g : Ev → R α) : ifB (.ok b ρ) f g = if b = true then f ρ else g ρ := rfl
@[simp] theorem ifB_exc {α : Type} (c : Nat) (f g : Ev → R α) : ifB (.exc c ρ) f g = .exc c ρ := rfl
@[simp] theorem asT_d (x : D) : asT (.ok (.d x) ρ) = R.opt (truth (.d x)) fun b => .ok b ρ := rfl
@[simp] theorem asT_L (x : List D) : asT (.ok (.L x) ρ) = .ok (!x.isEmpty) ρ := rfl
@[simp] theorem asT_exc (c : Nat) : asT (.exc c ρ) = .exc c ρ := rfl
@[simp] theorem asI_d (i : Int) : asI (.ok (.d (.int i)) ρ) = .ok (some i) ρ := rfl
@[simp] theorem asI_exc (c : Nat) : asI (.exc c ρ) = .exc c ρ := rfl
@[simp] theorem onB_b (s b : Bool) (f : Ev → R O) : onB s (.ok (.d (.bl b)) ρ) f = if b = s then .ok (.d (.bl b)) ρ else f ρ := rfl
@[simp] theorem onB_exc (s : Bool) (c : Nat) (f : Ev → R O) : onB s (.exc c ρ) f = .exc c ρ := rfl
@[simp] theorem truth_bl (b : Bool) : truth (.d (.bl b)) = some b := rfl
@[simp] theorem rs_d (x : D) : rs ρ (.d x) = .d x := rfl
@[simp] theorem rs_L (x : List D) : rs ρ (.L x) = .L x := rfl
@[simp] theorem okb_some (b : Bool) : okb (some b) ρ = .ok (.d (.bl b)) ρ := rfl
@[simp] theorem oko_some (o : O) : oko (some o) ρ = .ok o ρ := rfl
@[simp] theorem okd_some (x : D) : okd (some x) ρ = .ok (.d x) ρ := rfl
@[simp] theorem keep_d (x : D) : keep ρ (.d x) = some (x, ρ) := rfl
@[simp] theorem keep_L (x : List D) : keep ρ (.L x) = some (.lst x, ρ) := rfl
@[simp] theorem keeps_nil : keeps ρ [] = some ([], ρ) := rfl
@[simp] theorem keeps_d (x : D) (os : List O) : keeps ρ (.d x :: os) = (keeps ρ os).map fun p => (x :: p.1, p.2) := by
  show (match keeps ρ os with | none => none | some (xs, ρ2) => some (x :: xs, ρ2)) = _
  cases keeps ρ os <;> rfl
@[simp] theorem keeps_L (x : List D) (os : List O) : keeps ρ (.L x :: os) = (keeps ρ os).map fun p => (.lst x :: p.1, p.2) := by
  show (match keeps ρ os with | none => none | some (xs, ρ2) => some (D.lst x :: xs, ρ2)) = _
  cases keeps ρ os <;> rfl
@[simp] theorem assign_d (i : Nat) (x : D) : assign ρ i (.d x) = store ρ i (.d x) := rfl
@[simp] theorem assign_L (i : Nat) (x : List D) : assign ρ i (.L x) = store ρ i (.L false x) := rfl
@[simp] theorem walked_nil : walked [] = [] := rfl
@[simp] theorem walked_d (x : D) (os : List O) : walked (.d x :: os) = walked os := rfl
@[simp] theorem walked_L (x : List D) (os : List O) : walked (.L x :: os) = walked os := rfl
@[simp] theorem walked_bor (i : Nat) (os : List O) : walked (.bor i :: os) = i :: walked os := rfl
@[simp] theorem give_d (x : D) : give ρ (.d x) = some (.d x, ρ) := rfl
@[simp] theorem give_L (x : List D) : give ρ (.L x) = some (.L x, ρ) := rfl
@[simp] theorem cmp_lt_i (i j : Int) : cmp .lt (.d (.int i)) (.d (.int j)) = some (decide (i < j)) := rfl
@[simp] theorem cmp_le_i (i j : Int) : cmp .le (.d (.int i)) (.d (.int j)) = some (decide (i ≤ j)) := rfl
@[simp] theorem cmp_gt_i (i j : Int) : cmp .gt (.d (.int i)) (.d (.int j)) = some (decide (j < i)) := rfl
@[simp] theorem cmp_ge_i (i j : Int) : cmp .ge (.d (.int i)) (.d (.int j)) = some (decide (j ≤ i)) := rfl
theorem lim_int (i : Int) (n : Nat) : lim (.int i) n = true := by cases n <;> simp [lim]
theorem lim_bl (i : Bool) (n : Nat) : lim (.bl i) n = true := by cases n <;> simp [lim]
theorem lim_str (i : Nat) (n : Nat) : lim (.str i) n = true := by cases n <;> simp [lim]
theorem lim_non (n : Nat) : lim .non n = true := by cases n <;> simp [lim]
@[simp] theorem same_ii (i j : Int) : same (.int i) (.int j) = some (i == j) := by simp [same, lim_int, eqb]
@[simp] theorem same_ss (i j : Nat) : same (.str i) (.str j) = some (i == j) := by simp [same, lim_str, eqb]
@[simp] theorem same_bb (i j : Bool) : same (.bl i) (.bl j) = some (i == j) := by simp [same, lim_bl, eqb]
@[simp] theorem cmp_eq_d (x y : D) : cmp .eq (.d x) (.d y) = same x y := rfl
@[simp] theorem cmp_ne_d (x y : D) : cmp .ne (.d x) (.d y) = (same x y).map (!·) := rfl
@[simp] theorem cmp_is_non (x : D) : cmp .is_ (.d x) (.d .non) = some (isNon x) := rfl
@[simp] theorem cmp_isnot_non (x : D) : cmp .isnot (.d x) (.d .non) = some (!isNon x) := rfl
@[simp] theorem cmp_is_bl (x : D) (c : Bool) : cmp .is_ (.d x) (.d (.bl c)) = some (isBl c x) := rfl
@[simp] theorem bin_add_i (i j : Int) : bin .add (.d (.int i)) (.d (.int j)) = some (.d (.int (i + j))) := rfl
@[simp] theorem bin_sub_i (i j : Int) : bin .sub (.d (.int i)) (.d (.int j)) = some (.d (.int (i - j))) := rfl
@[simp] theorem bin_mod_i (i j : Int) (h : 0 < j) : bin .mod (.d (.int i)) (.d (.int j)) = some (.d (.int (i % j))) := by simp [bin, modO, h]
@[simp] theorem bin_fdiv_i (i j : Int) (h : 0 < j) (h2 : j < 1073741824) : bin .fdiv (.d (.int i)) (.d (.int j)) = some (.d (.int (i / j))) := by simp [bin, fdivO, h, h2]
@[simp] theorem bin_mul_i (i j : Int) (h : (sml i || sml j) = true) : bin .mul (.d (.int i)) (.d (.int j)) = some (.d (.int (i * j))) := by simp [bin, mulO, h]
@[simp] theorem calm_ok {α : Type} (a : α) : (R.ok a ρ).calm = .ok a ρ := rfl
@[simp] theorem len_tup (xs : List D) : blt .len [.d (.tup xs)] = some (.d (.int xs.length)) := rfl
@[simp] theorem len_lst (xs : List D) : blt .len [.d (.lst xs)] = some (.d (.int xs.length)) := rfl
@[simp] theorem len_L (xs : List D) : blt .len [.L xs] = some (.d (.int xs.length)) := rfl
@[simp] theorem tuple_L (xs : List D) : blt .tuple [.L xs] = some (.d (.tup xs)) := rfl
@[simp] theorem tuple_tup (xs : List D) : blt .tuple [.d (.tup xs)] = some (.d (.tup xs)) := rfl
@[simp] theorem index_tup (xs : List D) (i : Int) : index (.d (.tup xs)) (.d (.int i)) = at_ xs i := rfl
@[simp] theorem index_lst (xs : List D) (i : Int) : index (.d (.lst xs)) (.d (.int i)) = at_ xs i := rfl
@[simp] theorem index_L (xs : List D) (i : Int) : index (.L xs) (.d (.int i)) = at_ xs i := rfl
@[simp] theorem at_nat (xs : List D) (i : Nat) : at_ xs (i : Int) = xs[i]? := by
  unfold at_ place
  rw [if_pos (by omega)]
  split
  · simp
  · next h => simp; omega
@[simp] theorem at_0 (xs : List D) : at_ xs 0 = xs[0]? := at_nat xs 0
@[simp] theorem at_1 (xs : List D) : at_ xs 1 = xs[1]? := at_nat xs 1
@[simp] theorem at_2 (xs : List D) : at_ xs 2 = xs[2]? := at_nat xs 2
@[simp] theorem isTy_d (t : Ty) (x : D) : isTy t (.d x) = some (match x, t with
    | .bl _, .int => true | .bl _, .bool => true | .int _, .int => true | .str _, .str => true | .tup _, .tuple => true | .lst _, .list => true | _, _ => false) := rfl
end
/-- a call with data alone -/
def arg (x : D) : Option W := some (.d x)
theorem handL_d (ρ : Ev) (xs : List D) : handL ρ (xs.map O.d) = some (xs.map arg) := by
  induction xs with
  | nil => rfl
  | cons x xs ih =>
    show ((handL ρ (xs.map O.d)).map (some (W.d x) :: ·)) = _
    rw [ih]; rfl
theorem walked_ds (xs : List D) : walked (xs.map O.d) = [] := by
  induction xs with
  | nil => rfl
  | cons x xs ih => exact ih
theorem handB_d (ρ : Ev) (xs : List D) : ∀ r : Ev, r.length = xs.length → handB ρ (xs.map O.d) r = some ρ := by
  induction xs with
  | nil => intro r h; cases r <;> rfl
  | cons x xs ih =>
    intro r h
    cases r with
    | nil => cases h
    | cons a r => exact ih r (by simpa using h)
/-- a call by data: what the def hands back, the slots untouched -/
theorem callF_d (T : Top) (ds : List Def) (m f : Nat) (xs : List D) (ρ : Ev) (y : D) (r : Ev) (h : call T ds m f (xs.map arg) = .ok (.d y) r) (hr : r.length = xs.length) :
    callF (calls T ds m) m f (xs.map O.d) ρ = .ok (.d y) ρ := by
  unfold callF
  rw [walked_ds, handL_d]
  show (match (call T ds m f (xs.map arg) : R O) with
    | .ok o ρ1 => if isBor o = true then R.stuck else R.opt (handB ρ (xs.map O.d) ρ1) fun ρ2 => .ok o ρ2
    | .exc c ρ1 => R.opt (handB ρ (xs.map O.d) ρ1) fun ρ2 => .exc c ρ2
    | .stuck => R.stuck) = _
  rw [h]
  simp [isBor, handB_d ρ xs r hr]
theorem outs_d (xs : List D) : ∀ ρ : Ev, xs.length ≤ ρ.length → outs xs.length (xs.map arg) ρ = some (List.replicate xs.length none) := by
  induction xs with
  | nil => intro ρ h; cases ρ <;> rfl
  | cons x xs ih =>
    intro ρ h
    cases ρ with
    | nil => cases h
    | cons a r =>
      show ((outs xs.length (xs.map arg) r).map ((none : Option W) :: ·)) = _
      rw [ih r (by simpa using h)]; rfl
end Ev
/-! Pw: how a def's run is told from its body's, by data. -/
namespace Ev
@[simp] theorem optInt_i (i : Int) : optInt (.d (.int i)) = some i := rfl
@[simp] theorem nxt_ok (ρ : Ev) : nxt (some ρ) = .ok .nx ρ := rfl
@[simp] theorem whileL_s (t : Ev → R Bool) (b : Ev → R Fl) (m : Nat) (ρ : Ev) : whileL t b (m + 1) ρ = ifB (t ρ) (fun ρ1 => (b ρ1).bind fun fl ρ2 => match fl with
      | .nx => whileL t b m ρ2
      | .cont => whileL t b m ρ2
      | .brk => .ok .nx ρ2
      | .ret o => .ok (.ret o) ρ2) (fun ρ1 => .ok .nx ρ1) := rfl
/-- what a body's run hands back -/
def fin (k : Nat) : R Fl → Option O
  | .ok (.ret (.d y)) ρ => if k ≤ ρ.length then some (.d y) else none
  | .ok (.ret (.L y)) ρ => if k ≤ ρ.length then some (.L y) else none
  | .ok .nx ρ => if k ≤ ρ.length then some (.d .non) else none
  | _ => none
@[simp] theorem fin_d (k : Nat) (y : D) (ρ : Ev) : fin k (.ok (.ret (.d y)) ρ) = if k ≤ ρ.length then some (.d y) else none := rfl
@[simp] theorem fin_L (k : Nat) (y : List D) (ρ : Ev) : fin k (.ok (.ret (.L y)) ρ) = if k ≤ ρ.length then some (.L y) else none := rfl
@[simp] theorem fin_nx (k : Nat) (ρ : Ev) : fin k (.ok .nx ρ) = if k ≤ ρ.length then some (.d .non) else none := rfl
theorem runD_fin (T : Top) (C : Calls) (d : Def) (n : Nat) (xs : List D) (o : O) (hl : xs.length = d.np) (h : fin xs.length (evB T C d.body n (xs.map arg ++ List.replicate d.nl none)) = some o) :
    runD T C d n (xs.map arg) = .ok o (List.replicate xs.length none) ∧ isBor o = false := by
  unfold runD
  rw [if_pos (by simpa using hl)]
  cases hb : evB T C d.body n (xs.map arg ++ List.replicate d.nl none) with
  | stuck => rw [hb] at h; cases h
  | exc c ρ => rw [hb] at h; cases h
  | ok fl ρ =>
    rw [hb] at h
    cases fl with
    | brk => cases h
    | cont => cases h
    | nx =>
      rw [fin_nx] at h
      split at h
      · next hk =>
        cases h
        simp [outs_d xs ρ hk, isBor]
      · cases h
    | ret r =>
      cases r with
      | bor i => cases h
      | M t kv => cases h
      | F f => cases h
      | Z kvs => cases h
      | d y =>
        rw [fin_d] at h
        split at h
        · next hk =>
          cases h
          simp [outs_d xs ρ hk, isBor]
        · cases h
      | L y =>
        rw [fin_L] at h
        split at h
        · next hk =>
          cases h
          simp [outs_d xs ρ hk, isBor]
        · cases h
/-- a call by data, from its body's run -/
theorem callF_fin (T : Top) (ds : List Def) (m f : Nat) (d : Def) (hd : ds[f]? = some d) (xs : List D) (ρ : Ev) (o : O) (hl : xs.length = d.np) (h : fin xs.length (evB T (calls T ds m) d.body m (xs.map arg ++ List.replicate d.nl none)) = some o) :
    callF (calls T ds (m + 1)) (m + 1) f (xs.map O.d) ρ = .ok o ρ := by
  obtain ⟨h1, h2⟩ := runD_fin T (calls T ds m) d m xs o hl h
  unfold callF
  rw [walked_ds, handL_d]
  have e : calls T ds (m + 1) (m + 1) f (xs.map arg) = .ok o (List.replicate xs.length none) := by
    show call T ds (m + 1) f (xs.map arg) = _
    rw [call_succ, hd]
    exact h1
  simp only [onceEach, if_true, R.opt_some]
  rw [e]
  simp [h2, handB_d]
/-- a call by data that raises -/
def exB (k : Nat) : R Fl → Option Nat
  | .exc c ρ => if k ≤ ρ.length then some c else none
  | _ => none
@[simp] theorem exB_exc (k c : Nat) (ρ : Ev) : exB k (.exc c ρ) = if k ≤ ρ.length then some c else none := rfl
/-- walks of comprehensions that leave the slots: each turn by itself -/
theorem walkL_map (turn : D → List D → Ev → R (List D)) (ρ : Ev) (f : D → List D) : ∀ (xs acc : List D), (∀ x ∈ xs, ∀ acc : List D, acc.length ≤ (acc.length + (xs.length - 1)) → turn x acc ρ = .ok (acc ++ f x) ρ) → walkL turn xs acc ρ = .ok (acc ++ xs.flatMap f) ρ
  | [], acc, _ => by simp [walkL]
  | x :: xs, acc, h => by
    show (turn x acc ρ).bind (walkL turn xs) = _
    rw [h x (by simp) acc (by simp)]
    show walkL turn xs (acc ++ f x) ρ = _
    rw [walkL_map turn ρ f xs (acc ++ f x) (fun y hy a ha => h y (List.mem_cons_of_mem _ hy) a (by simp))]
    simp
/-- a one-clause comprehension over data: what it holds -/
theorem comp_pure (own : List Nat) (ρ1 : Ev) (tg : Tg) (tests : Ev → R Bool) (elt : Ev → R O) (xs : List D) (f : D → List D)
    (hb : back ρ1 (wipe ρ1 own) own = ρ1) (hc : xs.length ≤ cap)
    (h : ∀ x ∈ xs, ∃ ρ2, bindT tg x (wipe ρ1 own) = some ρ2 ∧ wipe ρ2 own = wipe ρ1 own ∧ ((tests ρ2 = .ok false ρ2 ∧ f x = []) ∨ (tests ρ2 = .ok true ρ2 ∧ ∃ y, elt ρ2 = .ok (.d y) ρ2 ∧ f x = [y]))) :
    compEnd own ρ1 [] (walkL (compTurn own ρ1 [] tg tests elt) xs [] (wipe ρ1 own)) = .ok (.L (xs.flatMap f)) ρ1 := by
  have hl : ∀ (ys acc : List D), (∀ x ∈ ys, x ∈ xs) → acc.length + ys.length ≤ cap → walkL (compTurn own ρ1 [] tg tests elt) ys acc (wipe ρ1 own) = .ok (acc ++ ys.flatMap f) (wipe ρ1 own) := by
    intro ys
    induction ys with
    | nil => intro acc _ _; simp [walkL]
    | cons x ys ih =>
      intro acc hm hcap
      obtain ⟨ρ2, e1, e2, e3⟩ := h x (hm x (by simp))
      show (compTurn own ρ1 [] tg tests elt x acc (wipe ρ1 own)).bind (walkL _ ys) = _
      have hcap' : acc.length + (ys.length + 1) ≤ cap := by simpa using hcap
      have ht : compTurn own ρ1 [] tg tests elt x acc (wipe ρ1 own) = .ok (acc ++ f x) (wipe ρ1 own) := by
        have hlt : acc.length < cap := by omega
        unfold compTurn
        rcases e3 with ⟨t, fx⟩ | ⟨t, y, ey, fx⟩
        · simp [stands, e1, t, fx, e2]
        · simp only [stands, if_true, e1, R.opt_some, t, ifB_t, ey, R.bind_ok, keep_d, hlt, e2, fx]
      rw [ht]
      show walkL (compTurn own ρ1 [] tg tests elt) ys (acc ++ f x) (wipe ρ1 own) = _
      have hf : (f x).length ≤ 1 := by
        rcases e3 with ⟨t, fx⟩ | ⟨t, y, ey, fx⟩ <;> simp [fx]
      rw [ih (acc ++ f x) (fun z hz => hm z (List.mem_cons_of_mem _ hz)) (by simp; omega)]
      simp
  unfold compEnd
  rw [hl xs [] (fun x h => h) (by simpa using hc)]
  simp [stands, hb]
/-- all of them true -/
theorem bols_map (xs : List D) (p : D → Bool) : bolsOf (xs.flatMap fun x => [D.bl (p x)]) = some (xs.map p) := by
  induction xs with
  | nil => rfl
  | cons x xs ih =>
    show (bolsOf (xs.flatMap fun x => [D.bl (p x)])).map (p x :: ·) = _
    rw [ih]; rfl
theorem all_comp (xs : List D) (p : D → Bool) : blt .all [.L (xs.flatMap fun x => [D.bl (p x)])] = some (.d (.bl (xs.all p))) := by
  show ((itemsL (.L (xs.flatMap fun x => [D.bl (p x)]))).bind fun xs => (bolsOf xs).map fun bs => O.d (.bl (bs.all id))) = _
  show ((bolsOf (xs.flatMap fun x => [D.bl (p x)])).map fun bs => O.d (.bl (bs.all id))) = _
  rw [bols_map]
  simp [List.all_map]
theorem any_comp (xs : List D) (p : D → Bool) : blt .any [.L (xs.flatMap fun x => [D.bl (p x)])] = some (.d (.bl (xs.any p))) := by
  show ((bolsOf (xs.flatMap fun x => [D.bl (p x)])).map fun bs => O.d (.bl (bs.any id))) = _
  rw [bols_map]
  simp [List.any_map]
end Ev
/-! Pg0: plain rules for the evaluator that every law shares (1). -/
namespace Ev
@[simp] theorem iter_tup (ρ : Ev) (xs : List D) : iterF .seq (.ok [.d (.tup xs)] ρ) = .ok (xs, []) ρ := rfl
@[simp] theorem iter_lst (ρ : Ev) (xs : List D) : iterF .seq (.ok [.d (.lst xs)] ρ) = .ok (xs, []) ρ := rfl
@[simp] theorem iter_L (ρ : Ev) (xs : List D) : iterF .seq (.ok [.L xs] ρ) = .ok (xs, []) ρ := rfl
@[simp] theorem iter_enumT (ρ : Ev) (xs : List D) : iterF .enum (.ok [.d (.tup xs)] ρ) = .ok (enumFrom 0 xs, []) ρ := rfl
@[simp] theorem iter_enumL (ρ : Ev) (xs : List D) : iterF .enum (.ok [.d (.lst xs)] ρ) = .ok (enumFrom 0 xs, []) ρ := rfl
@[simp] theorem int_i (i : Int) : blt .int [.d (.int i)] = some (.d (.int i)) := rfl
@[simp] theorem int_b (b : Bool) : blt .int [.d (.bl b)] = some (.d (.int (if b then 1 else 0))) := rfl
@[simp] theorem abs_i (i : Int) : blt .abs [.d (.int i)] = some (.d (.int (if i < 0 then -i else i))) := rfl
@[simp] theorem v_comp2 (T : Top) (C : Calls) (n : Nat) (ρ : Ev) (elt : E) (t1 : Tg) (k1 : Ik) (e1 : List E) (t2 : Tg) (k2 : Ik) (e2 ifs : List E) (own : List Nat) : evE T C (.comp2 elt t1 k1 e1 t2 k2 e2 ifs own) n ρ = (iterF k1 (evL T C e1 n ρ)).bind fun p ρ1 => compEnd own ρ1 p.2 (walkL (compTurn2 own ρ1 p.2 t1 (fun ρ2 => iterF k2 (evL T C e2 n ρ2)) (slots t2)
      fun ρ3 ws2 => compTurn (slots t2) ρ3 ws2 t2 (evTs T C ifs n) (evE T C elt n)) p.1 [] (wipe ρ1 own)) := rfl
@[simp] theorem v_fns (T : Top) (C : Calls) (n : Nat) (ρ : Ev) (fs : List Nat) (a : E) : evE T C (.fns fs a) n ρ = (evE T C a n ρ).bind fun y ρ1 => fnS fs y ρ1 := rfl
@[simp] theorem v_callv (T : Top) (C : Calls) (n i : Nat) (ρ : Ev) (es : List E) : evE T C (.callv i es) n ρ = callvS C n i ρ (evL T C es n ρ) := rfl
@[simp] theorem v_aug (T : Top) (C : Calls) (n : Nat) (ρ : Ev) (i : Nat) (op : Bop) (e : E) : evS T C (.aug i op e) n ρ = match ρ[i]? with
    | some (some (.d (.int a))) => (evE T C e n ρ).bind fun o ρ1 => R.opt (optInt o) fun b => R.opt (augI op a b) fun z => nxt (store ρ1 i (.d (.int z)))
    | _ => .stuck := rfl
@[simp] theorem v_retN (T : Top) (C : Calls) (n : Nat) (ρ : Ev) : evS T C .retN n ρ = .ok (.ret (.d .non)) ρ := rfl
@[simp] theorem v_pass (T : Top) (C : Calls) (n : Nat) (ρ : Ev) : evS T C .pass n ρ = .ok .nx ρ := rfl
@[simp] theorem v_brk (T : Top) (C : Calls) (n : Nat) (ρ : Ev) : evS T C .brk n ρ = .ok .brk ρ := rfl
@[simp] theorem v_cont (T : Top) (C : Calls) (n : Nat) (ρ : Ev) : evS T C .cont n ρ = .ok .cont ρ := rfl
theorem evB_nx {T : Top} {C : Calls} {s : S} {n : Nat} {ρ ρ' : Ev} (h : evS T C s n ρ = .ok .nx ρ') (ss : List S) : evB T C (s :: ss) n ρ = evB T C ss n ρ' := by
  rw [v_bcons, h]; rfl
theorem evB_fl {T : Top} {C : Calls} {s : S} {n : Nat} {ρ ρ' : Ev} {o : O} (h : evS T C s n ρ = .ok (.ret o) ρ') (ss : List S) : evB T C (s :: ss) n ρ = .ok (.ret o) ρ' := by
  rw [v_bcons, h]; rfl
theorem evB_cont {T : Top} {C : Calls} {s : S} {n : Nat} {ρ ρ' : Ev} (h : evS T C s n ρ = .ok .cont ρ') (ss : List S) : evB T C (s :: ss) n ρ = .ok .cont ρ' := by
  rw [v_bcons, h]; rfl
theorem evB_exc {T : Top} {C : Calls} {s : S} {n : Nat} {ρ ρ' : Ev} {c : Nat} (h : evS T C s n ρ = .exc c ρ') (ss : List S) : evB T C (s :: ss) n ρ = .exc c ρ' := by
  rw [v_bcons, h]; rfl
/-! ### equality -/
mutual
theorem beq_refl : ∀ x : D, D.beq x x = true
  | .non => by simp [D.beq]
  | .bl b => by simp [D.beq]
  | .int i => by simp [D.beq]
  | .str s => by simp [D.beq]
  | .tup xs => by simp [D.beq, beqs_refl xs]
  | .lst xs => by simp [D.beq, beqs_refl xs]
theorem beqs_refl : ∀ xs : List D, D.beqs xs xs = true
  | [] => by simp [D.beqs]
  | x :: xs => by simp [D.beqs, beq_refl x, beqs_refl xs]
end
mutual
theorem eqb_refl : ∀ x : D, eqb x x = true
  | .non => by simp [eqb]
  | .bl b => by simp [eqb]
  | .int i => by simp [eqb]
  | .str s => by simp [eqb]
  | .tup xs => by simp [eqb, eqbs_refl xs]
  | .lst xs => by simp [eqb, eqbs_refl xs]
theorem eqbs_refl : ∀ xs : List D, eqbs xs xs = true
  | [] => by simp [eqbs]
  | x :: xs => by simp [eqbs, eqb_refl x, eqbs_refl xs]
end
theorem same_refl {x : D} (h : lim x 60 = true) : same x x = some true := by
  simp [same, limit, h, eqb_refl]
theorem limL_of {n : Nat} : ∀ xs : List D, (∀ x ∈ xs, lim x n = true) → limL xs n = true
  | [], _ => by simp [limL]
  | x :: xs, h => by
    simp only [limL, Bool.and_eq_true]
    exact ⟨h x (by simp), limL_of xs fun y hy => h y (List.mem_cons_of_mem _ hy)⟩
theorem lim_tup {n : Nat} {xs : List D} (h : ∀ x ∈ xs, lim x n = true) : lim (.tup xs) (n + 1) = true := by
  simp only [lim]
  exact limL_of xs h
theorem lim_lst {n : Nat} {xs : List D} (h : ∀ x ∈ xs, lim x n = true) : lim (.lst xs) (n + 1) = true := by
  simp only [lim]
  exact limL_of xs h
theorem eqbs_ints : ∀ xs ys : List Int, eqbs (xs.map D.int) (ys.map D.int) = decide (xs = ys)
  | [], [] => by simp [eqbs]
  | [], _ :: _ => by simp [eqbs]
  | _ :: _, [] => by simp [eqbs]
  | x :: xs, y :: ys => by
    simp [eqbs, eqb, eqbs_ints xs ys]
    rfl
theorem limL_ints : ∀ (xs : List Int) (n : Nat), limL (xs.map D.int) n = true
  | [], n => by simp [limL]
  | x :: xs, n => by simp [limL, lim_int, limL_ints xs n]
/-! ### ranges -/
theorem iter_rng (ρ : Ev) (a b : Int) (h : (inR a && inR b) = true) : iterF .rng (.ok [.d (.int a), .d (.int b)] ρ) = .ok (upTo a b, []) ρ := by
  simp only [iterF, R.bind_ok, List.map, rs_d, walk]
  rw [if_pos h]; rfl
theorem iter_rng1 (ρ : Ev) (b : Int) (h : inR b = true) : iterF .rng (.ok [.d (.int b)] ρ) = .ok (upTo 0 b, []) ρ := by
  simp only [iterF, R.bind_ok, List.map, rs_d, walk]
  rw [if_pos h]; rfl
theorem inR_sm (i : Int) (h0 : -100000000 ≤ i) (h1 : i ≤ 100000000) : inR i = true := by
  simp [inR]; omega
theorem inR_2 (a b : Int) (h0 : -100000000 ≤ a) (h1 : a ≤ 100000000) (h2 : -100000000 ≤ b) (h3 : b ≤ 100000000) : (inR a && inR b) = true := by
  rw [inR_sm a h0 h1, inR_sm b h2 h3]; rfl
theorem mem_upTo {lo hi : Int} {x : D} (h : x ∈ upTo lo hi) : ∃ k : Nat, lo + k < hi ∧ x = .int (lo + k) := by
  unfold upTo at h
  obtain ⟨k, hk, rfl⟩ := List.mem_map.mp h
  exact ⟨k, by have := List.mem_range.mp hk; omega, rfl⟩
theorem upTo_len (lo hi : Int) : (upTo lo hi).length = (hi - lo).toNat := by simp [upTo]
/-- the places below n, as a coded list -/
theorem upTo_nat (n : Nat) : upTo 0 n = (List.range n).map fun (k : Nat) => D.int k := by
  unfold upTo
  rw [show ((n : Int) - 0).toNat = n by omega]
  exact List.map_congr_left fun k _ => by congr 1; omega
theorem upTo_from (a n : Nat) : upTo a n = (List.range (n - a)).map fun (k : Nat) => D.int ((a + k : Nat) : Int) := by
  unfold upTo
  rw [show ((n : Int) - (a : Int)).toNat = n - a by omega]
  exact List.map_congr_left fun k _ => by congr 1
theorem enum_map {α : Type} (enc : α → D) : ∀ (as : List α) (k : Nat), enumFrom k (as.map enc) = (as.zipIdx k).map fun p => .tup [.int p.2, enc p.1]
  | [], k => rfl
  | a :: as, k => by
    show D.tup [.int k, enc a] :: enumFrom (k + 1) (as.map enc) = _
    rw [enum_map enc as (k + 1)]
    rfl
/-! ### comprehensions -/
theorem walk_enc {α : Type} (own : List Nat) (ρ1 : Ev) (ws : List Nat) (tg : Tg) (tests : Ev → R Bool) (elt : Ev → R O) (enc : α → D) (f : α → List D) (ρ : Ev) (hs : stands ρ1 ρ ws = true) : ∀ (ys : List α) (acc : List D),
    (∀ x ∈ ys, ∃ ρ2, bindT tg (enc x) ρ = some ρ2 ∧ wipe ρ2 own = ρ ∧ ((tests ρ2 = .ok false ρ2 ∧ f x = []) ∨ (tests ρ2 = .ok true ρ2 ∧ ∃ o y, elt ρ2 = .ok o ρ2 ∧ keep ρ2 o = some (y, ρ2) ∧ f x = [y]))) →
    acc.length + ys.length ≤ cap → walkL (compTurn own ρ1 ws tg tests elt) (ys.map enc) acc ρ = .ok (acc ++ ys.flatMap f) ρ
  | [], acc, _, _ => by simp [walkL]
  | x :: ys, acc, h, hcap => by
    obtain ⟨ρ2, e1, e2, e3⟩ := h x (by simp)
    show (compTurn own ρ1 ws tg tests elt (enc x) acc ρ).bind (walkL _ (ys.map enc)) = _
    have hcap' : acc.length + (ys.length + 1) ≤ cap := by simpa using hcap
    have ht : compTurn own ρ1 ws tg tests elt (enc x) acc ρ = .ok (acc ++ f x) ρ := by
      have hlt : acc.length < cap := by omega
      unfold compTurn
      rcases e3 with ⟨t, fx⟩ | ⟨t, o, y, ey, ek, fx⟩
      · simp only [hs, if_true, e1, R.opt_some, t, ifB_f, e2, fx, List.append_nil]
      · simp only [hs, if_true, e1, R.opt_some, t, ifB_t, ey, R.bind_ok, ek, hlt, e2, fx]
    rw [ht]
    show walkL (compTurn own ρ1 ws tg tests elt) (ys.map enc) (acc ++ f x) ρ = _
    have hf : (f x).length ≤ 1 := by
      rcases e3 with ⟨t, fx⟩ | ⟨t, o, y, ey, ek, fx⟩ <;> simp [fx]
    rw [walk_enc own ρ1 ws tg tests elt enc f ρ hs ys (acc ++ f x) (fun z hz => h z (List.mem_cons_of_mem _ hz)) (by simp; omega)]
    simp
/-- a comprehension of one clause over a coded list: g told of each that passes -/
theorem comp_enc {α : Type} (T : Top) (C : Calls) (n : Nat) (ρ : Ev) (elt : E) (tg : Tg) (k : Ik) (es ifs : List E) (own ws : List Nat) (as : List α) (enc : α → D) (p : α → Bool) (g : α → D)
    (he : iterF k (evL T C es n ρ) = .ok (as.map enc, ws) ρ) (hs : stands ρ (wipe ρ own) ws = true) (hb : back ρ (wipe ρ own) own = ρ) (hc : as.length ≤ cap)
    (h : ∀ x ∈ as, ∃ ρ2, bindT tg (enc x) (wipe ρ own) = some ρ2 ∧ wipe ρ2 own = wipe ρ own ∧ evTs T C ifs n ρ2 = .ok (p x) ρ2 ∧ (p x = true → ∃ o, evE T C elt n ρ2 = .ok o ρ2 ∧ keep ρ2 o = some (g x, ρ2))) :
    evE T C (.comp elt tg k es ifs own) n ρ = .ok (.L ((as.filter p).map g)) ρ := by
  rw [v_comp, he, R.bind_ok]
  unfold compEnd
  have e := walk_enc own ρ ws tg (evTs T C ifs n) (evE T C elt n) enc (fun x => if p x = true then [g x] else []) (wipe ρ own) hs as [] (fun x hx => by
    obtain ⟨ρ2, h1, h2, h3, h4⟩ := h x hx
    refine ⟨ρ2, h1, h2, ?_⟩
    by_cases c : p x = true
    · obtain ⟨o, h5, h6⟩ := h4 c
      exact .inr ⟨by rw [h3, c], o, g x, h5, h6, by rw [if_pos c]⟩
    · exact .inl ⟨by rw [h3]; simp at c; rw [c], by rw [if_neg c]⟩) (by simpa using hc)
  have f : (as.flatMap fun x => if p x = true then [g x] else []) = (as.filter p).map g := by
    clear e h hc he
    induction as with
    | nil => rfl
    | cons x xs ih => by_cases c : p x = true <;> simp [c, List.filter_cons, ih]
  rw [e, f]
  simp [hs, hb]
theorem comp_map {α : Type} (T : Top) (C : Calls) (n : Nat) (ρ : Ev) (elt : E) (tg : Tg) (k : Ik) (es : List E) (own ws : List Nat) (as : List α) (enc : α → D) (g : α → D)
    (he : iterF k (evL T C es n ρ) = .ok (as.map enc, ws) ρ) (hs : stands ρ (wipe ρ own) ws = true) (hb : back ρ (wipe ρ own) own = ρ) (hc : as.length ≤ cap)
    (h : ∀ x ∈ as, ∃ ρ2, bindT tg (enc x) (wipe ρ own) = some ρ2 ∧ wipe ρ2 own = wipe ρ own ∧ ∃ o, evE T C elt n ρ2 = .ok o ρ2 ∧ keep ρ2 o = some (g x, ρ2)) :
    evE T C (.comp elt tg k es [] own) n ρ = .ok (.L (as.map g)) ρ := by
  have e := comp_enc T C n ρ elt tg k es [] own ws as enc (fun _ => true) g he hs hb hc (fun x hx => by
    obtain ⟨ρ2, h1, h2, h3⟩ := h x hx
    exact ⟨ρ2, h1, h2, rfl, fun _ => h3⟩)
  rw [e, List.filter_eq_self.mpr (fun _ _ => rfl)]
theorem bols_enc {α : Type} (as : List α) (p : α → Bool) : bolsOf (as.map fun x => D.bl (p x)) = some (as.map p) := by
  induction as with
  | nil => rfl
  | cons x xs ih =>
    show (bolsOf (xs.map fun x => D.bl (p x))).map (p x :: ·) = _
    rw [ih]; rfl
theorem all_enc {α : Type} (as : List α) (p : α → Bool) : blt .all [.L (as.map fun x => D.bl (p x))] = some (.d (.bl (as.all p))) := by
  show ((bolsOf (as.map fun x => D.bl (p x))).map fun bs => O.d (.bl (bs.all id))) = _
  rw [bols_enc]
  simp [List.all_map]
theorem any_enc {α : Type} (as : List α) (p : α → Bool) : blt .any [.L (as.map fun x => D.bl (p x))] = some (.d (.bl (as.any p))) := by
  show ((bolsOf (as.map fun x => D.bl (p x))).map fun bs => O.d (.bl (bs.any id))) = _
  rw [bols_enc]
  simp [List.any_map]
theorem intsOf_ints : ∀ xs : List Int, intsOf (xs.map D.int) = some xs
  | [] => rfl
  | x :: xs => by simp [intsOf, intsOf_ints xs]
theorem sum_ints (xs : List Int) : blt .sum [.L (xs.map D.int)] = some (.d (.int xs.sum)) := by
  show ((itemsL (.L (xs.map D.int))).bind fun xs => (intsOf xs).bind fun ns => some (O.d (.int ns.sum))) = _
  simp [itemsL, intsOf_ints]
theorem all_ite (T : Top) (C : Calls) (k : Nat) (ρ : Ev) (ce : E) (res : List D) (b : List S) (hc : evE T C ce k ρ = .ok (.L res) ρ) (ha : blt .all [.L res] = some (.d (.bl true))) : evS T C (.ite (.not_ (.blt .all [ce])) b []) k ρ = .ok .nx ρ := by
  simp [hc, ha]
/-! ### loops -/
inductive Go (σ : Type) where
  | go (s : σ) | ret (o : O) (s : σ) | brk (s : σ)
def runL {α σ : Type} (step : σ → α → Go σ) : List α → σ → Go σ
  | [], s => .go s
  | a :: as, s => match step s a with
    | .go s => runL step as s
    | .ret o s => .ret o s
    | .brk s => .brk s
/-- a turn's end -/
def Ends {σ : Type} (st : σ → Ev) (r : R Fl) : Go σ → Prop
  | .go s => r = .ok .nx (st s) ∨ r = .ok .cont (st s)
  | .ret o s => r = .ok (.ret o) (st s)
  | .brk s => r = .ok .brk (st s)
def goR {σ : Type} (st : σ → Ev) : Go σ → R Fl
  | .go s => .ok .nx (st s)
  | .ret o s => .ok (.ret o) (st s)
  | .brk s => .ok .nx (st s)
theorem forL_run {α σ : Type} (ws : List Nat) (ρ0 : Ev) (tg : Tg) (body : Ev → R Fl) (enc : α → D) (st : σ → Ev) (step : σ → α → Go σ) (I : σ → Prop) (hs : ∀ s, I s → stands ρ0 (st s) ws = true) : ∀ (as : List α) (s : σ), I s →
    (∀ s a, I s → a ∈ as → ∃ ρ1, bindT tg (enc a) (st s) = some ρ1 ∧ Ends st (body ρ1) (step s a) ∧ ∀ s', step s a = .go s' → I s') →
    forL ws ρ0 tg body (as.map enc) (st s) = goR st (runL step as s) ∧ ∀ s', runL step as s = .go s' → I s'
  | [], s, hi, _ => ⟨by simp [forL, hs s hi, runL, goR], fun s' e => by cases e; exact hi⟩
  | a :: as, s, hi, h => by
    obtain ⟨ρ1, e1, e2, i2⟩ := h s a hi (by simp)
    have hst := hs s hi
    cases e : step s a with
    | go s2 =>
      rw [e] at e2
      obtain ⟨f1, f2⟩ := forL_run ws ρ0 tg body enc st step I hs as s2 (i2 s2 e) (fun s b hi hb => h s b hi (List.mem_cons_of_mem _ hb))
      have hr : runL step (a :: as) s = runL step as s2 := by
        show (match step s a with | .go s => runL step as s | .ret o s => .ret o s | .brk s => .brk s) = _
        rw [e]
      rw [hr]
      refine ⟨?_, f2⟩
      rw [← f1]
      rcases e2 with e2 | e2
      · simp [forL, hst, e1, e2]
      · simp [forL, hst, e1, e2]
    | ret o s2 =>
      rw [e] at e2
      have e2 : body ρ1 = .ok (.ret o) (st s2) := e2
      have hr : runL step (a :: as) s = .ret o s2 := by
        show (match step s a with | .go s => runL step as s | .ret o s => .ret o s | .brk s => .brk s) = _
        rw [e]
      rw [hr]
      exact ⟨by simp [forL, hst, e1, e2, goR], fun s' z => by cases z⟩
    | brk s2 =>
      rw [e] at e2
      have e2 : body ρ1 = .ok .brk (st s2) := e2
      have hr : runL step (a :: as) s = .brk s2 := by
        show (match step s a with | .go s => runL step as s | .ret o s => .ret o s | .brk s => .brk s) = _
        rw [e]
      rw [hr]
      exact ⟨by simp [forL, hst, e1, e2, goR], fun s' z => by cases z⟩
/-- a for loop that only goes on -/
theorem runL_go {α σ : Type} (f : σ → α → σ) : ∀ (as : List α) (s : σ), runL (fun s a => .go (f s a)) as s = .go (as.foldl f s)
  | [], s => rfl
  | a :: as, s => runL_go f as (f s a)
/-- a slot that holds data or nothing -/
abbrev dw (o : Option D) : Option W := o.map W.d
@[simp] theorem dw_some (x : D) : dw (some x) = some (.d x) := rfl
@[simp] theorem dw_none : dw none = none := rfl
theorem free_dw (ρ : Ev) (i : Nat) (o : Option D) (h : ρ[i]? = some (dw o)) : free ρ i = true := by
  unfold free
  rw [h]
  cases o <;> rfl
theorem store_dw (ρ : Ev) (i : Nat) (o : Option D) (w : W) (h : ρ[i]? = some (dw o)) : store ρ i w = some (ρ.set i (some w)) := by
  unfold store
  rw [free_dw ρ i o h]
  rfl
theorem forL_keep (ws : List Nat) (ρ0 : Ev) (tg : Tg) (body : Ev → R Fl) (Inv : Ev → Prop) (hs : ∀ ρ, Inv ρ → stands ρ0 ρ ws = true) : ∀ (xs : List D) (ρ : Ev), Inv ρ →
    (∀ x ∈ xs, ∀ ρ, Inv ρ → ∃ ρ1 ρ2, bindT tg x ρ = some ρ1 ∧ body ρ1 = .ok .nx ρ2 ∧ Inv ρ2) → ∃ ρ', forL ws ρ0 tg body xs ρ = .ok .nx ρ' ∧ Inv ρ'
  | [], ρ, hi, _ => ⟨ρ, by simp [forL, hs ρ hi], hi⟩
  | x :: xs, ρ, hi, h => by
    obtain ⟨ρ1, ρ2, e1, e2, i2⟩ := h x (by simp) ρ hi
    obtain ⟨ρ', e3, i3⟩ := forL_keep ws ρ0 tg body Inv hs xs ρ2 i2 (fun y hy => h y (List.mem_cons_of_mem _ hy))
    refine ⟨ρ', ?_, i3⟩
    simp only [forL, hs ρ hi, if_true, e1, R.opt_some, e2, R.bind_ok]
    exact e3
/-! ### walks that change a slot -/
inductive All2 {α β : Type} (Q : α → β → Prop) : List α → List β → Prop
  | nil : All2 Q [] []
  | cons {x y xs ys} : Q x y → All2 Q xs ys → All2 Q (x :: xs) (y :: ys)
theorem All2.len {α β : Type} {Q : α → β → Prop} {xs : List α} {ys : List β} (h : All2 Q xs ys) : ys.length = xs.length := by
  induction h with
  | nil => rfl
  | cons _ _ ih => simp [ih]
theorem walk_inv (turn : D → List D → Ev → R (List D)) (Inv : Ev → Prop) (Q : D → D → Prop) : ∀ (xs acc : List D) (ρ : Ev), Inv ρ → acc.length + xs.length ≤ cap →
    (∀ x ∈ xs, ∀ (acc : List D) (ρ : Ev), Inv ρ → acc.length < cap → ∃ y ρ', turn x acc ρ = .ok (acc ++ [y]) ρ' ∧ Inv ρ' ∧ Q x y) →
    ∃ ys ρ', walkL turn xs acc ρ = .ok (acc ++ ys) ρ' ∧ Inv ρ' ∧ All2 Q xs ys
  | [], acc, ρ, hi, _, _ => ⟨[], ρ, by simp [walkL], hi, .nil⟩
  | x :: xs, acc, ρ, hi, hc, h => by
    have hc' : acc.length + (xs.length + 1) ≤ cap := by simpa using hc
    obtain ⟨y, ρ1, e, i1, q⟩ := h x (by simp) acc ρ hi (by omega)
    obtain ⟨ys, ρ2, e2, i2, q2⟩ := walk_inv turn Inv Q xs (acc ++ [y]) ρ1 i1 (by rw [List.length_append]; simp; omega) (fun z hz => h z (List.mem_cons_of_mem _ hz))
    refine ⟨y :: ys, ρ2, ?_, i2, .cons q q2⟩
    show (turn x acc ρ).bind (walkL turn xs) = _
    rw [e]
    show walkL turn xs (acc ++ [y]) ρ1 = _
    rw [e2]
    simp
end Ev
/-! Pg1: plain rules that every law shares (2): calls, draws, what is read back. -/
namespace Ev
theorem callF_le (T : Top) (ds : List Def) {m k : Nat} (h : m ≤ k) (f : Nat) (os : List O) (ρ : Ev) : callF (calls T ds k) m f os ρ = callF (calls T ds m) m f os ρ := by
  unfold callF
  rw [calls_le T ds h]
/-- a def by what it computes of data, at every level from lv on -/
def Does (T : Top) (ds : List Def) (lv f : Nat) (xs : List D) (o : O) : Prop := ∀ m, lv ≤ m → ∀ ρ, callF (calls T ds m) m f (xs.map O.d) ρ = .ok o ρ
def Raises (T : Top) (ds : List Def) (lv f : Nat) (xs : List D) (c : Nat) : Prop := ∀ m, lv ≤ m → ∀ ρ, callF (calls T ds m) m f (xs.map O.d) ρ = .exc c ρ
theorem Does.of {T : Top} {ds : List Def} {lv f : Nat} (d : Def) (hd : ds[f]? = some d) (xs : List D) (o : O) (hl : xs.length = d.np)
    (h : ∀ k, lv ≤ k → fin xs.length (evB T (calls T ds k) d.body k (xs.map arg ++ List.replicate d.nl none)) = some o) : Does T ds (lv + 1) f xs o := by
  intro m hm ρ
  obtain ⟨k, rfl⟩ : ∃ k, m = k + 1 := ⟨m - 1, by omega⟩
  exact callF_fin T ds k f d hd xs ρ o hl (h k (by omega))
theorem Raises.of {T : Top} {ds : List Def} {lv f : Nat} (d : Def) (hd : ds[f]? = some d) (xs : List D) (c : Nat) (hl : xs.length = d.np)
    (h : ∀ k, lv ≤ k → exB xs.length (evB T (calls T ds k) d.body k (xs.map arg ++ List.replicate d.nl none)) = some c) : Raises T ds (lv + 1) f xs c := by
  intro m hm ρ
  obtain ⟨k, rfl⟩ : ∃ k, m = k + 1 := ⟨m - 1, by omega⟩
  have h := h k (by omega)
  have e : calls T ds (k + 1) (k + 1) f (xs.map arg) = .exc c (List.replicate xs.length none) := by
    show call T ds (k + 1) f (xs.map arg) = _
    rw [call_succ, hd]
    show runD T (calls T ds k) d k (xs.map arg) = _
    unfold runD
    rw [if_pos (by simpa using hl)]
    cases hb : evB T (calls T ds k) d.body k (xs.map arg ++ List.replicate d.nl none) with
    | stuck => rw [hb] at h; cases h
    | ok fl ρ => rw [hb] at h; cases h
    | exc c' ρ =>
      rw [hb, exB_exc] at h
      split at h
      · next hk =>
        cases h
        simp [outs_d xs ρ hk]
      · cases h
  unfold callF
  rw [walked_ds, handL_d]
  simp only [onceEach, if_true, R.opt_some]
  rw [e]
  simp [handB_d]
theorem Does.mono {T : Top} {ds : List Def} {lv lv' f : Nat} {xs : List D} {o : O} (h : Does T ds lv f xs o) (l : lv ≤ lv') : Does T ds lv' f xs o := fun m hm ρ => h m (by omega) ρ
/-- at a level below the calls' own -/
theorem Does.at {T : Top} {ds : List Def} {lv f : Nat} {xs : List D} {o : O} (h : Does T ds lv f xs o) {m k : Nat} (hm : lv ≤ m) (hk : m ≤ k) (ρ : Ev) : callF (calls T ds k) m f (xs.map O.d) ρ = .ok o ρ := by
  rw [callF_le T ds hk]
  exact h m hm ρ
theorem Raises.at {T : Top} {ds : List Def} {lv f : Nat} {xs : List D} {c : Nat} (h : Raises T ds lv f xs c) {m k : Nat} (hm : lv ≤ m) (hk : m ≤ k) (ρ : Ev) : callF (calls T ds k) m f (xs.map O.d) ρ = .exc c ρ := by
  rw [callF_le T ds hk]
  exact h m hm ρ
/-- a call with a slot's list that stays as it is, among data -/
theorem callF_gen (T : Top) (ds : List Def) (m f : Nat) (d : Def) (hd : ds[f]? = some d) (os : List O) (args r ρ ρ' ρ2 : Ev) (z : D) (hh : handL ρ os = some args) (ho : onceEach (walked os) = true) (hl : args.length = d.np)
    (h : evB T (calls T ds m) d.body m (args ++ List.replicate d.nl none) = .ok (.ret (.d z)) ρ') (hr : outs args.length args ρ' = some r) (hb : handB ρ os r = some ρ2) : callF (calls T ds (m + 1)) (m + 1) f os ρ = .ok (.d z) ρ2 := by
  have e : calls T ds (m + 1) (m + 1) f args = .ok (.d z) r := by
    show call T ds (m + 1) f _ = _
    rw [call_succ, hd]
    show runD T (calls T ds m) d m _ = _
    unfold runD
    rw [if_pos hl, h]
    simp [hr]
  unfold callF
  rw [if_pos ho, hh]
  simp only [R.opt_some]
  rw [e]
  simp [isBor, hb]
/-! ### draws -/
def drawD : Def := ⟨2, 1, [.ite (.cmp .gt (.ix (.var 0) (.int 0)) (.int 0))
   [.set 2 (.ix (.var 0) (.int 0)),
    .setIx 0 (.int 0) (.blt .int [.bin .fdiv (.var 2) (.var 1)]),
    .ret (.blt .int [.bin .mod (.var 2) (.var 1)])]
   [],
  .setIx 0 (.int 1) (.bin .mod (.bin .mul (.int 69621) (.ix (.var 0) (.int 1))) (.int 2147483647)),
  .ret (.blt .int [.bin .mod (.bin .fdiv (.ix (.var 0) (.int 1)) (.int 7)) (.var 1)])]⟩
theorem draw_ok {T : Top} {ds : List Def} {f : Nat} (hd : ds[f]? = some drawD) {m : Nat} (hm : 1 ≤ m) (a b hi : Int) (ha : 0 ≤ a) (hb : 0 ≤ b) (h0 : 0 < hi) (h1 : hi < 1073741824) (j : Nat) (p : Bool) (ρ : Ev) (hj : ρ[j]? = some (some (.L p [.int a, .int b]))) :
    ∃ a' b' r : Int, 0 ≤ a' ∧ 0 ≤ b' ∧ 0 ≤ r ∧ r < hi ∧ callF (calls T ds m) m f [.bor j, .d (.int hi)] ρ = .ok (.d (.int r)) (ρ.set j (some (.L p [.int a', .int b']))) := by
  obtain ⟨k, rfl⟩ : ∃ k, m = k + 1 := ⟨m - 1, by omega⟩
  have s : sml 69621 = true := by decide
  have hh : handL ρ [.bor j, .d (.int hi)] = some [some (.L true [.int a, .int b]), some (.d (.int hi))] := by simp [handL, hj]
  have go : ∀ (a' b' r : Int) (w : Option W), evB T (calls T ds k) drawD.body k ([some (.L true [.int a, .int b]), some (.d (.int hi))] ++ List.replicate drawD.nl none) = .ok (.ret (.d (.int r))) [some (.L true [.int a', .int b']), some (.d (.int hi)), w] →
      callF (calls T ds (k + 1)) (k + 1) f [.bor j, .d (.int hi)] ρ = .ok (.d (.int r)) (ρ.set j (some (.L p [.int a', .int b']))) := fun a' b' r w he =>
    callF_gen T ds k f drawD hd _ _ [some (.L true [.int a', .int b']), none] ρ _ _ _ hh rfl rfl he rfl (by simp [handB, hj])
  by_cases c : 0 < a
  · refine ⟨a / hi, b, a % hi, Int.ediv_nonneg ha (by omega), hb, Int.emod_nonneg _ (by omega), Int.emod_lt_of_pos _ h0, go _ _ _ (some (.d (.int a))) ?_⟩
    simp [drawD, varS, rs, index, ixSeq, items, c, store, free, h0, h1, isLM, setAt, place, blt, intF]
  · refine ⟨a, (69621 * b) % 2147483647, ((69621 * b) % 2147483647) / 7 % hi, ha, Int.emod_nonneg _ (by omega), Int.emod_nonneg _ (by omega), Int.emod_lt_of_pos _ h0, go _ _ _ none ?_⟩
    simp [drawD, varS, rs, index, ixSeq, items, c, store, free, h0, h1, isLM, setAt, place, blt, intF, s]
def cellD : Def := ⟨2, 0, [.ret (.ite (.cmp .lt (.var 1) (.blt .len [.var 0])) (.blt .abs [.blt .int [.ix (.var 0) (.var 1)]]) (.int 0))]⟩
def streamD (c : Nat) : Def := ⟨2, 0, [.ret (.lst [.call c [.var 0, .var 1], .bin .add (.int 1) (.bin .mod (.bin .mul (.int 48271) (.call c [.var 0, .var 1])) (.int 2147483647))])]⟩
theorem cell_ok {T : Top} {ds : List Def} {f : Nat} (hd : ds[f]? = some cellD) (ns : List Int) (k : Nat) : ∃ a : Int, 0 ≤ a ∧ Does T ds 1 f [.lst (ns.map D.int), .int k] (.d (.int a)) := by
  cases h : ns[k]? with
  | none =>
    have hk := List.getElem?_eq_none_iff.mp h
    refine ⟨0, by omega, .of cellD hd _ _ rfl fun k' _ => ?_⟩
    have g : ¬ ((k : Int) < (ns.length : Int)) := by omega
    simp [cellD, arg, varS, g]
  | some x =>
    obtain ⟨hk, _⟩ := List.getElem?_eq_some_iff.mp h
    refine ⟨if x < 0 then -x else x, by split <;> omega, .of cellD hd _ _ rfl fun k' _ => ?_⟩
    have g : ((k : Int) < (ns.length : Int)) := by omega
    simp [cellD, arg, varS, g, h]
theorem stream_ok {T : Top} {ds : List Def} {f c : Nat} (hc : ds[c]? = some cellD) (hd : ds[f]? = some (streamD c)) (ns : List Int) (k : Nat) : ∃ a b : Int, 0 ≤ a ∧ 0 ≤ b ∧ Does T ds 2 f [.lst (ns.map D.int), .int k] (.L [.int a, .int b]) := by
  obtain ⟨a, ha, e⟩ := cell_ok (T := T) hc ns k
  refine ⟨a, 1 + (48271 * a) % 2147483647, ha, ?_, .of (streamD c) hd _ _ rfl fun k' hk => ?_⟩
  · have := Int.emod_nonneg (48271 * a) (b := 2147483647) (by omega)
    omega
  · have e := e k' (by omega)
    simp only [List.map_cons, List.map_nil] at e
    have s : sml 48271 = true := by decide
    simp [streamD, arg, varS, e, s]
/-! ### what is read back -/
def readD (f sx : Nat) : Def := ⟨1, 1, [.ite (.orL [.cmp .is_ (.var 0) .non, .cmp .is_ (.var 0) (.bl true), .cmp .is_ (.var 0) (.bl false)])
   [.ret (.var 0)]
   [],
  .ite (.isi (.var 0) .int)
   [.ret (.blt .int [.var 0])]
   [],
  .ite (.isi (.var 0) .str)
   [.ret (.bin .add (.str 0) (.var 0))]
   [],
  .ite (.isi (.var 0) .tuple)
   [.ret (.blt .tuple [.comp (.call f [.var 1]) (.nm 1) .seq [.var 0] [] [1]])]
   [],
  .ret (.ite (.isi (.var 0) .list) (.comp (.call f [.var 1]) (.nm 1) .seq [.var 0] [] [1]) (.str sx))]⟩
/-- data without lists, no deeper than so -/
def rdy : Nat → D → Bool
  | 0, x => match x with | .tup _ => false | .lst _ => false | _ => true
  | n + 1, x => match x with | .tup xs => decide (xs.length ≤ 1000000) && xs.all (rdy n) | .lst _ => false | _ => true
theorem read_ok {T : Top} {ds : List Def} {f sx : Nat} (hd : ds[f]? = some (readD f sx)) : ∀ (n : Nat) (x : D), rdy n x = true → Does T ds (n + 1) f [x] (.d x) := by
  intro n
  induction n with
  | zero =>
    intro x h
    refine .of (readD f sx) hd _ _ rfl fun k hk => ?_
    cases x with
    | non => simp [readD, arg, varS, isNon]
    | bl b => cases b <;> simp [readD, arg, varS, isNon, isBl]
    | int i => simp [readD, arg, varS, isNon, isBl]
    | str j => simp [readD, arg, varS, isNon, isBl, bin, addO]
    | tup xs => simp [rdy] at h
    | lst xs => simp [rdy] at h
  | succ n ih =>
    intro x h
    refine .of (readD f sx) hd _ _ rfl fun k hk => ?_
    cases x with
    | non => simp [readD, arg, varS, isNon]
    | bl b => cases b <;> simp [readD, arg, varS, isNon, isBl]
    | int i => simp [readD, arg, varS, isNon, isBl]
    | str j => simp [readD, arg, varS, isNon, isBl, bin, addO]
    | tup xs =>
      simp only [rdy, Bool.and_eq_true, decide_eq_true_eq, List.all_eq_true] at h
      have hc : evE T (calls T ds k) (.comp (.call f [.var 1]) (.nm 1) .seq [.var 0] [] [1]) k [some (.d (.tup xs)), none] = .ok (.L (xs.map id)) [some (.d (.tup xs)), none] := by
        refine comp_map _ _ _ _ _ _ _ _ _ [] xs id id (by simp [varS]) rfl rfl (by have := h.1; show _ ≤ 16777216; omega) ?_
        intro y hy
        have e := ih y (h.2 y hy) k (by omega)
        refine ⟨[some (.d (.tup xs)), some (.d y)], rfl, rfl, .d y, ?_, rfl⟩
        simp only [v_call, v_lcons, v_lnil, v_var, varS, List.getElem?_cons_succ, List.getElem?_cons_zero, R.bind_ok]
        exact e _
      rw [List.map_id] at hc
      simp [readD, -v_comp, arg, varS, isNon, isBl, hc]
    | lst xs => simp [rdy] at h
theorem told_ok (T : Top) (C : Calls) (b : E) (m : Nat) (ρ ρ' : Ev) (x : D) (h : evE T C b m ρ = .ok (.d x) ρ') (hr : callF C (m + 1) T.read [.d x] ρ' = .ok (.d x) ρ') :
    evE T C (.told b) (m + 2) ρ = .ok (.d (.tup [.int 0, x])) ρ' := by
  rw [v_told, h]
  show (R.bind (R.calm (callF C (m + 1) T.read [.d x] ρ')) _) = _
  rw [hr]
  rfl
theorem told_exc (T : Top) (C : Calls) (b : E) (m : Nat) (ρ ρ' : Ev) (c : Nat) (h : evE T C b m ρ = .exc c ρ') (hc : c < T.ne) :
    evE T C (.told b) (m + 2) ρ = .ok (.d (.tup [.int 1, .str (T.word c)])) ρ' := by
  rw [v_told, h]
  show R.grd (decide (c < T.ne)) _ = _
  rw [decide_eq_true hc]
  rfl
/-- told, of what can be read -/
theorem told_at {T : Top} {ds : List Def} {sx : Nat} (hd : ds[T.read]? = some (readD T.read sx)) {k m : Nat} (hk : m + 2 ≤ k) {b : E} {ρ ρ' : Ev} {x : D} (n : Nat) (hn : n ≤ m) (h : evE T (calls T ds k) b m ρ = .ok (.d x) ρ') (hr : rdy n x = true) :
    evE T (calls T ds k) (.told b) (m + 2) ρ = .ok (.d (.tup [.int 0, x])) ρ' :=
  told_ok T _ b m ρ ρ' x h ((read_ok (T := T) hd n x hr).at (m := m + 1) (by omega) (by omega) ρ')
end Ev
/-! Pg2: loops that look for something. -/
namespace Ev
theorem forL_any {α σ : Type} (ws : List Nat) (ρ0 : Ev) (tg : Tg) (body : Ev → R Fl) (enc : α → D) (st : σ → Ev) (p : α → Bool) (o : O) (Q : Ev → Prop) (hs : ∀ s, stands ρ0 (st s) ws = true) : ∀ (as : List α) (s : σ),
    (∀ s a, a ∈ as → ∃ ρ1, bindT tg (enc a) (st s) = some ρ1 ∧ ((p a = true ∧ ∃ ρ2, body ρ1 = .ok (.ret o) ρ2 ∧ Q ρ2) ∨ (p a = false ∧ ∃ s', body ρ1 = .ok .nx (st s') ∨ body ρ1 = .ok .cont (st s')))) →
    (as.any p = true ∧ ∃ ρ2, forL ws ρ0 tg body (as.map enc) (st s) = .ok (.ret o) ρ2 ∧ Q ρ2) ∨ (as.any p = false ∧ ∃ s', forL ws ρ0 tg body (as.map enc) (st s) = .ok .nx (st s'))
  | [], s, _ => .inr ⟨rfl, s, by simp [forL, hs s]⟩
  | a :: as, s, h => by
    obtain ⟨ρ1, e1, e2⟩ := h s a (by simp)
    rcases e2 with ⟨pa, ρ2, e2, q⟩ | ⟨pa, s', e2⟩
    · exact .inl ⟨by simp [pa], ρ2, by simp [forL, hs s, e1, e2], q⟩
    · have hf : forL ws ρ0 tg body ((a :: as).map enc) (st s) = forL ws ρ0 tg body (as.map enc) (st s') := by
        rcases e2 with e2 | e2 <;> simp [forL, hs s, e1, e2]
      rw [hf]
      have ha : (a :: as).any p = as.any p := by simp [pa]
      rw [ha]
      exact forL_any ws ρ0 tg body enc st p o Q hs as s' (fun s b hb => h s b (List.mem_cons_of_mem _ hb))
/-- a loop whose turns change only what the loop itself holds -/
theorem forL_nx {α σ : Type} (ws : List Nat) (ρ0 : Ev) (tg : Tg) (body : Ev → R Fl) (enc : α → D) (st : σ → Ev) (hs : ∀ s, stands ρ0 (st s) ws = true) : ∀ (as : List α) (s : σ),
    (∀ s a, a ∈ as → ∃ ρ1, bindT tg (enc a) (st s) = some ρ1 ∧ ∃ s', body ρ1 = .ok .nx (st s') ∨ body ρ1 = .ok .cont (st s')) → ∃ s', forL ws ρ0 tg body (as.map enc) (st s) = .ok .nx (st s')
  | [], s, _ => ⟨s, by simp [forL, hs s]⟩
  | a :: as, s, h => by
    obtain ⟨ρ1, e1, s', e2⟩ := h s a (by simp)
    have hf : forL ws ρ0 tg body ((a :: as).map enc) (st s) = forL ws ρ0 tg body (as.map enc) (st s') := by
      rcases e2 with e2 | e2 <;> simp [forL, hs s, e1, e2]
    rw [hf]
    exact forL_nx ws ρ0 tg body enc st hs as s' (fun s b hb => h s b (List.mem_cons_of_mem _ hb))
theorem mem_zip {α : Type} {xs : List α} {x : α} {i : Nat} (h : (x, i) ∈ xs.zipIdx) : ∃ hi : i < xs.length, xs[i] = x := by
  have := List.mem_zipIdx_iff_getElem?.mp h
  obtain ⟨hi, e⟩ := List.getElem?_eq_some_iff.mp this
  exact ⟨hi, e⟩
end Ev
namespace Ev
/-- a comprehension whose turns change a slot -/
theorem comp_inv (T : Top) (C : Calls) (n : Nat) (ρ ρ1 : Ev) (elt : E) (tg : Tg) (k : Ik) (es : List E) (own ws : List Nat) (xs : List D) (Inv : Ev → Prop) (Q : D → D → Prop)
    (he : iterF k (evL T C es n ρ) = .ok (xs, ws) ρ1) (hi : Inv (wipe ρ1 own)) (hs : ∀ ρ, Inv ρ → stands ρ1 ρ ws = true) (hc : xs.length ≤ cap)
    (h : ∀ x ∈ xs, ∀ ρ, Inv ρ → ∃ ρ2 o ρ3 y ρ4, bindT tg x ρ = some ρ2 ∧ evE T C elt n ρ2 = .ok o ρ3 ∧ keep ρ3 o = some (y, ρ4) ∧ Inv (wipe ρ4 own) ∧ Q x y) :
    ∃ ys ρ', evE T C (.comp elt tg k es [] own) n ρ = .ok (.L ys) (back ρ1 ρ' own) ∧ Inv ρ' ∧ All2 Q xs ys := by
  obtain ⟨ys, ρ', e, i, q⟩ := walk_inv (compTurn own ρ1 ws tg (evTs T C [] n) (evE T C elt n)) Inv Q xs [] (wipe ρ1 own) hi (by simpa using hc) (by
    intro x hx acc ρ hi hcap
    obtain ⟨ρ2, o, ρ3, y, ρ4, h1, h2, h3, h4, h5⟩ := h x hx ρ hi
    refine ⟨y, wipe ρ4 own, ?_, h4, h5⟩
    unfold compTurn
    simp only [hs ρ hi, if_true, h1, R.opt_some, v_tnil, ifB_t, h2, R.bind_ok, h3, hcap])
  refine ⟨ys, ρ', ?_, i, q⟩
  rw [v_comp, he, R.bind_ok]
  unfold compEnd
  rw [e]
  simp [hs ρ' i]
/-- the box of draws, as a def's first slot -/
abbrev bx (a b : Int) : Option W := some (.L true [.int a, .int b])
theorem draw_e {T : Top} {ds : List Def} {f : Nat} (hd : ds[f]? = some drawD) {k : Nat} (hk : 1 ≤ k) (a b h : Int) (ha : 0 ≤ a) (hb : 0 ≤ b) (h0 : 0 < h) (h1 : h < 1073741824) (rest : Ev) (e : E) (he : ∀ w, evE T (calls T ds k) e k (w :: rest) = .ok (.d (.int h)) (w :: rest)) :
    ∃ a' b' r : Int, 0 ≤ a' ∧ 0 ≤ b' ∧ 0 ≤ r ∧ r < h ∧ evE T (calls T ds k) (.call f [.var 0, e]) k (bx a b :: rest) = .ok (.d (.int r)) (bx a' b' :: rest) := by
  obtain ⟨a', b', r, x1, x2, x3, x4, x5⟩ := draw_ok (T := T) hd hk a b h ha hb h0 h1 0 true (bx a b :: rest) rfl
  refine ⟨a', b', r, x1, x2, x3, x4, ?_⟩
  rw [v_call, v_lcons, v_var]
  show (R.bind (R.bind (R.ok (O.bor 0) (bx a b :: rest)) _) _) = _
  rw [R.bind_ok, v_lcons, he]
  exact x5
end Ev
namespace Ev
theorem slice_take (xs : List D) (c : Nat) (h : c ≤ xs.length) : slice (.d (.tup xs)) none (some (c : Int)) = some (.d (.tup (xs.take c))) := by
  have e : ¬ ((c : Int) < 0) := by omega
  simp [slice, cut, sIx, e, Nat.min_eq_left h]
theorem slice_drop (xs : List D) (c : Nat) (h : c ≤ xs.length) : slice (.d (.tup xs)) (some (c : Int)) none = some (.d (.tup (xs.drop c))) := by
  simp [slice, cut, sIx]
  rw [if_neg (by omega), Nat.min_eq_left h, List.take_of_length_le (by simp)]
theorem add_tup (xs ys : List D) (h : xs.length + ys.length ≤ cap) : bin .add (.d (.tup xs)) (.d (.tup ys)) = some (.d (.tup (xs ++ ys))) := by
  simp [bin, addO, h]
theorem add_L (xs ys : List D) (h : xs.length + ys.length ≤ cap) : bin .add (.L xs) (.L ys) = some (.L (xs ++ ys)) := by
  simp [bin, addO, h]
/-- one of a def's calls, told of data, by a slot's new list -/
theorem callF_L (T : Top) (ds : List Def) (m f : Nat) (d : Def) (hd : ds[f]? = some d) (xs ys : List D) (ρ ρ' : Ev) (z : D) (hl : d.np = 1)
    (h : evB T (calls T ds m) d.body m ([some (.L true xs)] ++ List.replicate d.nl none) = .ok (.ret (.d z)) (some (.L true ys) :: ρ')) : callF (calls T ds (m + 1)) (m + 1) f [.L xs] ρ = .ok (.d z) ρ :=
  callF_gen T ds m f d hd _ [some (.L true xs)] [some (.L true ys)] ρ (some (.L true ys) :: ρ') ρ z rfl rfl (by simp [hl]) h rfl rfl
end Ev
/-! P65a: the checks. -/
namespace Ev
/-- a def that hands back its own list -/
theorem Does.ofL {T : Top} {ds : List Def} {lv f : Nat} (d : Def) (hd : ds[f]? = some d) (xs ys : List D) (hl : xs.length = d.np)
    (h : ∀ k, lv ≤ k → ∃ i ρ, evB T (calls T ds k) d.body k (xs.map arg ++ List.replicate d.nl none) = .ok (.ret (.bor i)) ρ ∧ ρ[i]? = some (some (.L false ys)) ∧ xs.length ≤ ρ.length) : Does T ds (lv + 1) f xs (.L ys) := by
  intro m hm ρ0
  obtain ⟨k, rfl⟩ : ∃ k, m = k + 1 := ⟨m - 1, by omega⟩
  obtain ⟨i, ρ, e1, e2, e3⟩ := h k (by omega)
  have e : calls T ds (k + 1) (k + 1) f (xs.map arg) = .ok (.L ys) (List.replicate xs.length none) := by
    show call T ds (k + 1) f (xs.map arg) = _
    rw [call_succ, hd]
    show runD T (calls T ds k) d k (xs.map arg) = _
    unfold runD
    rw [if_pos (by simpa using hl), e1]
    simp only [give, e2, R.opt_some, List.length_map]
    rw [outs_d xs (ρ.set i none) (by simpa using e3)]
    rfl
  unfold callF
  rw [walked_ds, handL_d]
  simp only [onceEach, if_true, R.opt_some]
  rw [e]
  simp [isBor, handB_d]
namespace K65
abbrev DO (lv f : Nat) (xs : List D) (o : O) : Prop := Does L.T L.ds lv f xs o
theorem con0 : L.T.con[0]? = some (.int 200) := rfl
theorem con1 : L.T.con[1]? = some (.int 10) := rfl
theorem con2 : L.T.con[2]? = some (.int 30) := rfl
theorem con3 : L.T.con[3]? = some (.int 1000) := rfl
def isI : D → Bool
  | .int _ => true
  | _ => false
theorem t0 (x : D) : DO 1 0 [x] (.d (.bl (isI x))) := .of d0 rfl _ _ rfl fun k hk => by
  cases x <;> simp [d0, arg, varS, isI]
theorem t1 (i hi : Int) : DO 2 1 [.int i, .int hi] (.d (.bl (decide (0 ≤ i) && decide (i < hi)))) := .of d1 rfl _ _ rfl fun k hk => by
  have e := t0 (.int i) k (by omega)
  simp only [List.map_cons, List.map_nil] at e
  simp [d1, arg, varS, e, isI]
  by_cases h : 0 ≤ i <;> simp [h]
theorem t2 (i lo hi : Int) : DO 2 2 [.int i, .int lo, .int hi] (.d (.bl (decide (lo ≤ i) && decide (i ≤ hi)))) := .of d2 rfl _ _ rfl fun k hk => by
  have e := t0 (.int i) k (by omega)
  simp only [List.map_cons, List.map_nil] at e
  simp [d2, arg, varS, e, isI]
  by_cases h : lo ≤ i <;> simp [h]
/-! ### rows -/
abbrev dR (rb : List Int) : D := .tup (rb.map D.int)
structure Rw (rb : List Int) : Prop where
  len : rb.length ≤ 200
  bit : ∀ x ∈ rb, x = 0 ∨ x = 1
theorem t3 (r : Int) (r0 : 2 ≤ r) (r1 : r ≤ 10) (rb : List Int) (h : Rw rb) : DO 3 3 [.int r, dR rb] (.d .non) := .of d3 rfl _ _ rfl fun k hk => by
  have hlen := h.len
  have e2 := t2 r 2 10 k (by omega)
  simp only [List.map_cons, List.map_nil] at e2
  have hc : evE L.T (calls L.T L.ds k) (.comp (.call 1 [.var 2, .int 2]) (.nm 2) .seq [.var 1] [] [2]) k [some (.d (.int r)), some (.d (dR rb)), none] = .ok (.L (rb.map fun _ => D.bl true)) [some (.d (.int r)), some (.d (dR rb)), none] := by
    refine comp_map _ _ _ _ _ _ _ _ _ [] rb D.int (fun _ => D.bl true) (by simp [varS]) rfl rfl (by show _ ≤ 16777216; omega) ?_
    intro y hy
    refine ⟨[some (.d (.int r)), some (.d (dR rb)), some (.d (.int y))], rfl, rfl, .d (.bl true), ?_, rfl⟩
    have e1 := t1 y 2 k (by omega)
    simp only [List.map_cons, List.map_nil] at e1
    have hb : (decide (0 ≤ y) && decide (y < 2)) = true := by
      rcases h.bit y hy with rfl | rfl <;> rfl
    simp only [v_call, v_lcons, v_lnil, v_var, v_int, varS, List.getElem?_cons_succ, List.getElem?_cons_zero, R.bind_ok, e1, hb]
  have ha := all_enc rb (fun _ => true)
  have ht : (rb.all fun _ => true) = true := by simp
  rw [ht] at ha
  have hn : ¬ (200 : Int) < (rb.length : Int) := by omega
  simp [d3, -v_comp, arg, varS, con0, con1, e2, r0, r1, hc, ha, hn]
/-! ### spans -/
abbrev encP (p : Int × Int) : D := .tup [.int p.1, .int p.2]
abbrev dS (ps : List (Int × Int)) : D := .tup (ps.map encP)
structure Sp (ps : List (Int × Int)) : Prop where
  len : ps.length ≤ 30
  pos : 1 ≤ ps.length
  lo : ∀ p ∈ ps, -80 ≤ p.1 ∧ p.2 < 119
  le : ∀ p ∈ ps, p.1 ≤ p.2
theorem t7 (ps : List (Int × Int)) (h : Sp ps) : DO 3 7 [dS ps] (.d .non) := .of d7 rfl _ _ rfl fun k hk => by
  have hlen := h.len
  have hpos := h.pos
  have hf : ∃ w, evS L.T (calls L.T L.ds k) (.for_ (.nm 1) .seq [.var 0]
   [.ite (.orL [.not_ (.isi (.var 1) .tuple), .cmp .ne (.blt .len [.var 1]) (.int 2)])
     [.raise 1]
     [],
    .ite (.orL [.not_ (.blt .all [.comp (.call 2 [.var 2, .neg (.con 3), .con 3]) (.nm 2) .seq [.var 1] [] [2]]), .cmp .gt (.ix (.var 1) (.int 0)) (.ix (.var 1) (.int 1))])
     [.raise 1]
     []]) k [some (.d (dS ps)), none, none] = .ok .nx [some (.d (dS ps)), dw w, none] := by
    obtain ⟨e, _⟩ := forL_run (α := Int × Int) (σ := Option D) [] [some (.d (dS ps)), none, none] (.nm 1) (evB L.T (calls L.T L.ds k) [.ite (.orL [.not_ (.isi (.var 1) .tuple), .cmp .ne (.blt .len [.var 1]) (.int 2)])
     [.raise 1]
     [],
    .ite (.orL [.not_ (.blt .all [.comp (.call 2 [.var 2, .neg (.con 3), .con 3]) (.nm 2) .seq [.var 1] [] [2]]), .cmp .gt (.ix (.var 1) (.int 0)) (.ix (.var 1) (.int 1))])
     [.raise 1]
     []] k) encP (fun w => [some (.d (dS ps)), dw w, none]) (fun _ a => .go (some (encP a))) (fun _ => True) (fun _ _ => rfl) ps none trivial (by
      intro s a _ ha
      refine ⟨[some (.d (dS ps)), some (.d (encP a)), none], store_dw _ 1 s _ rfl, ?_, fun _ _ => trivial⟩
      have b := h.lo a ha
      have c := h.le a ha
      have hc : evE L.T (calls L.T L.ds k) (.comp (.call 2 [.var 2, .neg (.con 3), .con 3]) (.nm 2) .seq [.var 1] [] [2]) k [some (.d (dS ps)), some (.d (encP a)), none] = .ok (.L ([a.1, a.2].map fun _ => D.bl true)) [some (.d (dS ps)), some (.d (encP a)), none] := by
        refine comp_map _ _ _ _ _ _ _ _ _ [] [a.1, a.2] D.int (fun _ => D.bl true) (by simp [varS]) rfl rfl (by show 2 ≤ 16777216; omega) ?_
        intro y hy
        refine ⟨[some (.d (dS ps)), some (.d (encP a)), some (.d (.int y))], rfl, rfl, .d (.bl true), ?_, rfl⟩
        have e1 := t2 y (-1000) 1000 k (by omega)
        simp only [List.map_cons, List.map_nil] at e1
        have hb : (decide (-1000 ≤ y) && decide (y ≤ 1000)) = true := by
          simp only [List.mem_cons, List.not_mem_nil, or_false] at hy
          rcases hy with rfl | rfl <;> simp <;> omega
        simp only [v_call, v_lcons, v_lnil, v_var, v_neg, v_con, con3, okd_some, optInt_i, R.opt_some, varS, List.getElem?_cons_succ, List.getElem?_cons_zero, R.bind_ok, e1, hb]
      have ha2 := all_enc [a.1, a.2] (fun _ => true)
      simp only [List.map_cons, List.map_nil] at hc ha2
      have hg : ¬ a.2 < a.1 := by omega
      refine Or.inl ?_
      simp [-v_comp, varS, hc, ha2, hg])
    rw [runL_go] at e
    refine ⟨ps.foldl (fun _ a => some (encP a)) none, ?_⟩
    rw [v_for]
    simp only [v_lcons, v_lnil, v_var, varS, List.getElem?_cons_succ, List.getElem?_cons_zero, R.bind_ok, iter_tup, List.all_nil, R.grd_true]
    exact e
  obtain ⟨w, hf⟩ := hf
  have h1 : (1 : Int) ≤ (ps.length : Int) := by omega
  have h2 : (ps.length : Int) ≤ 30 := by omega
  have e0 : evS L.T (calls L.T L.ds k) (.ite (.orL [.not_ (.isi (.var 0) .tuple), .not_ (.chain .le .le (.int 1) (.blt .len [.var 0]) (.con 2))]) [.raise 1] []) k [some (.d (dS ps)), none, none] = .ok .nx [some (.d (dS ps)), none, none] := by
    simp [varS, con2, h1, h2]
  show fin 1 (evB L.T (calls L.T L.ds k) d7.body k [some (.d (dS ps)), none, none]) = _
  unfold d7
  dsimp only
  rw [evB_nx e0, evB_nx hf]
  rfl
end K65
end Ev
/-! P65b: heaps, in plain lists. -/
namespace Ev.K65
/-- sizes told by how many of each there are -/
def sz : Nat → List Nat → List Nat
  | _, [] => []
  | j, c :: cs => List.replicate c (2 ^ j) ++ sz (j + 1) cs
/-- the heaps: the i-th begins at the newest one that the earlier ones leave -/
def tile : List Nat → List Nat → List (Nat × Nat)
  | _, [] => []
  | no, s :: ss => (s, no.headD 0) :: tile (no.drop s) ss
theorem tile_len : ∀ (ss : List Nat) (no : List Nat), (tile no ss).length = ss.length
  | [], _ => rfl
  | s :: ss, no => by simp [tile, tile_len ss]
theorem tile_fst : ∀ (ss : List Nat) (no : List Nat), (tile no ss).map (·.1) = ss
  | [], _ => rfl
  | s :: ss, no => by simp [tile, tile_fst ss]
theorem tile_append : ∀ (A B : List Nat) (no : List Nat), tile no (A ++ B) = tile no A ++ tile (no.drop A.sum) B
  | [], B, no => by simp [tile]
  | s :: A, B, no => by
    simp only [List.cons_append, tile, List.sum_cons]
    rw [tile_append A B, List.drop_drop]
/-- the two at n become one -/
theorem tile_merge (A C : List Nat) (s : Nat) (no : List Nat) (d : Nat × Nat) : (tile no (A ++ s :: s :: C)).take A.length ++ [(2 * s, ((tile no (A ++ s :: s :: C)).getD A.length d).2)] ++ (tile no (A ++ s :: s :: C)).drop (A.length + 2) = tile no (A ++ (2 * s) :: C) := by
  rw [tile_append, tile_append]
  have hl := tile_len A no
  simp only [tile]
  have e1 : (tile no A ++ (s, (no.drop A.sum).headD 0) :: (s, ((no.drop A.sum).drop s).headD 0) :: tile (((no.drop A.sum).drop s).drop s) C).take A.length = tile no A := by
    rw [← hl, List.take_left']
    rfl
  have e2 : (tile no A ++ (s, (no.drop A.sum).headD 0) :: (s, ((no.drop A.sum).drop s).headD 0) :: tile (((no.drop A.sum).drop s).drop s) C).getD A.length d = (s, (no.drop A.sum).headD 0) := by
    rw [List.getD_eq_getElem?_getD, List.getElem?_append_right (by omega), hl]
    simp
  have e3 : (tile no A ++ (s, (no.drop A.sum).headD 0) :: (s, ((no.drop A.sum).drop s).headD 0) :: tile (((no.drop A.sum).drop s).drop s) C).drop (A.length + 2) = tile (((no.drop A.sum).drop s).drop s) C := by
    rw [List.drop_append, List.drop_eq_nil_of_le (by omega), hl]
    simp
  rw [e1, e2, e3, List.drop_drop, show s + s = 2 * s by omega]
  simp
/-! ### how many of each -/
def carry (r : Nat) : Nat → List Nat → List Nat
  | c, [] => if r < c then [c - 2, 1] else [c]
  | c, c' :: cs => if r < c then (c - 2) :: carry r (c' + 1) cs else c :: c' :: cs
def addC (r : Nat) : List Nat → List Nat
  | [] => [1]
  | c :: cs => carry r (c + 1) cs
/-- all but the last level hold r - 1 or r; the last up to r, one at least -/
def OkC (r : Nat) : List Nat → Prop
  | [] => True
  | [c] => 1 ≤ c ∧ c ≤ r
  | c :: cs => (c = r - 1 ∨ c = r) ∧ OkC r cs
theorem OkC.tail {r c : Nat} {cs : List Nat} (h : OkC r (c :: cs)) : OkC r cs := by
  cases cs with
  | nil => trivial
  | cons c' cs => exact h.2
theorem OkC.head {r c : Nat} {cs : List Nat} (h : OkC r (c :: cs)) (r2 : 2 ≤ r) : 1 ≤ c ∧ c ≤ r := by
  cases cs with
  | nil => exact h
  | cons c' cs => obtain ⟨h | h, _⟩ := h <;> omega
theorem carry_ok {r : Nat} (r2 : 2 ≤ r) : ∀ (cs : List Nat) (c : Nat), OkC r (c :: cs) → OkC r (carry r (c + 1) cs)
  | [], c, h => by
    have h : 1 ≤ c ∧ c ≤ r := h
    unfold carry
    split
    · exact ⟨by omega, by show 1 ≤ 1 ∧ 1 ≤ r; omega⟩
    · show 1 ≤ c + 1 ∧ c + 1 ≤ r
      omega
  | c' :: cs, c, h => by
    unfold carry
    split
    · rename_i hlt
      have ih := carry_ok r2 cs c' h.2
      have hc : c + 1 - 2 = r - 1 := by rcases h.1 with h | h <;> omega
      cases e : carry r (c' + 1) cs with
      | nil =>
        cases cs <;> (unfold carry at e; split at e <;> cases e)
      | cons x xs =>
        rw [e] at ih
        exact ⟨.inl hc, ih⟩
    · rename_i hlt
      refine ⟨?_, h.2⟩
      rcases h.1 with h | h <;> omega
theorem add_ok {r : Nat} (r2 : 2 ≤ r) (cs : List Nat) (h : OkC r cs) : OkC r (addC r cs) := by
  cases cs with
  | nil => exact ⟨by omega, by omega⟩
  | cons c cs => exact carry_ok r2 cs c h
theorem sum_rep (c s : Nat) : (List.replicate c s).sum = c * s := by
  induction c with
  | zero => simp
  | succ c ih => rw [List.replicate_succ, List.sum_cons, ih, Nat.succ_mul]; omega
theorem sz_sum : ∀ (cs : List Nat) (j : Nat), (sz (j + 1) cs).sum = 2 * (sz j cs).sum
  | [], j => rfl
  | c :: cs, j => by
    simp only [sz, List.sum_append, sum_rep, sz_sum cs (j + 1)]
    rw [Nat.pow_succ, Nat.mul_add]
    congr 1
    rw [← Nat.mul_assoc, Nat.mul_comm]
theorem carry_sum {r : Nat} (r2 : 2 ≤ r) : ∀ (cs : List Nat) (c j : Nat), (sz j (carry r c cs)).sum = c * 2 ^ j + (sz (j + 1) cs).sum
  | [], c, j => by
    unfold carry
    split
    · rename_i h
      simp only [sz, List.append_nil, List.sum_append, sum_rep, List.sum_nil]
      rw [Nat.pow_succ]
      obtain ⟨d, rfl⟩ : ∃ d, c = d + 2 := ⟨c - 2, by omega⟩
      rw [Nat.add_sub_cancel, Nat.add_mul]
      omega
    · simp only [sz, List.append_nil, sum_rep, List.sum_nil, Nat.add_zero]
  | c' :: cs, c, j => by
    unfold carry
    split
    · rename_i h
      simp only [sz, List.sum_append, sum_rep]
      rw [carry_sum r2 cs (c' + 1) (j + 1), Nat.pow_succ]
      obtain ⟨d, rfl⟩ : ∃ d, c = d + 2 := ⟨c - 2, by omega⟩
      rw [Nat.add_sub_cancel, Nat.add_mul d 2, Nat.add_mul c' 1]
      omega
    · simp only [sz, List.sum_append, sum_rep]
theorem add_sum {r : Nat} (r2 : 2 ≤ r) (cs : List Nat) : (sz 0 (addC r cs)).sum = (sz 0 cs).sum + 1 := by
  cases cs with
  | nil => rfl
  | cons c cs =>
    show (sz 0 (carry r (c + 1) cs)).sum = _
    rw [carry_sum r2 cs (c + 1) 0]
    simp only [sz, List.sum_append, sum_rep]
    omega
theorem sz_ge : ∀ (cs : List Nat) (j x : Nat), x ∈ sz j cs → 2 ^ j ≤ x
  | [], j, x, h => by cases h
  | c :: cs, j, x, h => by
    simp only [sz, List.mem_append, List.mem_replicate] at h
    rcases h with ⟨_, rfl⟩ | h
    · exact Nat.le_refl _
    · have := sz_ge cs (j + 1) x h
      rw [Nat.pow_succ] at this
      omega
theorem sz_len (cs : List Nat) (j : Nat) : (sz j cs).length ≤ (sz j cs).sum := by
  have h : ∀ l : List Nat, (∀ x ∈ l, 1 ≤ x) → l.length ≤ l.sum := by
    intro l
    induction l with
    | nil => intro _; simp
    | cons x xs ih =>
      intro h
      have h1 := h x (by simp)
      have h2 := ih fun y hy => h y (List.mem_cons_of_mem _ hy)
      rw [List.length_cons, List.sum_cons]
      omega
  refine h _ fun x hx => ?_
  have := sz_ge cs j x hx
  have := Nat.one_le_two_pow (n := j)
  omega
/-! ### the ones, newest first, and how many heaps there are of each -/
def run (r : Nat) : List Int → Nat → List Nat × List Nat → List Nat × List Nat
  | [], _, st => st
  | x :: xs, p, st => run r xs (p + 1) (if x = 1 then (addC r st.1, p :: st.2) else st)
/-- places of ones, newest first -/
def Desc (no : List Nat) (p : Nat) : Prop := no.Pairwise (· > ·) ∧ ∀ x ∈ no, x < p
structure RunOk (r : Nat) (p : Nat) (st : List Nat × List Nat) : Prop where
  ok : OkC r st.1
  sum : (sz 0 st.1).sum = st.2.length
  desc : Desc st.2 p
theorem RunOk.len {r p : Nat} {st : List Nat × List Nat} (h : RunOk r p st) : st.2.length ≤ p := by
  obtain ⟨h1, h2⟩ := h.desc
  have go : ∀ (l : List Nat) (p : Nat), l.Pairwise (· > ·) → (∀ x ∈ l, x < p) → l.length ≤ p := by
    intro l
    induction l with
    | nil => intro p _ _; simp
    | cons x xs ih =>
      intro p hp hx
      obtain ⟨q1, q2⟩ := List.pairwise_cons.mp hp
      have := ih x q2 fun y hy => q1 y hy
      have := hx x (by simp)
      rw [List.length_cons]
      omega
  exact go _ _ h1 h2
theorem runOk_one {r p : Nat} {st : List Nat × List Nat} (r2 : 2 ≤ r) (h : RunOk r p st) : RunOk r (p + 1) (addC r st.1, p :: st.2) :=
  ⟨add_ok r2 _ h.ok, by rw [add_sum r2, h.sum]; rfl, List.pairwise_cons.mpr ⟨fun y hy => h.desc.2 y hy, h.desc.1⟩, fun x hx => by
    rcases List.mem_cons.mp hx with rfl | hx
    · omega
    · have := h.desc.2 x hx; omega⟩
theorem runOk_no {r p : Nat} {st : List Nat × List Nat} (h : RunOk r p st) : RunOk r (p + 1) st := ⟨h.ok, h.sum, h.desc.1, fun x hx => by have := h.desc.2 x hx; omega⟩
theorem run_ok {r : Nat} (r2 : 2 ≤ r) : ∀ (xs : List Int) (p : Nat) (st : List Nat × List Nat), RunOk r p st → RunOk r (p + xs.length) (run r xs p st)
  | [], p, st, h => h
  | x :: xs, p, st, h => by
    unfold run
    rw [List.length_cons, show p + (xs.length + 1) = p + 1 + xs.length by omega]
    refine run_ok r2 xs (p + 1) _ ?_
    split
    · exact runOk_one r2 h
    · exact runOk_no h
theorem run_ones {r : Nat} : ∀ (xs : List Int) (p : Nat) (st : List Nat × List Nat), (run r xs p st).2 = (((xs.zipIdx p).filter fun q => q.1 == 1).map (·.2)).reverse ++ st.2
  | [], p, st => by simp [run]
  | x :: xs, p, st => by
    unfold run
    rw [run_ones xs (p + 1)]
    simp only [List.zipIdx_cons, List.filter_cons]
    by_cases h : x = 1
    · subst h
      simp
    · have h2 : (x == 1) = false := by simpa using h
      simp [h, h2]
end Ev.K65
/-! P65c: all_heaps. -/
namespace Ev
theorem sliceL_take (xs : List D) (c : Nat) (h : c ≤ xs.length) : slice (.L xs) none (some (c : Int)) = some (.L (xs.take c)) := by
  have e : ¬ ((c : Int) < 0) := by omega
  simp [slice, items, cut, sIx, e, Nat.min_eq_left h]
theorem sliceL_drop (xs : List D) (c : Nat) (h : c ≤ xs.length) : slice (.L xs) (some (c : Int)) none = some (.L (xs.drop c)) := by
  simp [slice, items, cut, sIx]
  rw [if_neg (by omega), Nat.min_eq_left h, List.take_of_length_le (by simp)]
theorem maxL_up : ∀ (c n : Nat), maxL (n : Int) ((List.range' (n + 1) c).map fun (i : Nat) => (i : Int)) = ((n + c : Nat) : Int)
  | 0, n => by simp [maxL]
  | c + 1, n => by
    simp only [List.range'_succ, List.map_cons, maxL]
    rw [if_pos (by omega), maxL_up c (n + 1)]
    congr 1
    omega
theorem max_range (n c : Nat) (hc : 1 ≤ c) : blt .max [.L ((List.range' n c).map fun (i : Nat) => D.int (i : Int))] = some (.d (.int ((n + c - 1 : Nat) : Int))) := by
  obtain ⟨c, rfl⟩ : ∃ d, c = d + 1 := ⟨c - 1, by omega⟩
  have e : ((List.range' n (c + 1)).map fun (i : Nat) => D.int (i : Int)) = (((List.range' n (c + 1)).map fun (i : Nat) => (i : Int)).map D.int) := by rw [List.map_map]; rfl
  rw [e]
  have e2 : blt .max [.L (((List.range' n (c + 1)).map fun (i : Nat) => (i : Int)).map D.int)] = bestF maxL [.L (((List.range' n (c + 1)).map fun (i : Nat) => (i : Int)).map D.int)] := rfl
  rw [e2]
  unfold bestF intsF
  simp only [itemsL, Option.bind_some, intsOf_ints]
  rw [List.range'_succ, List.map_cons]
  simp only []
  rw [maxL_up]
  rfl
theorem ifB_end (T : Top) (C : Calls) (k : Nat) (ρ : Ev) (b : Bool) : ifB (R.ok b ρ) (evTs T C [] k) (fun ρ1 => .ok false ρ1) = .ok b ρ := by
  cases b <;> rfl
namespace K65
abbrev encH (h : Nat × Nat) : D := .tup [.int h.1, .int h.2]
abbrev St (r : Int) (rb : List Int) (hs : List (Nat × Nat)) (w3 w4 w5 w6 : Option W) : Ev := [some (.d (.int r)), some (.d (dR rb)), some (.L false (hs.map encH)), w3, w4, w5, w6, none, none]
section
variable (C : Calls) (k : Nat) (r : Int) (rb : List Int) (hs : List (Nat × Nat)) (w3 w4 w6 : Option W) (s : Nat)
theorem cA (hc : hs.length ≤ 10000) : evE L.T C (.comp (.var 7) (.nm 7) .seq [.var 2] [.cmp .eq (.ix (.var 7) (.int 0)) (.var 5)] [7]) k (St r rb hs w3 w4 (some (.d (.int s))) w6)
    = .ok (.L ((hs.filter fun h => (h.1 : Int) == (s : Int)).map encH)) (St r rb hs w3 w4 (some (.d (.int s))) w6) := by
  refine comp_enc _ _ _ _ _ _ _ _ _ _ [2] hs encH _ encH rfl (by simp [stands, wipe, beqs_refl]) rfl (by show _ ≤ 16777216; omega) ?_
  intro x hx
  refine ⟨[some (.d (.int r)), some (.d (dR rb)), some (.L false (hs.map encH)), w3, w4, some (.d (.int s)), w6, some (.d (encH x)), none], rfl, rfl, ?_, fun _ => ⟨.d (encH x), rfl, rfl⟩⟩
  simp [varS, ifB_end]
theorem cB (hc : hs.length ≤ 10000) : evE L.T C (.comp (.var 8) (.tp [.nm 8, .nm 7]) .enum [.var 2] [.cmp .eq (.ix (.var 7) (.int 0)) (.var 5)] [8, 7]) k (St r rb hs w3 w4 (some (.d (.int s))) w6)
    = .ok (.L ((hs.zipIdx.filter fun q => (q.1.1 : Int) == (s : Int)).map fun q => .int q.2)) (St r rb hs w3 w4 (some (.d (.int s))) w6) := by
  refine comp_enc _ _ _ _ _ _ _ _ _ _ [2] hs.zipIdx (fun q => .tup [.int q.2, encH q.1]) _ (fun q => .int q.2) ?_ (by simp [stands, wipe, beqs_refl]) rfl (by rw [List.length_zipIdx]; show _ ≤ 16777216; omega) ?_
  · have e := enum_map encH hs 0
    have e2 : iterF .enum (evL L.T C [.var 2] k (St r rb hs w3 w4 (some (.d (.int s))) w6)) = .ok (enumFrom 0 (hs.map encH), [2]) (St r rb hs w3 w4 (some (.d (.int s))) w6) := rfl
    rw [e2, e]
  · intro x hx
    refine ⟨[some (.d (.int r)), some (.d (dR rb)), some (.L false (hs.map encH)), w3, w4, some (.d (.int s)), w6, some (.d (encH x.1)), some (.d (.int x.2))], rfl, rfl, ?_, fun _ => ⟨.d (.int x.2), rfl, rfl⟩⟩
    simp [varS, ifB_end]
end
/-! ### which heaps are of a size -/
theorem flt_none (hs : List (Nat × Nat)) (s : Nat) (h : ∀ x ∈ hs.map (·.1), x ≠ s) : (hs.filter fun h => (h.1 : Int) == (s : Int)) = [] := by
  rw [List.filter_eq_nil_iff]
  intro x hx
  have := h x.1 (List.mem_map_of_mem hx)
  simp
  omega
theorem flt_all (hs : List (Nat × Nat)) (s : Nat) (h : ∀ x ∈ hs.map (·.1), x = s) : (hs.filter fun h => (h.1 : Int) == (s : Int)) = hs := by
  rw [List.filter_eq_self]
  intro x hx
  have := h x.1 (List.mem_map_of_mem hx)
  simp
  omega
theorem zflt_none (hs : List (Nat × Nat)) (s n : Nat) (h : ∀ x ∈ hs.map (·.1), x ≠ s) : ((hs.zipIdx n).filter fun q => (q.1.1 : Int) == (s : Int)) = [] := by
  rw [List.filter_eq_nil_iff]
  intro x hx
  have hm : x.1 ∈ hs := (List.mem_zipIdx hx).2.2 ▸ List.getElem_mem _
  have := h x.1.1 (List.mem_map_of_mem hm)
  simp
  omega
theorem zflt_all (hs : List (Nat × Nat)) (s n : Nat) (h : ∀ x ∈ hs.map (·.1), x = s) : ((hs.zipIdx n).filter fun q => (q.1.1 : Int) == (s : Int)) = hs.zipIdx n := by
  rw [List.filter_eq_self]
  intro x hx
  have hm : x.1 ∈ hs := (List.mem_zipIdx hx).2.2 ▸ List.getElem_mem _
  have := h x.1.1 (List.mem_map_of_mem hm)
  simp
  omega
theorem zip_snd {α : Type} : ∀ (hs : List α) (n : Nat), (hs.zipIdx n).map (·.2) = List.range' n hs.length
  | [], n => rfl
  | x :: hs, n => by simp [List.range'_succ, zip_snd hs (n + 1)]
section
variable {no pre rest : List Nat} {s c : Nat} (h1 : ∀ x ∈ pre, x < s) (h2 : ∀ x ∈ rest, s < x)
include h1 h2
theorem cnt_mid : ((tile no (pre ++ List.replicate c s ++ rest)).filter fun h => (h.1 : Int) == (s : Int)).length = c := by
  rw [tile_append, tile_append, List.filter_append, List.filter_append, flt_none _ _ (by rw [tile_fst]; intro x hx; have := h1 x hx; omega), flt_none (tile _ rest) _ (by rw [tile_fst]; intro x hx; have := h2 x hx; omega),
    flt_all _ _ (by rw [tile_fst]; intro x hx; exact List.eq_of_mem_replicate hx)]
  simp [tile_len]
theorem idx_mid : (((tile no (pre ++ List.replicate c s ++ rest)).zipIdx.filter fun q => (q.1.1 : Int) == (s : Int)).map fun q => D.int (q.2 : Int)) = (List.range' pre.length c).map fun (i : Nat) => D.int (i : Int) := by
  rw [tile_append, tile_append, List.zipIdx_append, List.zipIdx_append, List.filter_append, List.filter_append, zflt_none _ _ _ (by rw [tile_fst]; intro x hx; have := h1 x hx; omega), zflt_none (tile _ rest) _ _ (by rw [tile_fst]; intro x hx; have := h2 x hx; omega),
    zflt_all _ _ _ (by rw [tile_fst]; intro x hx; exact List.eq_of_mem_replicate hx)]
  have e := zip_snd (tile (no.drop pre.sum) (List.replicate c s)) (0 + (tile no pre).length)
  rw [tile_len, tile_len, List.length_replicate, Nat.zero_add] at e
  simp only [List.nil_append, List.append_nil, Nat.zero_add, tile_len]
  rw [← e, List.map_map]
  rfl
end
end K65
end Ev
/-! P65d: all_heaps (2). -/
namespace Ev.K65
def wT : E := .cmp .gt (.blt .len [.comp (.var 7) (.nm 7) .seq [.var 2] [.cmp .eq (.ix (.var 7) (.int 0)) (.var 5)] [7]]) (.var 0)
def wB : List S := [.set 6 (.blt .max [.comp (.var 8) (.tp [.nm 8, .nm 7]) .enum [.var 2] [.cmp .eq (.ix (.var 7) (.int 0)) (.var 5)] [8, 7]]),
        .set 2 (.bin .add (.bin .add (.sl (.var 2) .abs (.bin .sub (.var 6) (.int 1))) (.lst [.tup [.bin .mul (.int 2) (.var 5), .ix (.ix (.var 2) (.bin .sub (.var 6) (.int 1))) (.int 1)]])) (.sl (.var 2) (.bin .add (.var 6) (.int 1)) .abs)),
        .set 5 (.bin .mul (.int 2) (.var 5))]
section
variable (C : Calls) (k : Nat) (r : Int) (rb : List Int) (w3 w4 : Option W)
theorem wtest (hs : List (Nat × Nat)) (s n : Nat) (w6 : Option W) (hc : hs.length ≤ 10000) (hn : (hs.filter fun h => (h.1 : Int) == (s : Int)).length = n) :
    asT (evE L.T C wT k (St r rb hs w3 w4 (some (.d (.int s))) w6)) = .ok (decide (r < (n : Int))) (St r rb hs w3 w4 (some (.d (.int s))) w6) := by
  unfold wT
  rw [v_cmp, v_blt, v_lcons, cA C k r rb hs w3 w4 w6 s hc, R.bind_ok, v_lnil, R.bind_ok]
  simp only [R.bind_ok, List.map_cons, List.map_nil, rs_L, len_L, oko_some, List.length_map, hn]
  rfl
theorem wmerge (hs : List (Nat × Nat)) (s n : Nat) (d : Nat × Nat) (hn : n + 2 ≤ hs.length) (hc : hs.length ≤ 10000) :
    evS L.T C (.set 2 (.bin .add (.bin .add (.sl (.var 2) .abs (.bin .sub (.var 6) (.int 1))) (.lst [.tup [.bin .mul (.int 2) (.var 5), .ix (.ix (.var 2) (.bin .sub (.var 6) (.int 1))) (.int 1)]])) (.sl (.var 2) (.bin .add (.var 6) (.int 1)) .abs))) k
      (St r rb hs w3 w4 (some (.d (.int s))) (some (.d (.int ((n + 1 : Nat) : Int)))))
    = .ok .nx (St r rb (hs.take n ++ [(2 * s, (hs.getD n d).2)] ++ hs.drop (n + 2)) w3 w4 (some (.d (.int s))) (some (.d (.int ((n + 1 : Nat) : Int))))) := by
  generalize hρ : St r rb hs w3 w4 (some (.d (.int s))) (some (.d (.int ((n + 1 : Nat) : Int)))) = ρ
  have v6 : evE L.T C (.var 6) k ρ = .ok (.d (.int ((n + 1 : Nat) : Int))) ρ := by rw [← hρ]; rfl
  have v2 : evE L.T C (.var 2) k ρ = .ok (.bor 2) ρ := by rw [← hρ]; rfl
  have v5 : evE L.T C (.var 5) k ρ = .ok (.d (.int (s : Int))) ρ := by rw [← hρ]; rfl
  have r2 : rs ρ (.bor 2) = .L (hs.map encH) := by rw [← hρ]; rfl
  have lo : evE L.T C (.bin .sub (.var 6) (.int 1)) k ρ = .ok (.d (.int (n : Int))) ρ := by
    rw [v_bin, v6, R.bind_ok, v_int, R.bind_ok, rs_d, rs_d, bin_sub_i, show ((n + 1 : Nat) : Int) - 1 = (n : Int) by omega]; rfl
  have hi : evE L.T C (.bin .add (.var 6) (.int 1)) k ρ = .ok (.d (.int ((n + 2 : Nat) : Int))) ρ := by
    rw [v_bin, v6, R.bind_ok, v_int, R.bind_ok, rs_d, rs_d, bin_add_i, show ((n + 1 : Nat) : Int) + 1 = ((n + 2 : Nat) : Int) by omega]; rfl
  have s1 : evE L.T C (.sl (.var 2) .abs (.bin .sub (.var 6) (.int 1))) k ρ = .ok (.L ((hs.take n).map encH)) ρ := by
    rw [v_sl, v2, R.bind_ok, if_pos (show isAbs E.abs = true from rfl), R.bind_ok, if_neg (by decide), lo, asI_d, R.bind_ok, r2, sliceL_take _ _ (by rw [List.length_map]; omega), List.map_take]; rfl
  have s2 : evE L.T C (.sl (.var 2) (.bin .add (.var 6) (.int 1)) .abs) k ρ = .ok (.L ((hs.drop (n + 2)).map encH)) ρ := by
    rw [v_sl, v2, R.bind_ok, if_neg (by decide), hi, asI_d, R.bind_ok, if_pos (show isAbs E.abs = true from rfl), R.bind_ok, r2, sliceL_drop _ _ (by rw [List.length_map]; omega), List.map_drop]; rfl
  have hx : (hs.map encH)[n]? = some (encH (hs.getD n d)) := by
    rw [List.getElem?_map, List.getD_eq_getElem?_getD, List.getElem?_eq_getElem (by omega)]; rfl
  have mid : evE L.T C (.lst [.tup [.bin .mul (.int 2) (.var 5), .ix (.ix (.var 2) (.bin .sub (.var 6) (.int 1))) (.int 1)]]) k ρ = .ok (.L ([(2 * s, (hs.getD n d).2)].map encH)) ρ := by
    have m1 : evE L.T C (.bin .mul (.int 2) (.var 5)) k ρ = .ok (.d (.int ((2 * s : Nat) : Int))) ρ := by
      rw [v_bin, v_int, R.bind_ok, v5, R.bind_ok, rs_d, rs_d, bin_mul_i _ _ rfl, show (2 : Int) * (s : Int) = ((2 * s : Nat) : Int) by omega]; rfl
    have m2 : evE L.T C (.ix (.ix (.var 2) (.bin .sub (.var 6) (.int 1))) (.int 1)) k ρ = .ok (.d (.int ((hs.getD n d).2 : Int))) ρ := by
      rw [v_ix, v_ix, v2, R.bind_ok, lo, R.bind_ok, r2, rs_d, index_L, at_nat, hx]; rfl
    rw [v_lst, v_lcons, v_tup, v_lcons, m1, R.bind_ok, v_lcons, m2]
    rfl
  rw [v_set, v_bin, v_bin, s1, R.bind_ok, mid, R.bind_ok, rs_L, rs_L, add_L _ _ (by simp only [List.length_map, List.length_take, List.length_singleton]; show _ ≤ 16777216; omega), oko_some, R.bind_ok, s2, R.bind_ok, rs_L, rs_L,
    add_L _ _ (by simp only [List.length_append, List.length_map, List.length_take, List.length_drop, List.length_singleton]; show _ ≤ 16777216; omega), oko_some, R.bind_ok, ← List.map_append, ← List.map_append, ← hρ]
  rfl
/-- one turn of the loop -/
theorem wturn (no pre rest : List Nat) (s c : Nat) (o6 : Option D) (h1 : ∀ x ∈ pre, x < s) (h2 : ∀ x ∈ rest, s < x) (hc : 2 ≤ c) (hl : pre.length + c + rest.length ≤ 10000) :
    evB L.T C wB k (St r rb (tile no (pre ++ List.replicate c s ++ rest)) w3 w4 (some (.d (.int s))) (dw o6))
    = .ok .nx (St r rb (tile no (pre ++ List.replicate (c - 2) s ++ (2 * s) :: rest)) w3 w4 (some (.d (.int ((2 * s : Nat) : Int)))) (some (.d (.int ((pre.length + c - 2 + 1 : Nat) : Int))))) := by
  have hlen : (tile no (pre ++ List.replicate c s ++ rest)).length ≤ 10000 := by
    rw [tile_len]
    simp only [List.length_append, List.length_replicate]
    exact hl
  have hlen2 : (tile no (pre ++ List.replicate c s ++ rest)).length = pre.length + c + rest.length := by
    rw [tile_len]
    simp only [List.length_append, List.length_replicate]
  have e1 : evS L.T C (.set 6 (.blt .max [.comp (.var 8) (.tp [.nm 8, .nm 7]) .enum [.var 2] [.cmp .eq (.ix (.var 7) (.int 0)) (.var 5)] [8, 7]])) k (St r rb (tile no (pre ++ List.replicate c s ++ rest)) w3 w4 (some (.d (.int s))) (dw o6))
      = .ok .nx (St r rb (tile no (pre ++ List.replicate c s ++ rest)) w3 w4 (some (.d (.int s))) (some (.d (.int ((pre.length + c - 2 + 1 : Nat) : Int))))) := by
    rw [v_set, v_blt, v_lcons, cB C k r rb _ w3 w4 (dw o6) s hlen, R.bind_ok, v_lnil, R.bind_ok]
    simp only [R.bind_ok, List.map_cons, List.map_nil, rs_L]
    rw [idx_mid h1 h2, max_range _ _ (by omega), oko_some, R.bind_ok, assign_d, store_dw _ 6 o6 _ rfl, show pre.length + c - 1 = pre.length + c - 2 + 1 by omega]
    rfl
  have hA : pre ++ List.replicate c s ++ rest = (pre ++ List.replicate (c - 2) s) ++ s :: s :: rest := by
    obtain ⟨d, rfl⟩ : ∃ d, c = d + 2 := ⟨c - 2, by omega⟩
    rw [Nat.add_sub_cancel, ← List.replicate_append_replicate]
    simp
  have hAl : (pre ++ List.replicate (c - 2) s).length = pre.length + c - 2 := by simp; omega
  have e2 := wmerge C k r rb w3 w4 (tile no (pre ++ List.replicate c s ++ rest)) s (pre.length + c - 2) (0, 0) (by rw [hlen2]; omega) hlen
  have e3 := tile_merge (pre ++ List.replicate (c - 2) s) rest s no (0, 0)
  rw [← hA, hAl] at e3
  rw [e3] at e2
  unfold wB
  rw [evB_nx e1, evB_nx e2]
  have e4 : evS L.T C (.set 5 (.bin .mul (.int 2) (.var 5))) k (St r rb (tile no (pre ++ List.replicate (c - 2) s ++ (2 * s) :: rest)) w3 w4 (some (.d (.int s))) (some (.d (.int ((pre.length + c - 2 + 1 : Nat) : Int)))))
      = .ok .nx (St r rb (tile no (pre ++ List.replicate (c - 2) s ++ (2 * s) :: rest)) w3 w4 (some (.d (.int ((2 * s : Nat) : Int)))) (some (.d (.int ((pre.length + c - 2 + 1 : Nat) : Int))))) := by
    rw [v_set, v_bin, v_int, R.bind_ok, v_var]
    show (R.bind (oko (bin .mul (.d (.int 2)) (.d (.int (s : Int)))) _) _) = _
    rw [bin_mul_i _ _ rfl, show (2 : Int) * (s : Int) = ((2 * s : Nat) : Int) by omega]
    rfl
  rw [evB_nx e4]
  rfl
/-- the loop, from a level on -/
theorem wloop (r2 : 2 ≤ r) (no : List Nat) : ∀ (cs : List Nat) (j c fuel : Nat) (pre : List Nat) (o6 : Option D), cs.length + 2 ≤ fuel → (∀ x ∈ pre, x < 2 ^ j) → pre.length + c + (sz (j + 1) cs).length ≤ 9000 →
    ∃ o5 o6', whileL (fun ρ => asT (evE L.T C wT k ρ)) (evB L.T C wB k) fuel (St r rb (tile no (pre ++ List.replicate c (2 ^ j) ++ sz (j + 1) cs)) w3 w4 (some (.d (.int ((2 ^ j : Nat) : Int)))) (dw o6))
      = .ok .nx (St r rb (tile no (pre ++ sz j (carry r.toNat c cs))) w3 w4 (dw o5) (dw o6')) := by
  intro cs
  induction cs with
  | nil =>
    intro j c fuel pre o6 hf h1 hl
    obtain ⟨fuel, rfl⟩ : ∃ f, fuel = f + 1 := ⟨fuel - 1, by omega⟩
    simp only [sz, List.length_nil] at hl
    have h2 : ∀ x ∈ ([] : List Nat), 2 ^ j < x := fun x hx => by cases hx
    have hlen : (tile no (pre ++ List.replicate c (2 ^ j) ++ [])).length ≤ 10000 := by
      rw [tile_len]; simp only [List.length_append, List.length_replicate, List.length_nil]; omega
    rw [whileL_s]
    show ∃ o5 o6', ifB (asT (evE L.T C wT k (St r rb (tile no (pre ++ List.replicate c (2 ^ j) ++ [])) w3 w4 (some (.d (.int ((2 ^ j : Nat) : Int)))) (dw o6)))) _ _ = _
    rw [wtest C k r rb w3 w4 _ (2 ^ j) c (dw o6) hlen (cnt_mid h1 h2), ifB_b]
    by_cases g : r < (c : Int)
    · rw [if_pos (decide_eq_true g), wturn C k r rb w3 w4 no pre [] (2 ^ j) c o6 h1 h2 (by omega) (by simp; omega), R.bind_ok]
      obtain ⟨fuel, rfl⟩ : ∃ f, fuel = f + 1 := ⟨fuel - 1, by omega⟩
      have h1' : ∀ x ∈ pre ++ List.replicate (c - 2) (2 ^ j), x < 2 ^ (j + 1) := by
        intro x hx
        have hp := Nat.pow_succ 2 j
        rcases List.mem_append.mp hx with hx | hx
        · have := h1 x hx; omega
        · have := List.eq_of_mem_replicate hx
          have := Nat.one_le_two_pow (n := j)
          omega
      have ht : tile no (pre ++ List.replicate (c - 2) (2 ^ j) ++ [2 * 2 ^ j]) = tile no ((pre ++ List.replicate (c - 2) (2 ^ j)) ++ List.replicate 1 (2 ^ (j + 1)) ++ []) := by
        rw [Nat.pow_succ, Nat.mul_comm (2 ^ j) 2]; simp
      have hp : ((2 * 2 ^ j : Nat) : Int) = ((2 ^ (j + 1) : Nat) : Int) := by rw [Nat.pow_succ, Nat.mul_comm]
      have hlen' : (tile no ((pre ++ List.replicate (c - 2) (2 ^ j)) ++ List.replicate 1 (2 ^ (j + 1)) ++ [])).length ≤ 10000 := by
        rw [tile_len]; simp only [List.length_append, List.length_replicate, List.length_nil]; omega
      simp only []
      rw [whileL_s, ht, hp, wtest C k r rb w3 w4 _ (2 ^ (j + 1)) 1 _ hlen' (cnt_mid h1' (fun x hx => by cases hx)), ifB_b, if_neg (by simp; omega)]
      refine ⟨some (.int ((2 ^ (j + 1) : Nat) : Int)), some (.int ((pre.length + c - 2 + 1 : Nat) : Int)), ?_⟩
      have hcr : carry r.toNat c [] = [c - 2, 1] := by unfold carry; rw [if_pos (by omega)]
      rw [hcr]
      simp [sz]
    · rw [if_neg (by simpa using g)]
      refine ⟨some (.int ((2 ^ j : Nat) : Int)), o6, ?_⟩
      have hcr : carry r.toNat c [] = [c] := by unfold carry; rw [if_neg (by omega)]
      rw [hcr]
      simp [sz]
  | cons c' cs ih =>
    intro j c fuel pre o6 hf h1 hl
    obtain ⟨fuel, rfl⟩ : ∃ f, fuel = f + 1 := ⟨fuel - 1, by omega⟩
    have hp0 := Nat.pow_succ 2 j
    have hp1 := Nat.one_le_two_pow (n := j)
    have h2 : ∀ x ∈ sz (j + 1) (c' :: cs), 2 ^ j < x := fun x hx => by have := sz_ge _ _ x hx; omega
    have hlen : (tile no (pre ++ List.replicate c (2 ^ j) ++ sz (j + 1) (c' :: cs))).length ≤ 10000 := by
      rw [tile_len]; simp only [List.length_append, List.length_replicate]; omega
    rw [whileL_s, wtest C k r rb w3 w4 _ (2 ^ j) c (dw o6) hlen (cnt_mid h1 h2), ifB_b]
    by_cases g : r < (c : Int)
    · rw [if_pos (decide_eq_true g), wturn C k r rb w3 w4 no pre _ (2 ^ j) c o6 h1 h2 (by omega) (by omega), R.bind_ok]
      have h1' : ∀ x ∈ pre ++ List.replicate (c - 2) (2 ^ j), x < 2 ^ (j + 1) := by
        intro x hx
        rcases List.mem_append.mp hx with hx | hx
        · have := h1 x hx; omega
        · have := List.eq_of_mem_replicate hx
          omega
      have hl' : (pre ++ List.replicate (c - 2) (2 ^ j)).length + (c' + 1) + (sz (j + 1 + 1) cs).length ≤ 9000 := by
        simp only [sz, List.length_append, List.length_replicate] at hl ⊢
        omega
      obtain ⟨o5, o6', e⟩ := ih (j + 1) (c' + 1) fuel (pre ++ List.replicate (c - 2) (2 ^ j)) (some (.int ((pre.length + c - 2 + 1 : Nat) : Int))) (by simp only [List.length_cons] at hf; omega) h1' hl'
      have ht : tile no (pre ++ List.replicate (c - 2) (2 ^ j) ++ 2 * 2 ^ j :: sz (j + 1) (c' :: cs)) = tile no ((pre ++ List.replicate (c - 2) (2 ^ j)) ++ List.replicate (c' + 1) (2 ^ (j + 1)) ++ sz (j + 1 + 1) cs) := by
        rw [List.replicate_succ, sz, Nat.pow_succ, Nat.mul_comm (2 ^ j) 2]; simp
      have hp : ((2 * 2 ^ j : Nat) : Int) = ((2 ^ (j + 1) : Nat) : Int) := by rw [Nat.pow_succ, Nat.mul_comm]
      refine ⟨o5, o6', ?_⟩
      simp only []
      rw [ht, hp]
      refine e.trans ?_
      have hcr : carry r.toNat c (c' :: cs) = (c - 2) :: carry r.toNat (c' + 1) cs := by
        rw [carry, if_pos (by omega)]
      rw [hcr, sz, List.append_assoc]
    · rw [if_neg (by simpa using g)]
      refine ⟨some (.int ((2 ^ j : Nat) : Int)), o6, ?_⟩
      have hcr : carry r.toNat c (c' :: cs) = c :: c' :: cs := by
        rw [carry, if_neg (by omega)]
      rw [hcr, sz, List.append_assoc]
      rfl
end
end Ev.K65
/-! P65e: all_heaps (3), heaps. -/
namespace Ev.K65
theorem asg_cons (ρ : Ev) (i : Nat) (is : List Nat) (o : O) (os : List O) : assigns ρ (i :: is) (o :: os) = (assign ρ i o).bind fun ρ1 => assigns ρ1 is os := by
  rw [assigns]
theorem asg_nil (ρ : Ev) : assigns ρ [] [] = some ρ := by
  rw [assigns]
theorem okc_len {r : Nat} (r2 : 2 ≤ r) : ∀ (cs : List Nat) (j : Nat), OkC r cs → cs.length ≤ (sz j cs).length
  | [], j, _ => by simp
  | c :: cs, j, h => by
    have h1 := h.head r2
    have h2 := okc_len r2 cs (j + 1) h.tail
    simp only [sz, List.length_append, List.length_replicate, List.length_cons]
    omega
def fB : List S := [.ite (.cmp .eq (.var 4) (.int 1))
     [.par [2, 5] [.bin .add (.lst [.tup [.int 1, .var 3]]) (.var 2), .int 1],
      .while_ wT wB]
     []]
section
variable (C : Calls) (k r : Nat) (rb : List Int) (r2 : 2 ≤ r)
include r2
theorem fturn (x : Int) (p : Nat) (st : List Nat × List Nat) (o5 o6 : Option D) (h : RunOk r p st) (hp : p < 200) : ∃ o5' o6', evB L.T C fB k (St r rb (tile st.2 (sz 0 st.1)) (some (.d (.int p))) (some (.d (.int x))) (dw o5) (dw o6))
    = .ok .nx (St r rb (tile (if x = 1 then (addC r st.1, p :: st.2) else st).2 (sz 0 (if x = 1 then (addC r st.1, p :: st.2) else st).1)) (some (.d (.int p))) (some (.d (.int x))) (dw o5') (dw o6')) := by
  obtain ⟨cs, no⟩ := st
  have hno := h.len
  have hsum := h.sum
  have hlen := sz_len cs 0
  have hcl := okc_len r2 cs 0 h.ok
  simp only at hno hsum hlen hcl ⊢
  have ht : ∀ ρ : Ev, ρ[4]? = some (some (.d (.int x))) → asT (evE L.T C (.cmp .eq (.var 4) (.int 1)) k ρ) = .ok (decide (x = 1)) ρ := by
    intro ρ e
    rw [v_cmp, v_var]
    have ev : varS 4 ρ = .ok (.d (.int x)) ρ := by unfold varS; rw [e]
    rw [ev, R.bind_ok, v_int, R.bind_ok, rs_d, rs_d, cmp_eq_d, same_ii]
    rfl
  by_cases hx : x = 1
  · subst hx
    simp only [if_true]
    have e1 : evS L.T C (.par [2, 5] [.bin .add (.lst [.tup [.int 1, .var 3]]) (.var 2), .int 1]) k (St r rb (tile no (sz 0 cs)) (some (.d (.int p))) (some (.d (.int 1))) (dw o5) (dw o6))
        = .ok .nx (St r rb (tile (p :: no) (1 :: sz 0 cs)) (some (.d (.int p))) (some (.d (.int 1))) (some (.d (.int ((2 ^ 0 : Nat) : Int)))) (dw o6)) := by
      have a1 : evE L.T C (.bin .add (.lst [.tup [.int 1, .var 3]]) (.var 2)) k (St r rb (tile no (sz 0 cs)) (some (.d (.int p))) (some (.d (.int 1))) (dw o5) (dw o6)) = .ok (.L ((tile (p :: no) (1 :: sz 0 cs)).map encH)) (St r rb (tile no (sz 0 cs)) (some (.d (.int p))) (some (.d (.int 1))) (dw o5) (dw o6)) := by
        rw [v_bin]
        show oko (bin .add (.L [encH (1, p)]) (.L ((tile no (sz 0 cs)).map encH))) _ = _
        rw [add_L _ _ (by rw [List.length_map, tile_len]; show 1 + _ ≤ 16777216; omega)]
        rfl
      rw [v_par, v_lcons, a1, R.bind_ok, v_lcons, v_int, R.bind_ok, v_lnil, R.bind_ok, R.bind_ok, R.bind_ok]
      simp only [walked_L, walked_d, walked_nil, List.all_nil, R.grd_true]
      rw [asg_cons, assign_L]
      have s1 : store (St r rb (tile no (sz 0 cs)) (some (.d (.int p))) (some (.d (.int 1))) (dw o5) (dw o6)) 2 (.L false ((tile (p :: no) (1 :: sz 0 cs)).map encH)) = some (St r rb (tile (p :: no) (1 :: sz 0 cs)) (some (.d (.int p))) (some (.d (.int 1))) (dw o5) (dw o6)) := rfl
      rw [s1, Option.bind_some, asg_cons, assign_d, store_dw _ 5 o5 _ rfl, Option.bind_some, asg_nil]
      rfl
    have hw : ∃ o5' o6', whileL (fun ρ => asT (evE L.T C wT k ρ)) (evB L.T C wB k) big (St r rb (tile (p :: no) (1 :: sz 0 cs)) (some (.d (.int p))) (some (.d (.int 1))) (some (.d (.int ((2 ^ 0 : Nat) : Int)))) (dw o6))
        = .ok .nx (St r rb (tile (p :: no) (sz 0 (addC r cs))) (some (.d (.int p))) (some (.d (.int 1))) (dw o5') (dw o6')) := by
      have hb : big = 1048576 := rfl
      cases cs with
      | nil =>
        obtain ⟨o5', o6', e⟩ := wloop C k (r : Int) rb (some (.d (.int p))) (some (.d (.int 1))) (by omega) (p :: no) [] 0 1 big [] o6 (by simp; omega) (by simp) (by simp [sz])
        refine ⟨o5', o6', ?_⟩
        have hc : carry (r : Int).toNat 1 [] = addC r [] := by
          unfold carry
          rw [if_neg (by omega)]; rfl
        rw [hc] at e
        exact e
      | cons c cs =>
        simp only [sz, List.length_append, List.length_replicate, List.length_cons] at hcl hlen
        simp only [sz] at hsum
        rw [hsum] at hlen
        obtain ⟨o5', o6', e⟩ := wloop C k (r : Int) rb (some (.d (.int p))) (some (.d (.int 1))) (by omega) (p :: no) cs 0 (c + 1) big [] o6 (by omega) (by simp) (by simp only [List.length_nil]; omega)
        refine ⟨o5', o6', ?_⟩
        have hc : carry (r : Int).toNat (c + 1) cs = addC r (c :: cs) := by
          rw [Int.toNat_natCast]; rfl
        rw [hc] at e
        exact e
    obtain ⟨o5', o6', hw⟩ := hw
    refine ⟨o5', o6', ?_⟩
    unfold fB
    rw [v_bcons, v_if, ht _ rfl, ifB_b, if_pos (decide_eq_true rfl), evB_nx e1, v_bcons, v_while, hw]
    rfl
  · rw [if_neg hx]
    refine ⟨o5, o6, ?_⟩
    unfold fB
    rw [v_bcons, v_if, ht _ rfl, ifB_b, if_neg (by simpa using hx)]
    rfl
theorem floop (ρ0 : Ev) : ∀ (xs : List Int) (p : Nat) (st : List Nat × List Nat) (o3 o4 o5 o6 : Option D), RunOk r p st → p + xs.length ≤ 200 → ∃ o3' o4' o5' o6',
    forL [] ρ0 (.tp [.nm 3, .nm 4]) (evB L.T C fB k) (enumFrom p (xs.map D.int)) (St r rb (tile st.2 (sz 0 st.1)) (dw o3) (dw o4) (dw o5) (dw o6))
      = .ok .nx (St r rb (tile (run r xs p st).2 (sz 0 (run r xs p st).1)) (dw o3') (dw o4') (dw o5') (dw o6'))
  | [], p, st, o3, o4, o5, o6, h, hp => ⟨o3, o4, o5, o6, rfl⟩
  | x :: xs, p, st, o3, o4, o5, o6, h, hp => by
    rw [List.length_cons] at hp
    obtain ⟨o5', o6', e⟩ := fturn C k r rb r2 x p st o5 o6 h (by omega)
    have h' : RunOk r (p + 1) (if x = 1 then (addC r st.1, p :: st.2) else st) := by
      split
      · exact runOk_one r2 h
      · exact runOk_no h
    obtain ⟨q3, q4, q5, q6, e2⟩ := floop ρ0 xs (p + 1) (if x = 1 then (addC r st.1, p :: st.2) else st) (some (.int p)) (some (.int x)) o5' o6' h' (by omega)
    refine ⟨q3, q4, q5, q6, ?_⟩
    have hb : bindT (.tp [.nm 3, .nm 4]) (.tup [.int p, .int x]) (St r rb (tile st.2 (sz 0 st.1)) (dw o3) (dw o4) (dw o5) (dw o6)) = some (St r rb (tile st.2 (sz 0 st.1)) (some (.d (.int p))) (some (.d (.int x))) (dw o5) (dw o6)) := by
      show ((store _ 3 (.d (.int p))).bind fun ρ => (bindT (.nm 4) (.int x) ρ).bind fun ρ => some ρ) = _
      rw [store_dw _ 3 o3 _ rfl, Option.bind_some]
      show ((store _ 4 (.d (.int x))).bind fun ρ => some ρ) = _
      rw [store_dw _ 4 o4 _ rfl]
      rfl
    show (if stands ρ0 _ [] = true then R.opt (bindT _ (.tup [.int p, .int x]) _) _ else _) = _
    rw [if_pos (show stands ρ0 _ [] = true from rfl), hb, R.opt_some, e, R.bind_ok]
    exact e2
end
/-- the sizes, the ones -/
def cs_ (r : Nat) (rb : List Int) : List Nat := (run r rb 0 ([], [])).1
def no_ (r : Nat) (rb : List Int) : List Nat := (run r rb 0 ([], [])).2
def hp_ (r : Nat) (rb : List Int) : List (Nat × Nat) := tile (no_ r rb) (sz 0 (cs_ r rb))
theorem runOk {r : Nat} (r2 : 2 ≤ r) (rb : List Int) : RunOk r rb.length (run r rb 0 ([], [])) := by
  have := run_ok r2 rb 0 ([], []) ⟨trivial, rfl, .nil, fun x hx => by cases hx⟩
  rwa [Nat.zero_add] at this
theorem hp_len {r : Nat} (r2 : 2 ≤ r) {rb : List Int} (h : Rw rb) : (hp_ r rb).length ≤ 200 := by
  have q := runOk r2 rb
  have q1 := q.len
  have q2 := q.sum
  have q3 := sz_len (cs_ r rb) 0
  have q4 := h.len
  unfold hp_
  rw [tile_len]
  unfold cs_ at *
  omega
/-- all_heaps -/
theorem t4 (r : Nat) (r2 : 2 ≤ r) (rb : List Int) (h : Rw rb) : DO 1 4 [.int r, dR rb] (.L ((hp_ r rb).map encH)) := .ofL d4 rfl _ _ rfl fun k hk => by
  obtain ⟨o3, o4, o5, o6, e⟩ := floop (calls L.T L.ds k) k r rb r2 (St r rb [] none none none none) rb 0 ([], []) none none none none ⟨trivial, rfl, .nil, fun x hx => by cases hx⟩ (by have := h.len; omega)
  refine ⟨2, St r rb (hp_ r rb) (dw o3) (dw o4) (dw o5) (dw o6), ?_, rfl, by simp⟩
  show evB L.T (calls L.T L.ds k) d4.body k [some (.d (.int r)), some (.d (dR rb)), none, none, none, none, none, none, none] = _
  have e1 : evS L.T (calls L.T L.ds k) (.set 2 (.lst [])) k [some (.d (.int r)), some (.d (dR rb)), none, none, none, none, none, none, none] = .ok .nx (St r rb [] none none none none) := rfl
  have e2 : evS L.T (calls L.T L.ds k) (.for_ (.tp [.nm 3, .nm 4]) .enum [.var 1] fB) k (St r rb [] none none none none) = .ok .nx (St r rb (hp_ r rb) (dw o3) (dw o4) (dw o5) (dw o6)) := by
    rw [v_for]
    exact e
  unfold d4
  dsimp only
  rw [evB_nx e1]
  refine (evB_nx e2 _).trans ?_
  rfl
/-- heaps -/
theorem t5 (r : Nat) (r2 : 2 ≤ r) (r10 : r ≤ 10) (rb : List Int) (h : Rw rb) : DO 4 5 [.int r, dR rb] (.d (.tup ((hp_ r rb).map encH))) := .of d5 rfl _ _ rfl fun k hk => by
  have e3 := t3 r (by omega) (by omega) rb h k (by omega)
  have e4 := t4 r r2 rb h k (by omega)
  simp only [List.map_cons, List.map_nil] at e3 e4
  simp [d5, arg, varS, e3, e4]
end Ev.K65
/-! P65f: ones in a window. -/
namespace Ev
theorem at_last (xs : List D) (x : D) : at_ (xs ++ [x]) (-1) = some x := by
  unfold at_ place
  rw [if_neg (by omega), if_pos (by simp; omega)]
  simp only [Option.bind_some, List.length_append, List.length_singleton]
  rw [show (((xs.length + 1 : Nat) : Int) + -1).toNat = xs.length by omega]
  simp
theorem last_cases {α : Type} (l : List α) : l = [] ∨ ∃ A o, l = A ++ [o] := by
  rcases List.eq_nil_or_concat l with h | ⟨A, o, h⟩
  · exact .inl h
  · exact .inr ⟨A, o, by rw [h]; simp⟩
namespace K65
/-- the sizes of the heaps that begin at T or later -/
def win (hs : List (Nat × Nat)) (T : Int) : List Nat := (hs.filter fun h => decide (T ≤ (h.2 : Int))).map (·.1)
def bw (S : List Nat) : Int × Int := match S.getLast? with
  | none => (0, 0)
  | some o => ((S.sum : Int) - o + 1, S.sum)
theorem nat_sum (S : List Nat) : ((S.map fun (s : Nat) => (s : Int)).sum) = (S.sum : Int) := by
  induction S with
  | nil => rfl
  | cons x xs ih => rw [List.map_cons, List.sum_cons, List.sum_cons, ih]; omega
theorem t6 (r : Nat) (r2 : 2 ≤ r) (r10 : r ≤ 10) (rb : List Int) (h : Rw rb) (w : Int) (w0 : 0 ≤ w) (w1 : w ≤ 200) :
    DO 4 6 [.int r, dR rb, .int w] (.d (.tup [.int (bw (win (hp_ r rb) (rb.length - w))).1, .int (bw (win (hp_ r rb) (rb.length - w))).2])) := .of d6 rfl _ _ rfl fun k hk => by
  have e3 := t3 r (by omega) (by omega) rb h k (by omega)
  have e4 := t4 r r2 rb h k (by omega)
  have e2 := t2 w 0 200 k (by omega)
  simp only [List.map_cons, List.map_nil] at e3 e4 e2
  have hlen := hp_len r2 h
  have hb : (decide (0 ≤ w) && decide (w ≤ 200)) = true := by simp [w0, w1]
  rw [hb] at e2
  have hc : evE L.T (calls L.T L.ds k) (.comp (.var 4) (.tp [.nm 4, .nm 5]) .seq [.call 4 [.var 0, .var 1]] [.cmp .ge (.var 5) (.bin .sub (.blt .len [.var 1]) (.var 2))] [4, 5]) k [some (.d (.int r)), some (.d (dR rb)), some (.d (.int w)), none, none, none]
      = .ok (.L (((hp_ r rb).filter fun h => decide ((rb.length : Int) - w ≤ (h.2 : Int))).map fun h => .int h.1)) [some (.d (.int r)), some (.d (dR rb)), some (.d (.int w)), none, none, none] := by
    refine comp_enc _ _ _ _ _ _ _ _ _ _ [] (hp_ r rb) encH _ (fun h => .int h.1) ?_ rfl rfl (by show _ ≤ 16777216; omega) ?_
    · rw [v_lcons, v_call]
      have : evL L.T (calls L.T L.ds k) [.var 0, .var 1] k [some (.d (.int r)), some (.d (dR rb)), some (.d (.int w)), none, none, none] = .ok [.d (.int r), .d (dR rb)] [some (.d (.int r)), some (.d (dR rb)), some (.d (.int w)), none, none, none] := rfl
      rw [this, R.bind_ok, e4]
      rfl
    · intro x hx
      refine ⟨[some (.d (.int r)), some (.d (dR rb)), some (.d (.int w)), none, some (.d (.int x.1)), some (.d (.int x.2))], rfl, rfl, ?_, fun _ => ⟨.d (.int x.1), rfl, rfl⟩⟩
      simp [varS, ifB_end]
  have hw : (((hp_ r rb).filter fun h => decide ((rb.length : Int) - w ≤ (h.2 : Int))).map fun h => D.int h.1) = ((win (hp_ r rb) (rb.length - w)).map fun (s : Nat) => (s : Int)).map D.int := by
    unfold win
    rw [List.map_map, List.map_map]
    rfl
  rw [hw] at hc
  generalize win (hp_ r rb) (rb.length - w) = S at *
  have e1 : evS L.T (calls L.T L.ds k) (.ex (.call 3 [.var 0, .var 1])) k [some (.d (.int r)), some (.d (dR rb)), some (.d (.int w)), none, none, none] = .ok .nx [some (.d (.int r)), some (.d (dR rb)), some (.d (.int w)), none, none, none] := by
    simp [varS, e3]
  have e5 : evS L.T (calls L.T L.ds k) (.ite (.not_ (.call 2 [.var 2, .int 0, .con 0])) [.raise 0] []) k [some (.d (.int r)), some (.d (dR rb)), some (.d (.int w)), none, none, none] = .ok .nx [some (.d (.int r)), some (.d (dR rb)), some (.d (.int w)), none, none, none] := by
    simp [varS, con0, e2]
  have e6 := hc
  have e7 : evS L.T (calls L.T L.ds k) (.set 3 (.comp (.var 4) (.tp [.nm 4, .nm 5]) .seq [.call 4 [.var 0, .var 1]] [.cmp .ge (.var 5) (.bin .sub (.blt .len [.var 1]) (.var 2))] [4, 5])) k [some (.d (.int r)), some (.d (dR rb)), some (.d (.int w)), none, none, none]
      = .ok .nx [some (.d (.int r)), some (.d (dR rb)), some (.d (.int w)), some (.L false ((S.map fun (s : Nat) => (s : Int)).map D.int)), none, none] := by
    rw [v_set, hc]
    rfl
  have e8 : ∃ ρ', evS L.T (calls L.T L.ds k) (.ret (.ite (.cmp .eq (.blt .len [.var 3]) (.int 0)) (.tup [.int 0, .int 0]) (.tup [.bin .add (.bin .sub (.blt .sum [.var 3]) (.ix (.var 3) (.neg (.int 1)))) (.int 1), .blt .sum [.var 3]]))) k [some (.d (.int r)), some (.d (dR rb)), some (.d (.int w)), some (.L false ((S.map fun (s : Nat) => (s : Int)).map D.int)), none, none]
      = .ok (.ret (.d (.tup [.int (bw S).1, .int (bw S).2]))) ρ' ∧ 3 ≤ ρ'.length := by
    rcases last_cases S with rfl | ⟨A, o, rfl⟩
    · refine ⟨_, rfl, ?_⟩
      show 3 ≤ 6
      omega
    · refine ⟨[some (.d (.int r)), some (.d (dR rb)), some (.d (.int w)), some (.L false (((A ++ [o]).map fun (s : Nat) => (s : Int)).map D.int)), none, none], ?_, by simp⟩
      have hs := sum_ints ((A ++ [o]).map fun (s : Nat) => (s : Int))
      rw [nat_sum] at hs
      have hx : index (.L (((A ++ [o]).map fun (s : Nat) => (s : Int)).map D.int)) (.d (.int (-1))) = some (.int o) := by
        rw [index_L, List.map_append, List.map_append]
        exact at_last _ _
      have hbw : bw (A ++ [o]) = ((((A ++ [o]).sum : Nat) : Int) - (o : Int) + 1, (((A ++ [o]).sum : Nat) : Int)) := by
        unfold bw
        rw [List.getLast?_append]
        rfl
      have hl : ((((((A ++ [o]).map fun (s : Nat) => (s : Int)).map D.int).length : Nat) : Int) == 0) = false := by
        rw [beq_eq_false_iff_ne]
        simp
        omega
      rw [hbw]
      generalize ((A ++ [o]).map fun (s : Nat) => (s : Int)).map D.int = xs at *
      simp [varS, rs, hs, hx, hl]
  obtain ⟨ρ', e8, hl⟩ := e8
  show fin 3 (evB L.T (calls L.T L.ds k) d6.body k [some (.d (.int r)), some (.d (dR rb)), some (.d (.int w)), none, none, none]) = _
  unfold d6
  dsimp only
  rw [evB_nx e1, evB_nx e5, evB_nx e7, evB_fl e8, fin_d, if_pos hl]
/-! ### the heaps in a window -/
theorem flt_drop (no : List Nat) (T : Int) (s : Nat) (hd : no.Pairwise (· > ·)) (h : 0 < ((no.drop s).filter fun (x : Nat) => decide (T ≤ (x : Int))).length) : (no.filter fun (x : Nat) => decide (T ≤ (x : Int))).length = s + ((no.drop s).filter fun (x : Nat) => decide (T ≤ (x : Int))).length := by
  have e : no = no.take s ++ no.drop s := (List.take_append_drop s no).symm
  obtain ⟨y, hy⟩ := List.exists_mem_of_length_pos h
  obtain ⟨hy1, hy2⟩ := List.mem_filter.mp hy
  have hy2 := of_decide_eq_true hy2
  have hl : s < no.length := by
    rcases Nat.lt_or_ge s no.length with z | z
    · exact z
    · rw [List.drop_eq_nil_of_le z] at hy1; cases hy1
  have ha : ((no.take s).filter fun (x : Nat) => decide (T ≤ (x : Int))) = no.take s := by
    rw [List.filter_eq_self]
    intro x hx
    rw [e] at hd
    have := (List.pairwise_append.mp hd).2.2 x hx y hy1
    simp
    omega
  have el : (no.filter fun (x : Nat) => decide (T ≤ (x : Int))).length = ((no.take s ++ no.drop s).filter fun (x : Nat) => decide (T ≤ (x : Int))).length := by rw [← e]
  rw [el, List.filter_append, ha, List.length_append, List.length_take, Nat.min_eq_left (by omega)]
theorem win_cons (no : List Nat) (s : Nat) (ss : List Nat) (T : Int) : win (tile no (s :: ss)) T = if T ≤ ((no.headD 0 : Nat) : Int) then s :: win (tile (no.drop s) ss) T else win (tile (no.drop s) ss) T := by
  unfold win
  rw [tile, List.filter_cons]
  by_cases h : T ≤ ((no.headD 0 : Nat) : Int)
  · rw [if_pos (by simpa using h), if_pos h, List.map_cons]
  · rw [if_neg (by simpa using h), if_neg h]
theorem win_ok (T : Int) : ∀ (ss no : List Nat), no.Pairwise (· > ·) → ss.sum = no.length → (∀ s ∈ ss, 1 ≤ s) →
    ((no.filter fun (x : Nat) => decide (T ≤ (x : Int))).length = 0 ∧ win (tile no ss) T = []) ∨
    ∃ A o B, win (tile no ss) T = A ++ [o] ∧ ss = A ++ o :: B ∧ A.sum < (no.filter fun (x : Nat) => decide (T ≤ (x : Int))).length ∧ (no.filter fun (x : Nat) => decide (T ≤ (x : Int))).length ≤ A.sum + o
  | [], no, hd, hs, h1 => by
    have : no = [] := List.length_eq_zero_iff.mp hs.symm
    subst this
    exact .inl ⟨rfl, rfl⟩
  | s :: ss, no, hd, hs, h1 => by
    have hs1 := h1 s (by simp)
    rw [List.sum_cons] at hs
    have ih := win_ok T ss (no.drop s) (hd.sublist (List.drop_sublist s no)) (by rw [List.length_drop]; omega) fun x hx => h1 x (List.mem_cons_of_mem _ hx)
    rw [win_cons]
    cases hno : no with
    | nil => rw [hno] at hs; simp at hs; omega
    | cons x no' =>
      rw [← hno]
      have hh : no.headD 0 = x := by rw [hno]; rfl
      rw [hh]
      by_cases g : T ≤ (x : Int)
      · rw [if_pos g]
        right
        have hm : 0 < (no.filter fun (x : Nat) => decide (T ≤ (x : Int))).length := by
          refine List.length_pos_of_mem (a := x) (List.mem_filter.mpr ⟨by rw [hno]; simp, by simpa using g⟩)
        rcases ih with ⟨z, ew⟩ | ⟨A, o, B, ew, es, a1, a2⟩
        · refine ⟨[], s, ss, by rw [ew]; rfl, rfl, hm, ?_⟩
          have e : no = no.take s ++ no.drop s := (List.take_append_drop s no).symm
          have el : (no.filter fun (x : Nat) => decide (T ≤ (x : Int))).length = ((no.take s ++ no.drop s).filter fun (x : Nat) => decide (T ≤ (x : Int))).length := by rw [← e]
          rw [el, List.filter_append, List.length_append, z]
          have := List.length_filter_le (fun (x : Nat) => decide (T ≤ (x : Int))) (no.take s)
          have := List.length_take_le s no
          simp only [List.sum_nil]
          omega
        · have q := flt_drop no T s hd (by omega)
          refine ⟨s :: A, o, B, by rw [ew]; rfl, by rw [es]; rfl, ?_, ?_⟩
          · rw [List.sum_cons]; omega
          · rw [List.sum_cons]; omega
      · rw [if_neg g]
        have hz : (no.filter fun (x : Nat) => decide (T ≤ (x : Int))).length = 0 := by
          rw [List.length_eq_zero_iff, List.filter_eq_nil_iff]
          intro y hy
          rw [hno] at hy hd
          have hp := (List.pairwise_cons.mp hd).1
          rcases List.mem_cons.mp hy with rfl | hy
          · simpa using g
          · have := hp y hy
            simp
            omega
        left
        refine ⟨hz, ?_⟩
        rcases ih with ⟨z, ew⟩ | ⟨A, o, B, ew, es, a1, a2⟩
        · exact ew
        · have q := flt_drop no T s hd (by omega)
          omega
end K65
end Ev
/-! P65g: what the law asks of heaps, in plain lists. -/
namespace Ev
theorem max_is (ns : List Int) (M : Int) (hM : M ∈ ns) (h : ∀ x ∈ ns, x ≤ M) : blt .max [.L (ns.map D.int)] = some (.d (.int M)) := by
  have e2 : blt .max [.L (ns.map D.int)] = bestF maxL [.L (ns.map D.int)] := rfl
  rw [e2]
  unfold bestF intsF
  simp only [itemsL, Option.bind_some, intsOf_ints]
  cases ns with
  | nil => cases hM
  | cons m r =>
    simp only []
    have h1 := maxL_ge m r M hM
    have h2 := h _ (maxL_mem m r)
    rw [show maxL m r = M by omega]
theorem min_is (ns : List Int) (M : Int) (hM : M ∈ ns) (h : ∀ x ∈ ns, M ≤ x) : blt .min [.L (ns.map D.int)] = some (.d (.int M)) := by
  have e2 : blt .min [.L (ns.map D.int)] = bestF minL [.L (ns.map D.int)] := rfl
  rw [e2]
  unfold bestF intsF
  simp only [itemsL, Option.bind_some, intsOf_ints]
  cases ns with
  | nil => cases hM
  | cons m r =>
    simp only []
    have h1 := minL_le m r M hM
    have h2 := h _ (minL_mem m r)
    rw [show minL m r = M by omega]
theorem eqO_ints (xs ys : List Int) : eqO (.L (xs.map D.int)) (.L (ys.map D.int)) = some (decide (xs = ys)) := by
  show same (.lst _) (.lst _) = _
  unfold same limit
  have h : ∀ zs : List Int, lim (.lst (zs.map D.int)) 60 = true := fun zs => by simp only [lim]; exact limL_ints zs 59
  rw [h, h, eqb]
  simp only [Bool.and_self, if_true]
  rw [eqbs_ints]
theorem cnt_ints (ns : List Int) (k : Int) : cntO (.L (ns.map D.int)) (.d (.int k)) = some (.d (.int (ns.count k : Nat))) := by
  unfold cntO
  simp [itemsL, intsOf_ints]
theorem count_cast (ss : List Nat) (n : Nat) : (ss.map fun (s : Nat) => (s : Int)).count (n : Int) = ss.count n := by
  induction ss with
  | nil => rfl
  | cons x xs ih =>
    rw [List.map_cons, List.count_cons, List.count_cons, ih]
    have : ((x : Int) == (n : Int)) = (x == n) := by
      rw [Bool.eq_iff_iff, beq_iff_eq, beq_iff_eq]
      omega
    rw [this]
namespace K65
/-- how many ones in the row's end -/
theorem drop_ones : ∀ (xs : List Int) (p t : Nat), (∀ x ∈ xs, x = 0 ∨ x = 1) → (xs.drop (t - p)).sum = (((((xs.zipIdx p).filter fun q => q.1 == 1).map (·.2)).filter fun (x : Nat) => decide ((t : Int) ≤ (x : Int))).length : Int)
  | [], p, t, _ => by simp
  | x :: xs, p, t, h => by
    have ih := drop_ones xs (p + 1) t fun y hy => h y (List.mem_cons_of_mem _ hy)
    rcases Nat.lt_or_ge p t with hp | hp
    · obtain ⟨d, rfl⟩ : ∃ d, t = p + (d + 1) := ⟨t - p - 1, by omega⟩
      rw [show p + (d + 1) - p = d + 1 by omega, List.drop_succ_cons, List.zipIdx_cons, List.filter_cons]
      rw [show p + (d + 1) - (p + 1) = d by omega] at ih
      rw [ih]
      by_cases hx : x = 1
      · subst hx
        rw [if_pos (show (((1 : Int), p).1 == 1) = true from rfl), List.map_cons, List.filter_cons, if_neg (by simp; omega)]
      · rw [if_neg (by simpa using hx)]
    · rw [show t - p = 0 by omega, List.drop_zero, List.sum_cons, List.zipIdx_cons, List.filter_cons]
      rw [show t - (p + 1) = 0 by omega, List.drop_zero] at ih
      rw [ih]
      rcases h x (by simp) with rfl | rfl
      · rw [if_neg (by simp)]; omega
      · rw [if_pos (show (((1 : Int), p).1 == 1) = true from rfl), List.map_cons, List.filter_cons, if_pos (by simp; omega), List.length_cons]
        omega
theorem no_eq (r : Nat) (rb : List Int) : no_ r rb = (((rb.zipIdx).filter fun q => q.1 == 1).map (·.2)).reverse := by
  have := run_ones (r := r) rb 0 ([], [])
  rw [List.append_nil] at this
  exact this
theorem filter_rev {α : Type} (l : List α) (p : α → Bool) : (l.reverse.filter p).length = (l.filter p).length := by
  rw [List.filter_reverse, List.length_reverse]
theorem many_eq (r : Nat) {rb : List Int} (h : Rw rb) (t : Nat) : (rb.drop t).sum = (((no_ r rb).filter fun (x : Nat) => decide ((t : Int) ≤ (x : Int))).length : Int) := by
  have := drop_ones rb 0 t h.bit
  rw [Nat.sub_zero] at this
  rw [this, no_eq, filter_rev]
theorem ones_len (r : Nat) {rb : List Int} (h : Rw rb) : rb.sum = ((no_ r rb).length : Int) := by
  have := many_eq r h 0
  rw [List.drop_zero] at this
  rw [this]
  congr 2
  rw [List.filter_eq_self]
  intro x hx
  simp
/-- the heaps below one of them hold as much -/
theorem low_sum {r : Nat} (r2 : 2 ≤ r) : ∀ (cs : List Nat) (j : Nat) (A : List Nat) (o : Nat) (B : List Nat), OkC r cs → sz j cs = A ++ o :: B → ∃ i, j ≤ i ∧ o = 2 ^ i ∧ (r - 1) * (2 ^ i - 2 ^ j) ≤ A.sum
  | [], j, A, o, B, _, e => by cases A <;> cases e
  | c :: cs, j, A, o, B, h, e => by
    simp only [sz] at e
    rcases List.append_eq_append_iff.mp e with ⟨A', e1, e2⟩ | ⟨A', e1, e2⟩
    · obtain ⟨i, h1, h2, h3⟩ := low_sum r2 cs (j + 1) A' o B h.tail e2
      have hc : r - 1 ≤ c := by
        cases cs with
        | nil => simp only [sz] at e2; cases A' <;> cases e2
        | cons c' cs => rcases h.1 with z | z <;> omega
      refine ⟨i, by omega, h2, ?_⟩
      rw [e1, List.sum_append, sum_rep]
      have hp : 2 ^ (j + 1) ≤ 2 ^ i := Nat.pow_le_pow_right (by omega) h1
      have hp2 := Nat.pow_succ 2 j
      have e3 : (2 ^ i - 2 ^ j) = 2 ^ j + (2 ^ i - 2 ^ (j + 1)) := by omega
      rw [e3, Nat.mul_add]
      have := Nat.mul_le_mul_right (2 ^ j) hc
      omega
    · -- o is in the first group, or begins the rest
      cases A' with
      | nil =>
        rw [List.append_nil] at e1
        rw [List.nil_append] at e2
        obtain ⟨i, h1, h2, h3⟩ := low_sum r2 cs (j + 1) [] o B h.tail e2.symm
        have hc : r - 1 ≤ c := by
          cases cs with
          | nil => simp only [sz] at e2; cases e2
          | cons c' cs => rcases h.1 with z | z <;> omega
        refine ⟨i, by omega, h2, ?_⟩
        rw [← e1, sum_rep]
        have hp : 2 ^ (j + 1) ≤ 2 ^ i := Nat.pow_le_pow_right (by omega) h1
        have hp2 := Nat.pow_succ 2 j
        have e3 : (2 ^ i - 2 ^ j) = 2 ^ j + (2 ^ i - 2 ^ (j + 1)) := by omega
        rw [e3, Nat.mul_add]
        have := Nat.mul_le_mul_right (2 ^ j) hc
        simp only [List.sum_nil] at h3
        omega
      | cons a A' =>
        injection e2 with e2 e3
        have ho : o ∈ List.replicate c (2 ^ j) := by rw [e1, e2]; simp
        exact ⟨j, Nat.le_refl _, List.eq_of_mem_replicate ho, by simp⟩
/-- the window's law -/
theorem win_law {r : Nat} (r2 : 2 ≤ r) {rb : List Int} (h : Rw rb) (T : Int) (many : Nat) (hm : many = ((no_ r rb).filter fun (x : Nat) => decide (T ≤ (x : Int))).length) :
    (many = 0 ∧ win (hp_ r rb) T = []) ∨ ∃ (S o : Nat), bw (win (hp_ r rb) T) = ((S : Int) - o + 1, (S : Int)) ∧ 1 ≤ o ∧ o ≤ S ∧ S < many + o ∧ many ≤ S ∧ (o = 1 ∨ (r - 1) * (o - 1) < many ∧ o % 2 = 0) := by
  have q := runOk r2 rb
  have h1 : ∀ s ∈ sz 0 (cs_ r rb), 1 ≤ s := fun s hs => by have := sz_ge _ _ s hs; omega
  rcases win_ok T (sz 0 (cs_ r rb)) (no_ r rb) q.desc.1 q.sum h1 with ⟨z, e⟩ | ⟨A, o, B, e1, e2, e3, e4⟩
  · exact .inl ⟨by rw [hm, z], e⟩
  · right
    rw [← hm] at e3 e4
    refine ⟨A.sum + o, o, ?_, ?_, by omega, by omega, e4, ?_⟩
    · show bw (win (hp_ r rb) T) = _
      unfold hp_
      rw [e1]
      unfold bw
      rw [List.getLast?_append]
      simp
    · exact h1 o (by rw [e2]; simp)
    · obtain ⟨i, _, h3, h4⟩ := low_sum r2 _ 0 A o B q.ok e2
      cases i with
      | zero => exact .inl h3
      | succ i =>
        right
        rw [h3]
        rw [Nat.pow_zero] at h4
        refine ⟨by omega, ?_⟩
        rw [Nat.pow_succ, Nat.mul_mod_left]
end K65
end Ev
/-! P65h: pieces_of. -/
namespace Ev.K65
/-- how many spans hold a time -/
def cov (ps : List (Int × Int)) (t : Int) : Nat := (ps.filter fun p => decide (p.1 ≤ t) && decide (t ≤ p.2)).length
def insK (acc : List Int) (x : Int) : List Int := if x ∈ acc then acc else acc ++ [x]
def keys (ps : List (Int × Int)) (acc : List Int) : List Int := ps.foldl (fun acc p => insK (insK acc p.1) (p.2 + 1)) acc
def cuts (ps : List (Int × Int)) : List Int := sortI (keys ps [])
def pieces (ps : List (Int × Int)) : List (Int × Int × Int) := ((cuts ps).zip (cuts ps).tail).map fun q => (q.1, q.2 - 1, (cov ps q.1 : Int))
abbrev encK (k : Int) : D × D := (.int k, .bl true)
abbrev encC (q : Int × Int × Int) : D := .tup [.int q.1, .int q.2.1, .int q.2.2]
theorem any_keys (ks : List Int) (x : Int) : ((ks.map encK).any fun p => eqb p.1 (.int x)) = decide (x ∈ ks) := by
  induction ks with
  | nil => simp
  | cons k ks ih =>
    rw [List.map_cons, List.any_cons, ih, Bool.eq_iff_iff]
    simp only [eqb, Bool.or_eq_true, beq_iff_eq, decide_eq_true_eq, List.mem_cons]
    constructor
    · rintro (h | h)
      · exact .inl h.symm
      · exact .inr h
    · rintro (h | h)
      · exact .inl h.symm
      · exact .inr h
theorem put_keys (ks : List Int) (x : Int) : putK (.int x) (.bl true) (ks.map encK) = (insK ks x).map encK := by
  unfold putK insK
  rw [any_keys]
  by_cases h : x ∈ ks
  · rw [if_pos (by simpa using h), if_pos h, List.map_map]
    apply List.map_congr_left
    intro k hk
    simp only [Function.comp_apply]
    split <;> rfl
  · rw [if_neg (by simpa using h), if_neg h, List.map_append]
    rfl
theorem insK_len (ks : List Int) (x : Int) : (insK ks x).length ≤ ks.length + 1 := by
  unfold insK
  split
  · omega
  · simp
theorem insK_mem (ks : List Int) (x y : Int) : y ∈ insK ks x ↔ y ∈ ks ∨ y = x := by
  unfold insK
  split
  · constructor
    · exact .inl
    · rintro (h | rfl) <;> assumption
  · simp
theorem insK_nodup (ks : List Int) (x : Int) (h : ks.Nodup) : (insK ks x).Nodup := by
  unfold insK
  split
  · exact h
  · rename_i hx
    exact List.nodup_append.mpr ⟨h, by simp, fun a ha b hb => by
      rw [List.mem_singleton] at hb
      intro e
      exact hx (by rw [← hb, ← e]; exact ha)⟩
theorem keys_mem : ∀ (ps : List (Int × Int)) (acc : List Int) (y : Int), y ∈ keys ps acc ↔ y ∈ acc ∨ ∃ p ∈ ps, y = p.1 ∨ y = p.2 + 1
  | [], acc, y => by simp [keys]
  | p :: ps, acc, y => by
    show y ∈ keys ps (insK (insK acc p.1) (p.2 + 1)) ↔ _
    rw [keys_mem ps, insK_mem, insK_mem]
    constructor
    · rintro (((h | h) | h) | ⟨q, hq, h⟩)
      · exact .inl h
      · exact .inr ⟨p, by simp, .inl h⟩
      · exact .inr ⟨p, by simp, .inr h⟩
      · exact .inr ⟨q, List.mem_cons_of_mem _ hq, h⟩
    · rintro (h | ⟨q, hq, h⟩)
      · exact .inl (.inl (.inl h))
      · rcases List.mem_cons.mp hq with rfl | hq
        · rcases h with h | h
          · exact .inl (.inl (.inr h))
          · exact .inl (.inr h)
        · exact .inr ⟨q, hq, h⟩
theorem keys_nodup : ∀ (ps : List (Int × Int)) (acc : List Int), acc.Nodup → (keys ps acc).Nodup
  | [], acc, h => h
  | p :: ps, acc, h => keys_nodup ps _ (insK_nodup _ _ (insK_nodup _ _ h))
theorem keys_len : ∀ (ps : List (Int × Int)) (acc : List Int), (keys ps acc).length ≤ acc.length + 2 * ps.length
  | [], acc => by simp [keys]
  | p :: ps, acc => by
    show (keys ps (insK (insK acc p.1) (p.2 + 1))).length ≤ _
    have h1 := keys_len ps (insK (insK acc p.1) (p.2 + 1))
    have h2 := insK_len (insK acc p.1) (p.2 + 1)
    have h3 := insK_len acc p.1
    rw [List.length_cons]
    omega
theorem cuts_mem (ps : List (Int × Int)) (y : Int) : y ∈ cuts ps ↔ ∃ p ∈ ps, y = p.1 ∨ y = p.2 + 1 := by
  unfold cuts
  rw [(sortI_perm _).mem_iff, keys_mem]
  simp
theorem cuts_lt (ps : List (Int × Int)) : (cuts ps).Pairwise (· < ·) := by
  have h1 := sortI_sorted (keys ps [])
  have h2 : (sortI (keys ps [])).Nodup := (sortI_perm _).nodup_iff.mpr (keys_nodup ps [] List.nodup_nil)
  have h3 := List.pairwise_iff_getElem.mp h1
  refine List.pairwise_iff_getElem.mpr fun i j hi hj hij => ?_
  have a := h3 i j hi hj hij
  have b : (sortI (keys ps []))[i] ≠ (sortI (keys ps []))[j] := List.pairwise_iff_getElem.mp h2 i j hi hj hij
  have c : (cuts ps)[i] = (sortI (keys ps []))[i] := rfl
  have d : (cuts ps)[j] = (sortI (keys ps []))[j] := rfl
  rw [c, d]
  omega
theorem cuts_len {ps : List (Int × Int)} (h : Sp ps) : (keys ps []).length ≤ 60 ∧ (cuts ps).length ≤ 60 := by
  have h1 := keys_len ps []
  have h2 := h.len
  rw [List.length_nil] at h1
  refine ⟨by omega, ?_⟩
  unfold cuts
  rw [(sortI_perm _).length_eq]
  omega
/-! ### the def -/
abbrev Pf (ps : List (Int × Int)) (w1 w2 w3 w4 w5 : Option W) : Ev := [some (.d (dS ps)), w1, w2, w3, w4, w5]
section
variable (C : Calls) (k : Nat) (ps : List (Int × Int))
def dcE : E := .dcomp2 (.var 2) (.bl true) (.tp [.nm 3, .nm 4]) .seq [.var 0] (.nm 2) .seq [.tup [.var 3, .bin .add (.var 4) (.int 1)]] [] [3, 4, 2]
theorem inner (p : Int × Int) (ks : List Int) (h : ks.length ≤ 1000) : walkL (dcTurn (slots (.nm 2)) (Pf ps none none (some (.d (.int p.1))) (some (.d (.int p.2))) none) [] (.nm 2) (evTs L.T C [] k) (evE L.T C (.var 2) k) (evE L.T C (.bl true) k)) [.int p.1, .int (p.2 + 1)] (ks.map encK) (wipe (Pf ps none none (some (.d (.int p.1))) (some (.d (.int p.2))) none) (slots (.nm 2)))
    = .ok ((insK (insK ks p.1) (p.2 + 1)).map encK) (Pf ps none none (some (.d (.int p.1))) (some (.d (.int p.2))) none) := by
  have one : ∀ (x : Int) (qs : List Int), qs.length ≤ 1001 → dcTurn (slots (.nm 2)) (Pf ps none none (some (.d (.int p.1))) (some (.d (.int p.2))) none) [] (.nm 2) (evTs L.T C [] k) (evE L.T C (.var 2) k) (evE L.T C (.bl true) k) (.int x) (qs.map encK) (Pf ps none none (some (.d (.int p.1))) (some (.d (.int p.2))) none)
      = .ok ((insK qs x).map encK) (Pf ps none none (some (.d (.int p.1))) (some (.d (.int p.2))) none) := by
    intro x qs hq
    rw [← put_keys]
    unfold dcTurn
    have hc : keyOk (.int x) = true ∧ (qs.map encK).length < cap := ⟨rfl, by rw [List.length_map]; show _ < 16777216; omega⟩
    show (if keyOk (.int x) = true ∧ (qs.map encK).length < cap then R.ok (putK (.int x) (.bl true) (qs.map encK)) (Pf ps none none (some (.d (.int p.1))) (some (.d (.int p.2))) none) else R.stuck) = _
    rw [if_pos hc]
  have h2 := insK_len ks p.1
  have e1 := one p.1 ks (by omega)
  have e2 := one (p.2 + 1) (insK ks p.1) (by omega)
  show (R.bind (dcTurn (slots (.nm 2)) _ _ _ _ _ _ (.int p.1) _ (Pf ps none none (some (.d (.int p.1))) (some (.d (.int p.2))) none)) _) = _
  rw [e1, R.bind_ok]
  show (R.bind (dcTurn (slots (.nm 2)) _ _ _ _ _ _ (.int (p.2 + 1)) _ _) _) = _
  rw [e2, R.bind_ok]
  rfl
theorem outer : ∀ (qs : List (Int × Int)) (ks : List Int), ks.length + 2 * qs.length ≤ 900 →
    walkL (compTurn2 [3, 4, 2] (Pf ps none none none none none) [] (.tp [.nm 3, .nm 4]) (fun ρ2 => iterF .seq (evL L.T C [.tup [.var 3, .bin .add (.var 4) (.int 1)]] k ρ2)) (slots (.nm 2)) fun ρ3 ws2 => dcTurn (slots (.nm 2)) ρ3 ws2 (.nm 2) (evTs L.T C [] k) (evE L.T C (.var 2) k) (evE L.T C (.bl true) k)) (qs.map encP) (ks.map encK) (Pf ps none none none none none)
      = .ok ((keys qs ks).map encK) (Pf ps none none none none none)
  | [], ks, _ => rfl
  | q :: qs, ks, h => by
    rw [List.length_cons] at h
    have h1 := insK_len ks q.1
    have h2 := insK_len (insK ks q.1) (q.2 + 1)
    have ih := outer qs (insK (insK ks q.1) (q.2 + 1)) (by omega)
    have e := inner C k ps q ks (by omega)
    show (R.bind (R.bind (walkL (dcTurn (slots (.nm 2)) (Pf ps none none (some (.d (.int q.1))) (some (.d (.int q.2))) none) [] (.nm 2) (evTs L.T C [] k) (evE L.T C (.var 2) k) (evE L.T C (.bl true) k)) [.int q.1, .int (q.2 + 1)] (ks.map encK) (wipe (Pf ps none none (some (.d (.int q.1))) (some (.d (.int q.2))) none) (slots (.nm 2)))) _) _) = _
    rw [e, R.bind_ok]
    exact ih
end
/-- pieces_of -/
theorem t8 (ps : List (Int × Int)) (h : Sp ps) : DO 1 8 [dS ps] (.L ((pieces ps).map encC)) := .of d8 rfl _ _ rfl fun k hk => by
  obtain ⟨l1, l2⟩ := cuts_len h
  have hlen := h.len
  have e0 : evE L.T (calls L.T L.ds k) dcE k (Pf ps none none none none none) = .ok (.M false ((keys ps []).map encK)) (Pf ps none none none none none) := by
    have e := outer (calls L.T L.ds k) k ps ps [] (by simp; omega)
    show R.bind (R.ok (ps.map encP, []) (Pf ps none none none none none)) _ = _
    rw [R.bind_ok]
    show (R.bind (walkL _ (ps.map encP) ([].map encK) (Pf ps none none none none none)) _).calm = _
    rw [e]
    rfl
  have e1 : evS L.T (calls L.T L.ds k) (.set 1 (.blt .sorted [dcE])) k (Pf ps none none none none none) = .ok .nx (Pf ps (some (.L false ((cuts ps).map D.int))) none none none none) := by
    have hi : intsOf (((keys ps []).map encK).map (·.1)) = some (keys ps []) := by
      rw [List.map_map]
      exact intsOf_ints _
    have hs : blt .sorted [.M false ((keys ps []).map encK)] = some (.L ((cuts ps).map D.int)) := by
      show sortD _ = _
      unfold sortD
      rw [hi, Option.bind_some, if_pos (by omega)]
      rfl
    rw [v_set, v_blt, v_lcons, e0, R.bind_ok, v_lnil, R.bind_ok, R.bind_ok]
    show (R.bind (oko (blt .sorted [.M false ((keys ps []).map encK)]) _) _) = _
    rw [hs]
    rfl
  have e2 : evE L.T (calls L.T L.ds k) (.comp (.tup [.var 3, .bin .sub (.var 4) (.int 1), .blt .len [.comp (.var 5) (.nm 5) .seq [.var 0] [.chain .le .le (.ix (.var 5) (.int 0)) (.var 3) (.ix (.var 5) (.int 1))] [5]]]) (.tp [.nm 3, .nm 4]) .zip [.var 1, .sl (.var 1) (.int 1) .abs] [] [3, 4]) k (Pf ps (some (.L false ((cuts ps).map D.int))) none none none none)
      = .ok (.L (((cuts ps).zip (cuts ps).tail).map fun q => encC (q.1, q.2 - 1, (cov ps q.1 : Int)))) (Pf ps (some (.L false ((cuts ps).map D.int))) none none none none) := by
    refine comp_map _ _ _ _ _ _ _ _ _ [1] ((cuts ps).zip (cuts ps).tail) (fun q => .tup [.int q.1, .int q.2]) _ ?_ (by simp [stands, wipe, beqs_refl]) rfl (by rw [List.length_zip]; show _ ≤ 16777216; omega) ?_
    · have e3 : evL L.T (calls L.T L.ds k) [.var 1, .sl (.var 1) (.int 1) .abs] k (Pf ps (some (.L false ((cuts ps).map D.int))) none none none none) = .ok [.bor 1, .L (((cuts ps).tail).map D.int)] (Pf ps (some (.L false ((cuts ps).map D.int))) none none none none) := by
        have hsl : slice (.L ((cuts ps).map D.int)) (some 1) none = some (.L (((cuts ps).tail).map D.int)) := by
          cases hc : cuts ps with
          | nil => rfl
          | cons c cs =>
            have := sliceL_drop ((c :: cs).map D.int) 1 (by simp)
            rw [show ((1 : Nat) : Int) = 1 from rfl] at this
            rw [this]
            rfl
        have v1 : evE L.T (calls L.T L.ds k) (.sl (.var 1) (.int 1) .abs) k (Pf ps (some (.L false ((cuts ps).map D.int))) none none none none) = .ok (.L (((cuts ps).tail).map D.int)) (Pf ps (some (.L false ((cuts ps).map D.int))) none none none none) := by
          show oko (slice (.L ((cuts ps).map D.int)) (some 1) none) _ = _
          rw [hsl]
          rfl
        rw [v_lcons, v_var]
        show (R.bind (R.ok (O.bor 1) _) _) = _
        rw [R.bind_ok, v_lcons, v1]
        rfl
      rw [e3]
      show R.ok ((((cuts ps).map D.int).zip (((cuts ps).tail).map D.int)).map (fun p => D.tup [p.1, p.2]), [1]) _ = _
      rw [List.zip_map, List.map_map]
      rfl
    · intro q hq
      refine ⟨Pf ps (some (.L false ((cuts ps).map D.int))) none (some (.d (.int q.1))) (some (.d (.int q.2))) none, rfl, rfl, .d (encC (q.1, q.2 - 1, (cov ps q.1 : Int))), ?_, rfl⟩
      have hc : evE L.T (calls L.T L.ds k) (.comp (.var 5) (.nm 5) .seq [.var 0] [.chain .le .le (.ix (.var 5) (.int 0)) (.var 3) (.ix (.var 5) (.int 1))] [5]) k (Pf ps (some (.L false ((cuts ps).map D.int))) none (some (.d (.int q.1))) (some (.d (.int q.2))) none)
          = .ok (.L ((ps.filter fun p => decide (p.1 ≤ q.1) && decide (q.1 ≤ p.2)).map encP)) (Pf ps (some (.L false ((cuts ps).map D.int))) none (some (.d (.int q.1))) (some (.d (.int q.2))) none) := by
        refine comp_enc _ _ _ _ _ _ _ _ _ _ [] ps encP _ encP rfl rfl rfl (by show _ ≤ 16777216; omega) ?_
        intro p hp
        refine ⟨Pf ps (some (.L false ((cuts ps).map D.int))) none (some (.d (.int q.1))) (some (.d (.int q.2))) (some (.d (encP p))), rfl, rfl, ?_, fun _ => ⟨.d (encP p), rfl, rfl⟩⟩
        by_cases g : p.1 ≤ q.1
        · simp [varS, g, ifB_end]
        · simp [varS, g, ifB_end]
      have hl : blt .len [.L ((ps.filter fun p => decide (p.1 ≤ q.1) && decide (q.1 ≤ p.2)).map encP)] = some (.d (.int (cov ps q.1 : Int))) := by
        rw [len_L, List.length_map]; rfl
      generalize ((ps.filter fun p => decide (p.1 ≤ q.1) && decide (q.1 ≤ p.2)).map encP) = ys at hc hl
      simp [-v_comp, -len_L, varS, hc, hl]
  show fin 1 (evB L.T (calls L.T L.ds k) d8.body k (Pf ps none none none none none)) = _
  unfold d8
  dsimp only
  refine Eq.trans (congrArg (fin 1) (evB_nx e1 _)) ?_
  rw [v_bcons, v_ret, e2, R.bind_ok, R.bind_ok, fin_L, if_pos (by simp)]
  unfold pieces
  rw [List.map_map]
  rfl
end Ev.K65
/-! P65i: pieces and times, in plain lists. -/
namespace Ev.K65
/-- lo, lo + 1, .., below hi -/
def rg (lo hi : Int) : List Int := (List.range (hi - lo).toNat).map fun (k : Nat) => lo + (k : Int)
theorem rg_upTo (lo hi : Int) : upTo lo hi = (rg lo hi).map D.int := by
  unfold upTo rg
  rw [List.map_map]
  rfl
theorem rg_nil (lo : Int) : rg lo lo = [] := by simp [rg]
theorem rg_mem (lo hi x : Int) : x ∈ rg lo hi ↔ lo ≤ x ∧ x < hi := by
  unfold rg
  simp only [List.mem_map, List.mem_range]
  constructor
  · rintro ⟨k, h1, rfl⟩
    omega
  · rintro ⟨h1, h2⟩
    exact ⟨(x - lo).toNat, by omega, by omega⟩
theorem rg_append {lo mid hi : Int} (h1 : lo ≤ mid) (h2 : mid ≤ hi) : rg lo hi = rg lo mid ++ rg mid hi := by
  unfold rg
  have e : (hi - lo).toNat = (mid - lo).toNat + (hi - mid).toNat := by omega
  rw [e, List.range_add, List.map_append, List.map_map]
  congr 1
  apply List.map_congr_left
  intro k _
  simp only [Function.comp_apply]
  omega
theorem rg_snoc {lo hi : Int} (h : lo ≤ hi) : rg lo (hi + 1) = rg lo hi ++ [hi] := by
  rw [rg_append h (by omega)]
  congr 1
  unfold rg
  rw [show (hi + 1 - hi).toNat = 1 by omega]
  simp
theorem rg_asc (lo hi : Int) : (rg lo hi).Pairwise (· < ·) := by
  unfold rg
  rw [List.pairwise_map]
  refine List.Pairwise.imp ?_ (List.pairwise_lt_range)
  intro a b h
  omega
/-- pieces of some cuts -/
def pcs (ps : List (Int × Int)) : List Int → List (Int × Int × Int)
  | [] => []
  | [_] => []
  | a :: b :: cs => (a, b - 1, (cov ps a : Int)) :: pcs ps (b :: cs)
theorem pieces_eq (ps : List (Int × Int)) : pieces ps = pcs ps (cuts ps) := by
  unfold pieces
  generalize cuts ps = cs
  induction cs with
  | nil => rfl
  | cons a cs ih =>
    cases cs with
    | nil => rfl
    | cons b cs =>
      show ((a, b) :: ((b :: cs).zip cs)).map _ = _
      rw [List.map_cons, pcs]
      congr 1
/-- the count of a piece holds for each time of it -/
structure Cuts (ps : List (Int × Int)) (cs : List Int) : Prop where
  asc : cs.Pairwise (· < ·)
  no : ∀ p ∈ ps, ∀ a b, List.Sublist [a, b] cs → (∀ c ∈ cs, ¬ (a < c ∧ c < b)) → ¬ (a < p.1 ∧ p.1 < b) ∧ ¬ (a < p.2 + 1 ∧ p.2 + 1 < b)
theorem cov_eq (ps : List (Int × Int)) (a b t : Int) (h : ∀ p ∈ ps, ¬ (a < p.1 ∧ p.1 < b) ∧ ¬ (a < p.2 + 1 ∧ p.2 + 1 < b)) (h1 : a ≤ t) (h2 : t < b) : cov ps t = cov ps a := by
  unfold cov
  congr 1
  apply List.filter_congr
  intro p hp
  obtain ⟨g1, g2⟩ := h p hp
  rw [Bool.eq_iff_iff]
  simp only [Bool.and_eq_true, decide_eq_true_eq]
  omega
theorem cov_zero (ps : List (Int × Int)) (t : Int) (h : ∀ p ∈ ps, t < p.1 ∨ p.2 < t) : cov ps t = 0 := by
  unfold cov
  rw [List.length_eq_zero_iff, List.filter_eq_nil_iff]
  intro p hp
  rcases h p hp with h | h
  · simp; omega
  · simp; omega
/-! ### runs of times -/
def stepP (M : Int) (found : List (Int × Int)) (q : Int × Int × Int) : List (Int × Int) :=
  if q.2.2 = M then (match found.getLast? with
    | some z => if z.2 = q.1 - 1 then found.dropLast ++ [(z.1, q.2.1)] else found ++ [(q.1, q.2.1)]
    | none => [(q.1, q.2.1)]) else found
abbrev stepT (ps : List (Int × Int)) (M : Int) (found : List (Int × Int)) (t : Int) : List (Int × Int) := stepP M found (t, t, (cov ps t : Int))
theorem step_no (M : Int) (found : List (Int × Int)) (q : Int × Int × Int) (h : q.2.2 ≠ M) : stepP M found q = found := by
  unfold stepP
  rw [if_neg h]
theorem step_last (M : Int) (found : List (Int × Int)) (a b : Int) : ∃ A x, stepP M found (a, b, M) = A ++ [(x, b)] ∧ ∀ c, stepP M found (a, c, M) = A ++ [(x, c)] := by
  unfold stepP
  simp only [if_true]
  cases found.getLast? with
  | none => exact ⟨[], a, rfl, fun _ => rfl⟩
  | some z =>
    simp only []
    by_cases h : z.2 = a - 1
    · simp only [if_pos h]
      exact ⟨_, _, rfl, fun _ => rfl⟩
    · simp only [if_neg h]
      exact ⟨_, _, rfl, fun _ => rfl⟩
theorem step_join (M : Int) (A : List (Int × Int)) (x c : Int) : stepP M (A ++ [(x, c)]) (c + 1, c + 1, M) = A ++ [(x, c + 1)] := by
  unfold stepP
  simp only [if_true]
  rw [List.getLast?_append]
  simp
/-- a piece's times do what the piece does -/
theorem fold_piece (ps : List (Int × Int)) (M : Int) (a m : Int) (found : List (Int × Int)) : ∀ (n : Nat), (∀ t, a ≤ t → t ≤ a + n → (cov ps t : Int) = m) → (rg a (a + n + 1)).foldl (stepT ps M) found = stepP M found (a, a + n, m)
  | 0, h => by
    rw [rg_snoc (by omega)]
    rw [show a + ((0 : Nat) : Int) = a by omega, rg_nil, List.nil_append]
    simp only [List.foldl_cons, List.foldl_nil]
    rw [stepT, h a (by omega) (by omega)]
  | n + 1, h => by
    have ih := fold_piece ps M a m found n fun t h1 h2 => h t h1 (by omega)
    rw [show a + ((n + 1 : Nat) : Int) + 1 = (a + n + 1) + 1 by omega, rg_snoc (by omega), List.foldl_append, ih]
    simp only [List.foldl_cons, List.foldl_nil]
    have hm := h (a + n + 1) (by omega) (by omega)
    by_cases g : m = M
    · subst g
      obtain ⟨A, x, e1, e2⟩ := step_last m found a (a + n)
      rw [e1, stepT, hm, show a + ((n + 1 : Nat) : Int) = a + n + 1 by omega, e2, step_join]
    · rw [step_no M found (a, a + n, m) g, step_no M found (a, a + ((n + 1 : Nat) : Int), m) g, stepT, hm, step_no M found _ g]
end Ev.K65
/-! P65j: pieces and times, in plain lists (2). -/
namespace Ev.K65
def Flat (ps : List (Int × Int)) : List Int → Prop
  | [] => True
  | [_] => True
  | a :: b :: cs => a < b ∧ (∀ t, a ≤ t → t < b → cov ps t = cov ps a) ∧ Flat ps (b :: cs)
theorem flat_of (ps : List (Int × Int)) : ∀ (cs pre : List Int), (pre ++ cs).Pairwise (· < ·) → (∀ p ∈ ps, p.1 ∈ pre ++ cs ∧ p.2 + 1 ∈ pre ++ cs) → Flat ps cs
  | [], _, _, _ => trivial
  | [_], _, _, _ => trivial
  | a :: b :: cs, pre, h, hp => by
    have ih := flat_of ps (b :: cs) (pre ++ [a]) (by simpa using h) (by simpa using hp)
    obtain ⟨h1, h2, h3⟩ := List.pairwise_append.mp h
    have hab := (List.pairwise_cons.mp h2).1 b (by simp)
    have hb := (List.pairwise_cons.mp (List.pairwise_cons.mp h2).2).1
    have none : ∀ c ∈ pre ++ a :: b :: cs, ¬ (a < c ∧ c < b) := by
      intro c hc
      rcases List.mem_append.mp hc with hc | hc
      · have := h3 c hc a (by simp)
        omega
      · rcases List.mem_cons.mp hc with rfl | hc
        · omega
        · rcases List.mem_cons.mp hc with rfl | hc
          · omega
          · have := hb c hc
            omega
    refine ⟨hab, fun t g1 g2 => cov_eq ps a b t (fun p hp' => ?_) g1 g2, ih⟩
    obtain ⟨m1, m2⟩ := hp p hp'
    exact ⟨none _ m1, none _ m2⟩
theorem flat_cuts (ps : List (Int × Int)) : Flat ps (cuts ps) :=
  flat_of ps (cuts ps) [] (cuts_lt ps) fun p hp => ⟨by rw [List.nil_append, cuts_mem]; exact ⟨p, hp, .inl rfl⟩, by rw [List.nil_append, cuts_mem]; exact ⟨p, hp, .inr rfl⟩⟩
def endC : Int → List Int → Int
  | c, [] => c
  | _, b :: cs => endC b cs
theorem endC_ge (ps : List (Int × Int)) : ∀ (cs : List Int) (c : Int), Flat ps (c :: cs) → c ≤ endC c cs
  | [], c, _ => Int.le_refl _
  | b :: cs, c, h => by
    have := endC_ge ps cs b h.2.2
    have := h.1
    show c ≤ endC b cs
    omega
theorem endC_mem : ∀ (cs : List Int) (c : Int), endC c cs ∈ c :: cs
  | [], c => by simp [endC]
  | b :: cs, c => List.mem_cons_of_mem _ (endC_mem cs b)
theorem endC_max : ∀ (cs : List Int) (c : Int), (c :: cs).Pairwise (· < ·) → ∀ x ∈ c :: cs, x ≤ endC c cs
  | [], c, _, x, hx => by
    simp only [List.mem_singleton] at hx
    rw [hx]
    exact Int.le_refl _
  | b :: cs, c, h, x, hx => by
    obtain ⟨h1, h2⟩ := List.pairwise_cons.mp h
    show x ≤ endC b cs
    rcases List.mem_cons.mp hx with rfl | hx
    · have := h1 b (by simp)
      have := endC_max cs b h2 b (by simp)
      omega
    · exact endC_max cs b h2 x hx
/-- the pieces do what the times do -/
theorem fold_all (ps : List (Int × Int)) (M : Int) : ∀ (cs : List Int) (c : Int) (found : List (Int × Int)), Flat ps (c :: cs) → (pcs ps (c :: cs)).foldl (stepP M) found = (rg c (endC c cs)).foldl (stepT ps M) found
  | [], c, found, _ => by
    show found = (rg c c).foldl _ _
    rw [rg_nil]; rfl
  | b :: cs, c, found, h => by
    have hlt := h.1
    have hge := endC_ge ps cs b h.2.2
    have e := fold_piece ps M c (cov ps c : Int) found (b - c - 1).toNat fun t h1 h2 => by rw [h.2.1 t h1 (by omega)]
    rw [show c + ((b - c - 1).toNat : Int) + 1 = b by omega, show c + ((b - c - 1).toNat : Int) = b - 1 by omega] at e
    show (pcs ps (b :: cs)).foldl _ (stepP M found (c, b - 1, (cov ps c : Int))) = (rg c (endC b cs)).foldl _ _
    rw [rg_append (by omega : c ≤ b) hge, List.foldl_append, e]
    exact fold_all ps M cs b _ h.2.2
structure Pcs (ps : List (Int × Int)) (c e : Int) (l : List (Int × Int × Int)) : Prop where
  inn : ∀ q ∈ l, c ≤ q.1 ∧ q.1 ≤ q.2.1 ∧ q.2.1 < e ∧ ∀ t, q.1 ≤ t → t ≤ q.2.1 → (cov ps t : Int) = q.2.2
  all : ∀ t, c ≤ t → t < e → ∃ q ∈ l, q.1 ≤ t ∧ t ≤ q.2.1
  asc : l.Pairwise fun q q' => q.2.1 < q'.1
theorem pcs_ok (ps : List (Int × Int)) : ∀ (cs : List Int) (c : Int), Flat ps (c :: cs) → Pcs ps c (endC c cs) (pcs ps (c :: cs))
  | [], c, _ => by
    refine ⟨fun q hq => (by cases hq), fun t h1 h2 => ?_, .nil⟩
    have h2 : t < c := h2
    omega
  | b :: cs, c, h => by
    have hlt := h.1
    have hge := endC_ge ps cs b h.2.2
    have ih := pcs_ok ps cs b h.2.2
    refine ⟨fun q hq => ?_, fun t h1 h2 => ?_, List.pairwise_cons.mpr ⟨fun q hq => ?_, ih.asc⟩⟩
    · rcases List.mem_cons.mp hq with rfl | hq
      · refine ⟨Int.le_refl _, by show c ≤ b - 1; omega, by show b - 1 < endC b cs; omega, fun t g1 g2 => ?_⟩
        have g2 : t ≤ b - 1 := g2
        rw [h.2.1 t g1 (by omega)]
      · obtain ⟨a1, a2, a3, a4⟩ := ih.inn q hq
        exact ⟨by omega, a2, a3, a4⟩
    · rcases Int.lt_or_le t b with g | g
      · exact ⟨_, List.mem_cons_self, h1, by show t ≤ b - 1; omega⟩
      · obtain ⟨q, hq, g1, g2⟩ := ih.all t g h2
        exact ⟨q, List.mem_cons_of_mem _ hq, g1, g2⟩
    · have := (ih.inn q hq).1
      show b - 1 < q.1
      omega
/-- the spans' cuts -/
structure Whole (ps : List (Int × Int)) where
  c : Int
  e : Int
  lo : -80 ≤ c
  hi : e ≤ 119
  lt : c < e
  ok : Pcs ps c e (pieces ps)
  off : ∀ t, t < c ∨ e ≤ t → cov ps t = 0
  fold : ∀ M found, (pieces ps).foldl (stepP M) found = (rg c e).foldl (stepT ps M) found
theorem whole {ps : List (Int × Int)} (h : Sp ps) : ∃ w : Whole ps, True := by
  cases hc : cuts ps with
  | nil =>
    have hp := h.pos
    cases ps with
    | nil => simp at hp
    | cons p ps =>
      have := (cuts_mem (p :: ps) p.1).mpr ⟨p, by simp, .inl rfl⟩
      rw [hc] at this
      cases this
  | cons c cs =>
    have fl := flat_cuts ps
    have lt := cuts_lt ps
    rw [hc] at fl lt
    have mem : ∀ x, x ∈ c :: cs ↔ ∃ p ∈ ps, x = p.1 ∨ x = p.2 + 1 := fun x => by rw [← hc]; exact cuts_mem ps x
    have cmin : ∀ x ∈ c :: cs, c ≤ x := fun x hx => by
      rcases List.mem_cons.mp hx with rfl | hx
      · exact Int.le_refl _
      · have := (List.pairwise_cons.mp lt).1 x hx; omega
    have bnd : ∀ x ∈ c :: cs, -80 ≤ x ∧ x ≤ 119 := fun x hx => by
      obtain ⟨p, hp, e⟩ := (mem x).mp hx
      have b := h.lo p hp
      have l := h.le p hp
      rcases e with e | e <;> omega
    have em := endC_mem cs c
    refine ⟨⟨c, endC c cs, (bnd c (by simp)).1, (bnd _ em).2, ?_, by rw [pieces_eq, hc]; exact pcs_ok ps cs c fl, fun t ht => cov_zero ps t fun p hp => ?_, fun M found => by rw [pieces_eq, hc]; exact fold_all ps M cs c found fl⟩, trivial⟩
    · obtain ⟨p, hp, _⟩ := (mem c).mp (by simp)
      have l := h.le p hp
      have a1 := cmin p.1 ((mem _).mpr ⟨p, hp, .inl rfl⟩)
      have a2 := endC_max cs c lt (p.2 + 1) ((mem _).mpr ⟨p, hp, .inr rfl⟩)
      omega
    · have a1 := cmin p.1 ((mem _).mpr ⟨p, hp, .inl rfl⟩)
      have a2 := endC_max cs c lt (p.2 + 1) ((mem _).mpr ⟨p, hp, .inr rfl⟩)
      rcases ht with ht | ht
      · exact .inl (by omega)
      · exact .inr (by omega)
end Ev.K65
/-! P65k: agreed. -/
namespace Ev
theorem place_last (n : Nat) : place (n + 1) (-1) = some n := by
  unfold place
  rw [if_neg (by omega), if_pos (by omega)]
  congr 1
  omega
theorem setAt_last (ρ : Ev) (i : Nat) (p : Bool) (A : List D) (z v : D) (h : ρ[i]? = some (some (.L p (A ++ [z])))) : setAt ρ i (.d (.int (-1))) v = some (ρ.set i (some (.L p (A ++ [v])))) := by
  unfold setAt
  rw [h]
  simp only []
  rw [show (A ++ [z]).length = A.length + 1 by simp, place_last]
  simp
namespace K65
def mostP (ps : List (Int × Int)) : Int := match (pieces ps).map (·.2.2) with
  | [] => 0
  | m :: r => maxL m r
structure Most (ps : List (Int × Int)) (M : Int) : Prop where
  ex : ∃ q ∈ pieces ps, q.2.2 = M
  le : ∀ q ∈ pieces ps, q.2.2 ≤ M
  cov : ∀ t, (K65.cov ps t : Int) ≤ M
  at_ : ∃ t, -80 ≤ t ∧ t < 119 ∧ (K65.cov ps t : Int) = M
  pos : 1 ≤ M
theorem most_ok {ps : List (Int × Int)} (h : Sp ps) : Most ps (mostP ps) := by
  obtain ⟨w, _⟩ := whole h
  obtain ⟨q0, hq0, g1, g2⟩ := w.ok.all w.c (Int.le_refl _) w.lt
  have key : (∃ q ∈ pieces ps, q.2.2 = mostP ps) ∧ ∀ q ∈ pieces ps, q.2.2 ≤ mostP ps := by
    unfold mostP
    cases hm : (pieces ps).map (·.2.2) with
    | nil =>
      rw [List.map_eq_nil_iff] at hm
      rw [hm] at hq0
      cases hq0
    | cons m r =>
      simp only []
      have h1 := maxL_mem m r
      have h2 := maxL_ge m r
      rw [← hm] at h1 h2
      obtain ⟨q, hq, e⟩ := List.mem_map.mp h1
      exact ⟨⟨q, hq, e⟩, fun q hq => h2 _ (List.mem_map_of_mem hq)⟩
  have inp : ∀ t, 1 ≤ K65.cov ps t → ∃ q ∈ pieces ps, (K65.cov ps t : Int) = q.2.2 := fun t ht => by
    by_cases g : w.c ≤ t ∧ t < w.e
    · obtain ⟨q, hq, a1, a2⟩ := w.ok.all t g.1 g.2
      exact ⟨q, hq, (w.ok.inn q hq).2.2.2 t a1 a2⟩
    · have := w.off t (by omega)
      omega
  have p1 : 1 ≤ mostP ps := by
    have hp := h.pos
    cases hps : ps with
    | nil => rw [hps] at hp; simp at hp
    | cons p ps' =>
      rw [← hps]
      have hc : 1 ≤ K65.cov ps p.1 := by
        refine List.length_pos_of_mem (a := p) (List.mem_filter.mpr ⟨by rw [hps]; simp, ?_⟩)
        have := h.le p (by rw [hps]; simp)
        simp [this]
      obtain ⟨q, hq, e⟩ := inp p.1 hc
      have := key.2 q hq
      omega
  refine ⟨key.1, key.2, fun t => ?_, ?_, p1⟩
  · by_cases ht : 1 ≤ K65.cov ps t
    · obtain ⟨q, hq, e⟩ := inp t ht
      have := key.2 q hq
      omega
    · omega
  · obtain ⟨q, hq, e⟩ := key.1
    obtain ⟨a1, a2, a3, a4⟩ := w.ok.inn q hq
    have l := w.lo
    have u := w.hi
    exact ⟨q.1, by omega, by omega, by rw [a4 q.1 (Int.le_refl _) a2, e]⟩
theorem pieces_len {ps : List (Int × Int)} (h : Sp ps) : (pieces ps).length ≤ 60 := by
  unfold pieces
  rw [List.length_map, List.length_zip]
  have := (cuts_len h).2
  omega
/-! ### the def -/
abbrev Ag (ps : List (Int × Int)) (M : Int) (found : List (Int × Int)) (w4 w5 w6 w7 : Option W) : Ev := [some (.d (dS ps)), some (.L false ((pieces ps).map encC)), some (.d (.int M)), some (.L false (found.map encP)), w4, w5, w6, w7]
abbrev AgR (ps : List (Int × Int)) (M : Int) (xs : List D) (w4 w5 w6 w7 : Option W) : Ev := [some (.d (dS ps)), some (.L false ((pieces ps).map encC)), some (.d (.int M)), some (.L false xs), w4, w5, w6, w7]
def aB : List S := [.ite (.cmp .eq (.var 6) (.var 2))
     [.ite (.andL [.cmp .gt (.blt .len [.var 3]) (.int 0), .cmp .eq (.ix (.ix (.var 3) (.neg (.int 1))) (.int 1)) (.bin .sub (.var 4) (.int 1))])
       [.setIx 3 (.neg (.int 1)) (.tup [.ix (.ix (.var 3) (.neg (.int 1))) (.int 0), .var 5])]
       [.ex (.app 3 (.tup [.var 4, .var 5]))]]
     []]
section
variable (C : Calls) (k : Nat) (ps : List (Int × Int)) (M : Int)
theorem aturn (found : List (Int × Int)) (q : Int × Int × Int) (w7 : Option W) (hl : found.length ≤ 1000) :
    evB L.T C aB k (Ag ps M found (some (.d (.int q.1))) (some (.d (.int q.2.1))) (some (.d (.int q.2.2))) w7) = .ok .nx (Ag ps M (stepP M found q) (some (.d (.int q.1))) (some (.d (.int q.2.1))) (some (.d (.int q.2.2))) w7) := by
  obtain ⟨lo, hi, m⟩ := q
  by_cases hm : m = M
  · subst hm
    have app : ∀ fs : List (Int × Int), fs.length ≤ 1000 → evS L.T C (.ex (.app 3 (.tup [.var 4, .var 5]))) k (Ag ps m fs (some (.d (.int lo))) (some (.d (.int hi))) (some (.d (.int m))) w7) = .ok .nx (Ag ps m (fs ++ [(lo, hi)]) (some (.d (.int lo))) (some (.d (.int hi))) (some (.d (.int m))) w7) := fun fs hf => by
      have hc : (fs.map encP).length < cap := by rw [List.length_map]; show _ < 16777216; omega
      rw [v_ex]
      show (R.bind (if (fs.map encP).length < cap then R.ok (O.d .non) _ else R.stuck) _) = _
      rw [if_pos hc]
      show _ = R.ok Fl.nx (AgR ps m ((fs ++ [(lo, hi)]).map encP) (some (.d (.int lo))) (some (.d (.int hi))) (some (.d (.int m))) w7)
      rw [List.map_append]
      rfl
    rcases last_cases found with rfl | ⟨A, ⟨x, y⟩, rfl⟩
    · have ha := app [] (by simp)
      have hs : stepP m [] (lo, hi, m) = [(lo, hi)] := by unfold stepP; simp
      rw [hs]
      unfold aB
      rw [v_bcons, v_if]
      have t1 : asT (evE L.T C (.cmp .eq (.var 6) (.var 2)) k (Ag ps m [] (some (.d (.int lo))) (some (.d (.int hi))) (some (.d (.int m))) w7)) = .ok true (Ag ps m [] (some (.d (.int lo))) (some (.d (.int hi))) (some (.d (.int m))) w7) := by
        simp [varS]
      have t2 : asT (evE L.T C (.andL [.cmp .gt (.blt .len [.var 3]) (.int 0), .cmp .eq (.ix (.ix (.var 3) (.neg (.int 1))) (.int 1)) (.bin .sub (.var 4) (.int 1))]) k (Ag ps m [] (some (.d (.int lo))) (some (.d (.int hi))) (some (.d (.int m))) w7)) = .ok false (Ag ps m [] (some (.d (.int lo))) (some (.d (.int hi))) (some (.d (.int m))) w7) := rfl
      rw [t1, ifB_t, v_bcons, v_if, t2, ifB_f, evB_nx ha]
      rfl
    · have hlast : stepP m (A ++ [(x, y)]) (lo, hi, m) = if y = lo - 1 then A ++ [(x, hi)] else A ++ [(x, y)] ++ [(lo, hi)] := by
        unfold stepP
        simp only [if_true]
        rw [List.getLast?_append]
        simp
      have hix : index (.L ((A ++ [(x, y)]).map encP)) (.d (.int (-1))) = some (encP (x, y)) := by
        rw [index_L, List.map_append]
        exact at_last _ _
      have t1 : asT (evE L.T C (.cmp .eq (.var 6) (.var 2)) k (Ag ps m (A ++ [(x, y)]) (some (.d (.int lo))) (some (.d (.int hi))) (some (.d (.int m))) w7)) = .ok true (Ag ps m (A ++ [(x, y)]) (some (.d (.int lo))) (some (.d (.int hi))) (some (.d (.int m))) w7) := by
        simp [varS]
      have hpos : (0 : Int) < (((A ++ [(x, y)]).map encP).length : Int) := by simp only [List.length_map, List.length_append, List.length_singleton]; omega
      have ixe : evE L.T C (.ix (.var 3) (.neg (.int 1))) k (Ag ps m (A ++ [(x, y)]) (some (.d (.int lo))) (some (.d (.int hi))) (some (.d (.int m))) w7) = .ok (.d (encP (x, y))) (Ag ps m (A ++ [(x, y)]) (some (.d (.int lo))) (some (.d (.int hi))) (some (.d (.int m))) w7) := by
        show okd (index (.L ((A ++ [(x, y)]).map encP)) (.d (.int (-1)))) _ = _
        rw [hix]
        rfl
      have t2 : asT (evE L.T C (.andL [.cmp .gt (.blt .len [.var 3]) (.int 0), .cmp .eq (.ix (.ix (.var 3) (.neg (.int 1))) (.int 1)) (.bin .sub (.var 4) (.int 1))]) k (Ag ps m (A ++ [(x, y)]) (some (.d (.int lo))) (some (.d (.int hi))) (some (.d (.int m))) w7)) = .ok (y == lo - 1) (Ag ps m (A ++ [(x, y)]) (some (.d (.int lo))) (some (.d (.int hi))) (some (.d (.int m))) w7) := by
        have c1 : evE L.T C (.cmp .gt (.blt .len [.var 3]) (.int 0)) k (Ag ps m (A ++ [(x, y)]) (some (.d (.int lo))) (some (.d (.int hi))) (some (.d (.int m))) w7) = .ok (.d (.bl true)) (Ag ps m (A ++ [(x, y)]) (some (.d (.int lo))) (some (.d (.int hi))) (some (.d (.int m))) w7) := by
          show okb (some (decide ((0 : Int) < (((A ++ [(x, y)]).map encP).length : Int)))) _ = _
          rw [decide_eq_true hpos]
          rfl
        rw [v_and, v_ao2, c1, onB_b, if_neg (by decide), v_ao1, v_cmp, v_ix, ixe, R.bind_ok, v_int, R.bind_ok, rs_d, rs_d]
        show asT (R.bind (R.ok (O.d (.int y)) _) _) = _
        rw [R.bind_ok, v_bin, v_var]
        show asT (okb (cmp .eq (.d (.int y)) (.d (.int (lo - 1)))) _) = _
        rw [cmp_eq_d, same_ii]
        rfl
      rw [hlast]
      unfold aB
      rw [v_bcons, v_if, t1, ifB_t, v_bcons, v_if, t2, ifB_b]
      by_cases g : y = lo - 1
      · rw [if_pos (by simpa using g), if_pos g]
        have st : evS L.T C (.setIx 3 (.neg (.int 1)) (.tup [.ix (.ix (.var 3) (.neg (.int 1))) (.int 0), .var 5])) k (Ag ps m (A ++ [(x, y)]) (some (.d (.int lo))) (some (.d (.int hi))) (some (.d (.int m))) w7) = .ok .nx (Ag ps m (A ++ [(x, hi)]) (some (.d (.int lo))) (some (.d (.int hi))) (some (.d (.int m))) w7) := by
          have tp : evE L.T C (.tup [.ix (.ix (.var 3) (.neg (.int 1))) (.int 0), .var 5]) k (Ag ps m (A ++ [(x, y)]) (some (.d (.int lo))) (some (.d (.int hi))) (some (.d (.int m))) w7) = .ok (.d (encP (x, hi))) (Ag ps m (A ++ [(x, y)]) (some (.d (.int lo))) (some (.d (.int hi))) (some (.d (.int m))) w7) := by
            rw [v_tup, v_lcons, v_ix, ixe]
            rfl
          rw [v_setIx, tp, R.bind_ok, keep_d, R.opt_some]
          show nxt (setAt _ 3 (.d (.int (-1))) (encP (x, hi))) = _
          rw [setAt_last _ 3 false (A.map encP) (encP (x, y)) _ (by simp)]
          show _ = R.ok Fl.nx (AgR ps m ((A ++ [(x, hi)]).map encP) (some (.d (.int lo))) (some (.d (.int hi))) (some (.d (.int m))) w7)
          rw [List.map_append]
          rfl
        rw [evB_nx st]
        rfl
      · rw [if_neg (by simpa using g), if_neg g]
        rw [evB_nx (app _ hl)]
        rfl
  · rw [step_no M found _ hm]
    unfold aB
    rw [v_bcons, v_if]
    have t1 : asT (evE L.T C (.cmp .eq (.var 6) (.var 2)) k (Ag ps M found (some (.d (.int lo))) (some (.d (.int hi))) (some (.d (.int m))) w7)) = .ok false (Ag ps M found (some (.d (.int lo))) (some (.d (.int hi))) (some (.d (.int m))) w7) := by
      have : (m == M) = false := by simpa using hm
      simp [varS, this]
    rw [t1, ifB_f]
    rfl
theorem step_len (found : List (Int × Int)) (q : Int × Int × Int) : (stepP M found q).length ≤ found.length + 1 := by
  unfold stepP
  split
  · split
    · split
      · simp
      · simp
    · simp
  · omega
end
end K65
end Ev
/-! P65l: agreed (2), sure_span. -/
namespace Ev.K65
theorem aloop (C : Calls) (k : Nat) (ps : List (Int × Int)) (M : Int) : ∀ (qs : List (Int × Int × Int)) (found : List (Int × Int)) (o4 o5 o6 o7 : Option D), found.length + qs.length ≤ 900 → ∃ o4' o5' o6' o7',
    forL [1] (Ag ps M [] none none none none) (.tp [.nm 4, .nm 5, .nm 6]) (evB L.T C aB k) (qs.map encC) (Ag ps M found (dw o4) (dw o5) (dw o6) (dw o7)) = .ok .nx (Ag ps M (qs.foldl (stepP M) found) (dw o4') (dw o5') (dw o6') (dw o7'))
  | [], found, o4, o5, o6, o7, _ => ⟨o4, o5, o6, o7, by simp [forL, stands, beqs_refl]⟩
  | q :: qs, found, o4, o5, o6, o7, h => by
    rw [List.length_cons] at h
    have h1 := step_len M found q
    obtain ⟨q4, q5, q6, q7, e⟩ := aloop C k ps M qs (stepP M found q) (some (.int q.1)) (some (.int q.2.1)) (some (.int q.2.2)) o7 (by omega)
    refine ⟨q4, q5, q6, q7, ?_⟩
    have hs : stands (Ag ps M [] none none none none) (Ag ps M found (dw o4) (dw o5) (dw o6) (dw o7)) [1] = true := by simp [stands, beqs_refl]
    have hb : bindT (.tp [.nm 4, .nm 5, .nm 6]) (encC q) (Ag ps M found (dw o4) (dw o5) (dw o6) (dw o7)) = some (Ag ps M found (some (.d (.int q.1))) (some (.d (.int q.2.1))) (some (.d (.int q.2.2))) (dw o7)) := by
      show ((store _ 4 (.d (.int q.1))).bind fun ρ => (store ρ 5 (.d (.int q.2.1))).bind fun ρ => (store ρ 6 (.d (.int q.2.2))).bind fun ρ => some ρ) = _
      rw [store_dw _ 4 o4 _ rfl, Option.bind_some, store_dw _ 5 o5 _ rfl, Option.bind_some, store_dw _ 6 o6 _ rfl]
      rfl
    have ht := aturn C k ps M found q (dw o7) (by omega)
    show (if stands _ _ [1] = true then R.opt (bindT _ (encC q) _) _ else _) = _
    rw [if_pos hs, hb, R.opt_some, ht, R.bind_ok]
    exact e
def runs (ps : List (Int × Int)) : List (Int × Int) := (pieces ps).foldl (stepP (mostP ps)) []
/-- agreed -/
theorem t9 (ps : List (Int × Int)) (h : Sp ps) : DO 4 9 [dS ps] (.d (.tup [.int (mostP ps), .tup ((runs ps).map encP)])) := .of d9 rfl _ _ rfl fun k hk => by
  have pl := pieces_len h
  have mo := most_ok h
  have e7 := t7 ps h k (by omega)
  have e8 := t8 ps h k (by omega)
  simp only [List.map_cons, List.map_nil] at e7 e8
  have e1 : evS L.T (calls L.T L.ds k) (.ex (.call 7 [.var 0])) k [some (.d (dS ps)), none, none, none, none, none, none, none] = .ok .nx [some (.d (dS ps)), none, none, none, none, none, none, none] := by
    rw [v_ex, v_call]
    show R.bind (R.bind (R.ok [O.d (dS ps)] _) _) _ = _
    rw [R.bind_ok, e7]
    rfl
  have e2 : evS L.T (calls L.T L.ds k) (.set 1 (.call 8 [.var 0])) k [some (.d (dS ps)), none, none, none, none, none, none, none] = .ok .nx [some (.d (dS ps)), some (.L false ((pieces ps).map encC)), none, none, none, none, none, none] := by
    rw [v_set, v_call]
    show R.bind (R.bind (R.ok [O.d (dS ps)] _) _) _ = _
    rw [R.bind_ok, e8]
    rfl
  have hc : evE L.T (calls L.T L.ds k) (.comp (.var 6) (.tp [.nm 7, .nm 7, .nm 6]) .seq [.var 1] [] [7, 6]) k [some (.d (dS ps)), some (.L false ((pieces ps).map encC)), none, none, none, none, none, none]
      = .ok (.L ((pieces ps).map fun q => .int q.2.2)) [some (.d (dS ps)), some (.L false ((pieces ps).map encC)), none, none, none, none, none, none] := by
    refine comp_map _ _ _ _ _ _ _ _ _ [1] (pieces ps) encC _ rfl (by simp [stands, wipe, beqs_refl]) rfl (by show _ ≤ 16777216; omega) ?_
    intro q hq
    exact ⟨[some (.d (dS ps)), some (.L false ((pieces ps).map encC)), none, none, none, none, some (.d (.int q.2.2)), some (.d (.int q.2.1))], rfl, rfl, .d (.int q.2.2), rfl, rfl⟩
  have hmx : blt .max [.L ((pieces ps).map fun q => .int q.2.2)] = some (.d (.int (mostP ps))) := by
    have e : ((pieces ps).map fun q => D.int q.2.2) = ((pieces ps).map fun q => q.2.2).map D.int := by rw [List.map_map]; rfl
    rw [e]
    obtain ⟨q, hq, hM⟩ := mo.ex
    exact max_is _ _ (by rw [← hM]; exact List.mem_map_of_mem hq) fun x hx => by
      obtain ⟨q', hq', rfl⟩ := List.mem_map.mp hx
      exact mo.le q' hq'
  have e3 : evS L.T (calls L.T L.ds k) (.par [2, 3] [.blt .max [.comp (.var 6) (.tp [.nm 7, .nm 7, .nm 6]) .seq [.var 1] [] [7, 6]], .lst []]) k [some (.d (dS ps)), some (.L false ((pieces ps).map encC)), none, none, none, none, none, none] = .ok .nx (Ag ps (mostP ps) [] none none none none) := by
    have hb : evE L.T (calls L.T L.ds k) (.blt .max [.comp (.var 6) (.tp [.nm 7, .nm 7, .nm 6]) .seq [.var 1] [] [7, 6]]) k [some (.d (dS ps)), some (.L false ((pieces ps).map encC)), none, none, none, none, none, none] = .ok (.d (.int (mostP ps))) [some (.d (dS ps)), some (.L false ((pieces ps).map encC)), none, none, none, none, none, none] := by
      rw [v_blt, v_lcons, hc, R.bind_ok, v_lnil, R.bind_ok, R.bind_ok]
      show oko (blt .max [.L _]) _ = _
      rw [hmx]
      rfl
    rw [v_par, v_lcons, hb]
    rfl
  obtain ⟨q4, q5, q6, q7, e4⟩ := aloop (calls L.T L.ds k) k ps (mostP ps) (pieces ps) [] none none none none (by simp; omega)
  have e5 : evS L.T (calls L.T L.ds k) (.for_ (.tp [.nm 4, .nm 5, .nm 6]) .seq [.var 1] aB) k (Ag ps (mostP ps) [] none none none none) = .ok .nx (Ag ps (mostP ps) (runs ps) (dw q4) (dw q5) (dw q6) (dw q7)) := by
    rw [v_for]
    exact e4
  show fin 1 (evB L.T (calls L.T L.ds k) d9.body k [some (.d (dS ps)), none, none, none, none, none, none, none]) = _
  unfold d9
  dsimp only
  refine Eq.trans (congrArg (fin 1) ((evB_nx e1 _).trans ((evB_nx e2 _).trans ((evB_nx e3 _).trans (evB_nx e5 _))))) ?_
  rfl
/-! ### sure_span -/
def goodP (ps : List (Int × Int)) (G : Int) : List (Int × Int × Int) := (pieces ps).filter fun q => decide (G ≤ q.2.2)
def sureD (gp : List (Int × Int × Int)) : D := match gp.head?, gp.getLast? with
  | some a, some b => .tup [.int a.1, .int b.2.1]
  | _, _ => .non
theorem t10 (ps : List (Int × Int)) (h : Sp ps) (f : Int) (f0 : 0 ≤ f) (f1 : f < ps.length) : DO 4 10 [dS ps, .int f] (.d (sureD (goodP ps (ps.length - f)))) := .of d10 rfl _ _ rfl fun k hk => by
  have pl := pieces_len h
  have e7 := t7 ps h k (by omega)
  have e8 := t8 ps h k (by omega)
  have e1' := t1 f ps.length k (by omega)
  simp only [List.map_cons, List.map_nil] at e7 e8 e1'
  have hb : (decide (0 ≤ f) && decide (f < (ps.length : Int))) = true := by simp [f0, f1]
  rw [hb] at e1'
  have e1 : evS L.T (calls L.T L.ds k) (.ex (.call 7 [.var 0])) k [some (.d (dS ps)), some (.d (.int f)), none, none, none, none] = .ok .nx [some (.d (dS ps)), some (.d (.int f)), none, none, none, none] := by
    rw [v_ex, v_call]
    show R.bind (R.bind (R.ok [O.d (dS ps)] _) _) _ = _
    rw [R.bind_ok, e7]
    rfl
  have e2 : evS L.T (calls L.T L.ds k) (.ite (.not_ (.call 1 [.var 1, .blt .len [.var 0]])) [.raise 0] []) k [some (.d (dS ps)), some (.d (.int f)), none, none, none, none] = .ok .nx [some (.d (dS ps)), some (.d (.int f)), none, none, none, none] := by
    simp [varS, e1']
  have hc : evE L.T (calls L.T L.ds k) (.comp (.tup [.var 3, .var 4]) (.tp [.nm 3, .nm 4, .nm 5]) .seq [.call 8 [.var 0]] [.cmp .ge (.var 5) (.bin .sub (.blt .len [.var 0]) (.var 1))] [3, 4, 5]) k [some (.d (dS ps)), some (.d (.int f)), none, none, none, none]
      = .ok (.L ((goodP ps (ps.length - f)).map fun q => encP (q.1, q.2.1))) [some (.d (dS ps)), some (.d (.int f)), none, none, none, none] := by
    refine comp_enc _ _ _ _ _ _ _ _ _ _ [] (pieces ps) encC _ _ ?_ rfl rfl (by show _ ≤ 16777216; omega) ?_
    · rw [v_lcons, v_call]
      have : evL L.T (calls L.T L.ds k) [.var 0] k [some (.d (dS ps)), some (.d (.int f)), none, none, none, none] = .ok [.d (dS ps)] [some (.d (dS ps)), some (.d (.int f)), none, none, none, none] := rfl
      rw [this, R.bind_ok, e8]
      rfl
    · intro q hq
      refine ⟨[some (.d (dS ps)), some (.d (.int f)), none, some (.d (.int q.1)), some (.d (.int q.2.1)), some (.d (.int q.2.2))], rfl, rfl, ?_, fun _ => ⟨.d (encP (q.1, q.2.1)), rfl, rfl⟩⟩
      simp [varS, ifB_end]
  have e3 : evS L.T (calls L.T L.ds k) (.set 2 (.comp (.tup [.var 3, .var 4]) (.tp [.nm 3, .nm 4, .nm 5]) .seq [.call 8 [.var 0]] [.cmp .ge (.var 5) (.bin .sub (.blt .len [.var 0]) (.var 1))] [3, 4, 5])) k [some (.d (dS ps)), some (.d (.int f)), none, none, none, none]
      = .ok .nx [some (.d (dS ps)), some (.d (.int f)), some (.L false ((goodP ps (ps.length - f)).map fun q => encP (q.1, q.2.1))), none, none, none] := by
    rw [v_set, hc]
    rfl
  generalize goodP ps (ps.length - f) = gp at *
  have e4 : ∃ ρ', evS L.T (calls L.T L.ds k) (.ret (.ite (.cmp .gt (.blt .len [.var 2]) (.int 0)) (.tup [.ix (.ix (.var 2) (.int 0)) (.int 0), .ix (.ix (.var 2) (.neg (.int 1))) (.int 1)]) .non)) k [some (.d (dS ps)), some (.d (.int f)), some (.L false (gp.map fun q => encP (q.1, q.2.1))), none, none, none]
      = .ok (.ret (.d (sureD gp))) ρ' ∧ 2 ≤ ρ'.length := by
    rcases last_cases gp with rfl | ⟨A, o, rfl⟩
    · exact ⟨_, rfl, by show 2 ≤ 6; omega⟩
    · refine ⟨[some (.d (dS ps)), some (.d (.int f)), some (.L false ((A ++ [o]).map fun q => encP (q.1, q.2.1))), none, none, none], ?_, by simp⟩
      have hx : index (.L ((A ++ [o]).map fun q => encP (q.1, q.2.1))) (.d (.int (-1))) = some (encP (o.1, o.2.1)) := by
        rw [index_L, List.map_append]
        exact at_last _ _
      obtain ⟨a, ha⟩ : ∃ a, (A ++ [o]).head? = some a := by cases A <;> exact ⟨_, rfl⟩
      have h0 : index (.L ((A ++ [o]).map fun q => encP (q.1, q.2.1))) (.d (.int 0)) = some (encP (a.1, a.2.1)) := by
        rw [index_L, at_0, List.getElem?_map, ← List.head?_eq_getElem?, ha]
        rfl
      have hs : sureD (A ++ [o]) = .tup [.int a.1, .int o.2.1] := by
        unfold sureD
        rw [ha, List.getLast?_append]
        rfl
      have hl : (0 : Int) < ((((A ++ [o]).map fun q => encP (q.1, q.2.1)).length : Nat) : Int) := by
        rw [List.length_map, List.length_append, List.length_singleton]; omega
      rw [hs]
      generalize ((A ++ [o]).map fun q => encP (q.1, q.2.1)) = xs at *
      have hl2 : 0 < xs.length := by omega
      simp [varS, rs, hx, h0, hl2, -index_L]
  obtain ⟨ρ', e4, hl⟩ := e4
  show fin 2 (evB L.T (calls L.T L.ds k) d10.body k [some (.d (dS ps)), some (.d (.int f)), none, none, none, none]) = _
  unfold d10
  dsimp only
  rw [evB_nx e1, evB_nx e2, evB_nx e3, evB_fl e4, fin_d, if_pos hl]
/-- too many wrong ones -/
theorem t10x (ps : List (Int × Int)) (h : Sp ps) : Raises L.T L.ds 4 10 [dS ps, .int ps.length] 0 := .of d10 rfl _ _ rfl fun k hk => by
  have e7 := t7 ps h k (by omega)
  have e1' := t1 ps.length ps.length k (by omega)
  simp only [List.map_cons, List.map_nil] at e7 e1'
  have hb : (decide (0 ≤ (ps.length : Int)) && decide ((ps.length : Int) < (ps.length : Int))) = false := by simp
  rw [hb] at e1'
  have e1 : evS L.T (calls L.T L.ds k) (.ex (.call 7 [.var 0])) k [some (.d (dS ps)), some (.d (.int ps.length)), none, none, none, none] = .ok .nx [some (.d (dS ps)), some (.d (.int ps.length)), none, none, none, none] := by
    rw [v_ex, v_call]
    show R.bind (R.bind (R.ok [O.d (dS ps)] _) _) _ = _
    rw [R.bind_ok, e7]
    rfl
  have e2 : evS L.T (calls L.T L.ds k) (.ite (.not_ (.call 1 [.var 1, .blt .len [.var 0]])) [.raise 0] []) k [some (.d (dS ps)), some (.d (.int ps.length)), none, none, none, none] = .exc 0 [some (.d (dS ps)), some (.d (.int ps.length)), none, none, none, none] := by
    simp [varS, e1']
  show exB 2 (evB L.T (calls L.T L.ds k) d10.body k [some (.d (dS ps)), some (.d (.int ps.length)), none, none, none, none]) = _
  unfold d10
  dsimp only
  rw [evB_nx e1, evB_exc e2]
  rfl
end Ev.K65
/-! P65m: the law's own heaps. -/
namespace Ev
/-- a slot's own list, or nothing -/
def lw (o : Option (List D)) : Option W := o.map (W.L false)
theorem store_lw (ρ : Ev) (i : Nat) (o : Option (List D)) (w : W) (h : ρ[i]? = some (lw o)) : store ρ i w = some (ρ.set i (some w)) := by
  have : free ρ i = true := by
    unfold free
    rw [h]
    cases o <;> rfl
  unfold store
  rw [if_pos this]
theorem sliceL_no (xs : List D) (c : Nat) (h : c ≤ xs.length) : slice (.L xs) (some (c : Int)) (some (c : Int)) = some (.L []) := by
  have e : ¬ ((c : Int) < 0) := by omega
  simp [slice, items, cut, sIx, e]
theorem at_neg (xs : List D) (n : Nat) (h0 : 1 ≤ n) (h : n ≤ xs.length) : at_ xs (-(n : Int)) = xs[xs.length - n]? := by
  unfold at_ place
  rw [if_neg (by omega), if_pos (by omega), Option.bind_some]
  congr 1
  omega
namespace K65
abbrev Lt (r : Int) (rb : List Int) (hs : List (Nat × Nat)) (w3 w4 w5 w6 w7 w8 : Option W) : Ev := [some (.d (.int r)), some (.d (dR rb)), some (.L false (hs.map encH)), w3, w4, w5, w6, w7, w8, none, none]
def xT : E := .cmp .gt (.blt .len [.comp (.var 10) (.nm 10) .seq [.var 2] [.cmp .eq (.ix (.var 10) (.int 0)) (.var 4)] [10]]) (.var 0)
def xB : List S := [.set 5 (.comp (.var 9) (.nm 9) .rng [.blt .len [.var 2]] [.cmp .eq (.ix (.ix (.var 2) (.var 9)) (.int 0)) (.var 4)] [9]),
        .par [7, 8] [.ix (.var 5) (.neg (.int 2)), .ix (.var 5) (.neg (.int 1))],
        .set 6 (.tup [.bin .mul (.int 2) (.var 4), .ix (.ix (.var 2) (.var 7)) (.int 1)]),
        .set 2 (.bin .add (.bin .add (.bin .add (.sl (.var 2) .abs (.var 7)) (.lst [.var 6])) (.sl (.var 2) (.bin .add (.var 7) (.int 1)) (.var 8))) (.sl (.var 2) (.bin .add (.var 8) (.int 1)) .abs)),
        .set 4 (.bin .mul (.int 2) (.var 4))]
section
variable (C : Calls) (k : Nat) (r : Int) (rb : List Int) (hs : List (Nat × Nat)) (w3 w5 w6 w7 w8 : Option W) (s : Nat)
theorem xA (hc : hs.length ≤ 10000) : evE L.T C (.comp (.var 10) (.nm 10) .seq [.var 2] [.cmp .eq (.ix (.var 10) (.int 0)) (.var 4)] [10]) k (Lt r rb hs w3 (some (.d (.int s))) w5 w6 w7 w8)
    = .ok (.L ((hs.filter fun h => (h.1 : Int) == (s : Int)).map encH)) (Lt r rb hs w3 (some (.d (.int s))) w5 w6 w7 w8) := by
  refine comp_enc _ _ _ _ _ _ _ _ _ _ [2] hs encH _ encH rfl (by simp [stands, wipe, beqs_refl]) rfl (by show _ ≤ 16777216; omega) ?_
  intro x hx
  refine ⟨[some (.d (.int r)), some (.d (dR rb)), some (.L false (hs.map encH)), w3, some (.d (.int s)), w5, w6, w7, w8, none, some (.d (encH x))], rfl, rfl, ?_, fun _ => ⟨.d (encH x), rfl, rfl⟩⟩
  simp [varS, ifB_end]
theorem xSame (hc : hs.length ≤ 10000) : evE L.T C (.comp (.var 9) (.nm 9) .rng [.blt .len [.var 2]] [.cmp .eq (.ix (.ix (.var 2) (.var 9)) (.int 0)) (.var 4)] [9]) k (Lt r rb hs w3 (some (.d (.int s))) w5 w6 w7 w8)
    = .ok (.L ((hs.zipIdx.filter fun q => (q.1.1 : Int) == (s : Int)).map fun q => .int q.2)) (Lt r rb hs w3 (some (.d (.int s))) w5 w6 w7 w8) := by
  refine comp_enc _ _ _ _ _ _ _ _ _ _ [] hs.zipIdx (fun q => .int q.2) _ (fun q => .int q.2) ?_ rfl rfl (by rw [List.length_zipIdx]; show _ ≤ 16777216; omega) ?_
  · have e2 : evL L.T C [.blt .len [.var 2]] k (Lt r rb hs w3 (some (.d (.int s))) w5 w6 w7 w8) = .ok [.d (.int ((hs.map encH).length : Int))] (Lt r rb hs w3 (some (.d (.int s))) w5 w6 w7 w8) := rfl
    rw [e2, List.length_map, iter_rng1 _ _ (inR_sm _ (by omega) (by omega)), upTo_nat]
    have e3 := zip_snd hs 0
    rw [List.range_eq_range', ← e3, List.map_map]
    rfl
  · intro x hx
    obtain ⟨hi, ex⟩ := mem_zip hx
    refine ⟨[some (.d (.int r)), some (.d (dR rb)), some (.L false (hs.map encH)), w3, some (.d (.int s)), w5, w6, w7, w8, some (.d (.int x.2)), none], rfl, rfl, ?_, fun _ => ⟨.d (.int x.2), rfl, rfl⟩⟩
    have h1 : index (.L (hs.map encH)) (.d (.int (x.2 : Int))) = some (encH x.1) := by
      rw [index_L, at_nat, List.getElem?_map, List.getElem?_eq_getElem hi, ex]
      rfl
    have hx : evE L.T C (.cmp .eq (.ix (.ix (.var 2) (.var 9)) (.int 0)) (.var 4)) k [some (.d (.int r)), some (.d (dR rb)), some (.L false (hs.map encH)), w3, some (.d (.int s)), w5, w6, w7, w8, some (.d (.int x.2)), none] = .ok (.d (.bl ((x.1.1 : Int) == (s : Int)))) [some (.d (.int r)), some (.d (dR rb)), some (.L false (hs.map encH)), w3, some (.d (.int s)), w5, w6, w7, w8, some (.d (.int x.2)), none] := by
      have h2 : evE L.T C (.ix (.var 2) (.var 9)) k [some (.d (.int r)), some (.d (dR rb)), some (.L false (hs.map encH)), w3, some (.d (.int s)), w5, w6, w7, w8, some (.d (.int x.2)), none] = .ok (.d (encH x.1)) [some (.d (.int r)), some (.d (dR rb)), some (.L false (hs.map encH)), w3, some (.d (.int s)), w5, w6, w7, w8, some (.d (.int x.2)), none] := by
        show okd (index (.L (hs.map encH)) (.d (.int (x.2 : Int)))) _ = _
        rw [h1]
        rfl
      rw [v_cmp, v_ix, h2]
      show okb (cmp .eq (.d (.int (x.1.1 : Int))) (.d (.int (s : Int)))) _ = _
      rw [cmp_eq_d, same_ii]
      rfl
    rw [v_tcons, hx]
    exact ifB_end _ _ _ _ _
theorem xtest (n : Nat) (hc : hs.length ≤ 10000) (hn : (hs.filter fun h => (h.1 : Int) == (s : Int)).length = n) :
    asT (evE L.T C xT k (Lt r rb hs w3 (some (.d (.int s))) w5 w6 w7 w8)) = .ok (decide (r < (n : Int))) (Lt r rb hs w3 (some (.d (.int s))) w5 w6 w7 w8) := by
  unfold xT
  rw [v_cmp, v_blt, v_lcons, xA C k r rb hs w3 w5 w6 w7 w8 s hc, R.bind_ok, v_lnil, R.bind_ok]
  simp only [R.bind_ok, List.map_cons, List.map_nil, rs_L, len_L, oko_some, List.length_map, hn]
  rfl
theorem xmerge (n : Nat) (d : Nat × Nat) (hn : n + 2 ≤ hs.length) (hc : hs.length ≤ 10000) :
    evS L.T C (.set 2 (.bin .add (.bin .add (.bin .add (.sl (.var 2) .abs (.var 7)) (.lst [.var 6])) (.sl (.var 2) (.bin .add (.var 7) (.int 1)) (.var 8))) (.sl (.var 2) (.bin .add (.var 8) (.int 1)) .abs))) k
      (Lt r rb hs w3 (some (.d (.int s))) w5 (some (.d (encH (2 * s, (hs.getD n d).2)))) (some (.d (.int (n : Int)))) (some (.d (.int ((n + 1 : Nat) : Int)))))
    = .ok .nx (Lt r rb (hs.take n ++ [(2 * s, (hs.getD n d).2)] ++ hs.drop (n + 2)) w3 (some (.d (.int s))) w5 (some (.d (encH (2 * s, (hs.getD n d).2)))) (some (.d (.int (n : Int)))) (some (.d (.int ((n + 1 : Nat) : Int))))) := by
  generalize hρ : Lt r rb hs w3 (some (.d (.int s))) w5 (some (.d (encH (2 * s, (hs.getD n d).2)))) (some (.d (.int (n : Int)))) (some (.d (.int ((n + 1 : Nat) : Int)))) = ρ
  have v7 : evE L.T C (.var 7) k ρ = .ok (.d (.int (n : Int))) ρ := by rw [← hρ]; rfl
  have v8 : evE L.T C (.var 8) k ρ = .ok (.d (.int ((n + 1 : Nat) : Int))) ρ := by rw [← hρ]; rfl
  have v2 : evE L.T C (.var 2) k ρ = .ok (.bor 2) ρ := by rw [← hρ]; rfl
  have r2 : rs ρ (.bor 2) = .L (hs.map encH) := by rw [← hρ]; rfl
  have lo : evE L.T C (.bin .add (.var 7) (.int 1)) k ρ = .ok (.d (.int ((n + 1 : Nat) : Int))) ρ := by
    rw [v_bin, v7, R.bind_ok, v_int, R.bind_ok, rs_d, rs_d, bin_add_i, show (n : Int) + 1 = ((n + 1 : Nat) : Int) by omega]; rfl
  have hi : evE L.T C (.bin .add (.var 8) (.int 1)) k ρ = .ok (.d (.int ((n + 2 : Nat) : Int))) ρ := by
    rw [v_bin, v8, R.bind_ok, v_int, R.bind_ok, rs_d, rs_d, bin_add_i, show ((n + 1 : Nat) : Int) + 1 = ((n + 2 : Nat) : Int) by omega]; rfl
  have s1 : evE L.T C (.sl (.var 2) .abs (.var 7)) k ρ = .ok (.L ((hs.take n).map encH)) ρ := by
    rw [v_sl, v2, R.bind_ok, if_pos (show isAbs E.abs = true from rfl), R.bind_ok, if_neg (by decide), v7, asI_d, R.bind_ok, r2, sliceL_take _ _ (by rw [List.length_map]; omega), List.map_take]; rfl
  have s2 : evE L.T C (.sl (.var 2) (.bin .add (.var 7) (.int 1)) (.var 8)) k ρ = .ok (.L []) ρ := by
    rw [v_sl, v2, R.bind_ok, if_neg (by decide), lo, asI_d, R.bind_ok, if_neg (by decide), v8, asI_d, R.bind_ok, r2, sliceL_no _ _ (by rw [List.length_map]; omega)]; rfl
  have s3 : evE L.T C (.sl (.var 2) (.bin .add (.var 8) (.int 1)) .abs) k ρ = .ok (.L ((hs.drop (n + 2)).map encH)) ρ := by
    rw [v_sl, v2, R.bind_ok, if_neg (by decide), hi, asI_d, R.bind_ok, if_pos (show isAbs E.abs = true from rfl), R.bind_ok, r2, sliceL_drop _ _ (by rw [List.length_map]; omega), List.map_drop]; rfl
  have mid : evE L.T C (.lst [.var 6]) k ρ = .ok (.L ([(2 * s, (hs.getD n d).2)].map encH)) ρ := by rw [← hρ]; rfl
  rw [v_set, v_bin, v_bin, v_bin, s1, R.bind_ok, mid, R.bind_ok, rs_L, rs_L, add_L _ _ (by simp only [List.length_map, List.length_take, List.length_singleton]; show _ ≤ 16777216; omega), oko_some, R.bind_ok, s2, R.bind_ok, rs_L, rs_L,
    add_L _ _ (by simp only [List.length_append, List.length_map, List.length_take, List.length_singleton, List.length_nil]; show _ ≤ 16777216; omega), oko_some, R.bind_ok, s3, R.bind_ok, rs_L, rs_L,
    add_L _ _ (by simp only [List.length_append, List.length_map, List.length_take, List.length_drop, List.length_singleton, List.length_nil]; show _ ≤ 16777216; omega), oko_some, R.bind_ok, List.append_nil, ← List.map_append, ← List.map_append, ← hρ]
  rfl
end
section
variable (C : Calls) (k : Nat) (r : Int) (rb : List Int) (w3 : Option W)
/-- one turn of the loop -/
theorem xturn (no pre rest : List Nat) (s c : Nat) (o5 : Option (List D)) (o6 o7 o8 : Option D) (h1 : ∀ x ∈ pre, x < s) (h2 : ∀ x ∈ rest, s < x) (hc : 2 ≤ c) (hl : pre.length + c + rest.length ≤ 10000) : ∃ o5' o6' o7' o8',
    evB L.T C xB k (Lt r rb (tile no (pre ++ List.replicate c s ++ rest)) w3 (some (.d (.int s))) (lw o5) (dw o6) (dw o7) (dw o8))
    = .ok .nx (Lt r rb (tile no (pre ++ List.replicate (c - 2) s ++ (2 * s) :: rest)) w3 (some (.d (.int ((2 * s : Nat) : Int)))) (lw o5') (dw o6') (dw o7') (dw o8')) := by
  have hlen2 : (tile no (pre ++ List.replicate c s ++ rest)).length = pre.length + c + rest.length := by
    rw [tile_len]
    simp only [List.length_append, List.length_replicate]
  have im := idx_mid (no := no) (c := c) h1 h2
  have hA : pre ++ List.replicate c s ++ rest = (pre ++ List.replicate (c - 2) s) ++ s :: s :: rest := by
    obtain ⟨d, rfl⟩ : ∃ d, c = d + 2 := ⟨c - 2, by omega⟩
    rw [Nat.add_sub_cancel, ← List.replicate_append_replicate]
    simp
  have hAl : (pre ++ List.replicate (c - 2) s).length = pre.length + c - 2 := by simp; omega
  have e3 := tile_merge (pre ++ List.replicate (c - 2) s) rest s no (0, 0)
  rw [← hA, hAl] at e3
  generalize hh : tile no (pre ++ List.replicate c s ++ rest) = hs at *
  generalize hn : pre.length + c - 2 = n at *
  have e1 : evS L.T C (.set 5 (.comp (.var 9) (.nm 9) .rng [.blt .len [.var 2]] [.cmp .eq (.ix (.ix (.var 2) (.var 9)) (.int 0)) (.var 4)] [9])) k (Lt r rb hs w3 (some (.d (.int s))) (lw o5) (dw o6) (dw o7) (dw o8))
      = .ok .nx (Lt r rb hs w3 (some (.d (.int s))) (lw (some ((List.range' pre.length c).map fun (i : Nat) => D.int (i : Int)))) (dw o6) (dw o7) (dw o8)) := by
    rw [v_set, xSame C k r rb hs w3 (lw o5) (dw o6) (dw o7) (dw o8) s (by omega), R.bind_ok, im, assign_L, store_lw _ 5 o5 _ rfl]
    rfl
  have i1 : index (.L ((List.range' pre.length c).map fun (i : Nat) => D.int (i : Int))) (.d (.int (-2))) = some (.int (n : Int)) := by
    rw [index_L]
    have e := at_neg ((List.range' pre.length c).map fun (i : Nat) => D.int (i : Int)) 2 (by omega) (by rw [List.length_map, List.length_range']; omega)
    rw [show (-((2 : Nat) : Int)) = -2 from rfl] at e
    rw [e, List.getElem?_map, List.length_map, List.length_range', List.getElem?_range' (by omega)]
    show some (D.int ((pre.length + 1 * (c - 2) : Nat) : Int)) = _
    rw [show pre.length + 1 * (c - 2) = n by omega]
  have i2 : index (.L ((List.range' pre.length c).map fun (i : Nat) => D.int (i : Int))) (.d (.int (-1))) = some (.int ((n + 1 : Nat) : Int)) := by
    rw [index_L]
    have e := at_neg ((List.range' pre.length c).map fun (i : Nat) => D.int (i : Int)) 1 (by omega) (by rw [List.length_map, List.length_range']; omega)
    rw [show (-((1 : Nat) : Int)) = -1 from rfl] at e
    rw [e, List.getElem?_map, List.length_map, List.length_range', List.getElem?_range' (by omega)]
    show some (D.int ((pre.length + 1 * (c - 1) : Nat) : Int)) = _
    rw [show pre.length + 1 * (c - 1) = n + 1 by omega]
  have e2 : evS L.T C (.par [7, 8] [.ix (.var 5) (.neg (.int 2)), .ix (.var 5) (.neg (.int 1))]) k (Lt r rb hs w3 (some (.d (.int s))) (lw (some ((List.range' pre.length c).map fun (i : Nat) => D.int (i : Int)))) (dw o6) (dw o7) (dw o8))
      = .ok .nx (Lt r rb hs w3 (some (.d (.int s))) (lw (some ((List.range' pre.length c).map fun (i : Nat) => D.int (i : Int)))) (dw o6) (some (.d (.int (n : Int)))) (some (.d (.int ((n + 1 : Nat) : Int))))) := by
    generalize hq : ((List.range' pre.length c).map fun (i : Nat) => D.int (i : Int)) = q at *
    have j1 : evE L.T C (.ix (.var 5) (.neg (.int 2))) k (Lt r rb hs w3 (some (.d (.int s))) (lw (some q)) (dw o6) (dw o7) (dw o8)) = .ok (.d (.int (n : Int))) (Lt r rb hs w3 (some (.d (.int s))) (lw (some q)) (dw o6) (dw o7) (dw o8)) := by
      show okd (index (.L q) (.d (.int (-2)))) _ = _
      rw [i1]
      rfl
    have j2 : evE L.T C (.ix (.var 5) (.neg (.int 1))) k (Lt r rb hs w3 (some (.d (.int s))) (lw (some q)) (dw o6) (dw o7) (dw o8)) = .ok (.d (.int ((n + 1 : Nat) : Int))) (Lt r rb hs w3 (some (.d (.int s))) (lw (some q)) (dw o6) (dw o7) (dw o8)) := by
      show okd (index (.L q) (.d (.int (-1)))) _ = _
      rw [i2]
      rfl
    rw [v_par, v_lcons, j1, R.bind_ok, v_lcons, j2, R.bind_ok, v_lnil, R.bind_ok, R.bind_ok, R.bind_ok]
    simp only [walked_d, walked_nil, List.all_nil, R.grd_true]
    rw [asg_cons, assign_d, store_dw _ 7 o7 _ rfl, Option.bind_some, asg_cons, assign_d, store_dw _ 8 o8 _ rfl, Option.bind_some, asg_nil]
    rfl
  have hx : (hs.map encH)[n]? = some (encH (hs.getD n (0, 0))) := by
    rw [List.getElem?_map, List.getD_eq_getElem?_getD, List.getElem?_eq_getElem (by omega)]; rfl
  refine ⟨some ((List.range' pre.length c).map fun (i : Nat) => D.int (i : Int)), some (encH (2 * s, (hs.getD n (0, 0)).2)), some (.int (n : Int)), some (.int ((n + 1 : Nat) : Int)), ?_⟩
  generalize (lw (some ((List.range' pre.length c).map fun (i : Nat) => D.int (i : Int)))) = w5 at *
  have e4 : evS L.T C (.set 6 (.tup [.bin .mul (.int 2) (.var 4), .ix (.ix (.var 2) (.var 7)) (.int 1)])) k (Lt r rb hs w3 (some (.d (.int s))) w5 (dw o6) (some (.d (.int (n : Int)))) (some (.d (.int ((n + 1 : Nat) : Int)))))
      = .ok .nx (Lt r rb hs w3 (some (.d (.int s))) w5 (some (.d (encH (2 * s, (hs.getD n (0, 0)).2)))) (some (.d (.int (n : Int)))) (some (.d (.int ((n + 1 : Nat) : Int))))) := by
    generalize hρ : Lt r rb hs w3 (some (.d (.int s))) w5 (dw o6) (some (.d (.int (n : Int)))) (some (.d (.int ((n + 1 : Nat) : Int)))) = ρ
    have m1 : evE L.T C (.bin .mul (.int 2) (.var 4)) k ρ = .ok (.d (.int ((2 * s : Nat) : Int))) ρ := by
      have v4 : evE L.T C (.var 4) k ρ = .ok (.d (.int (s : Int))) ρ := by rw [← hρ]; rfl
      rw [v_bin, v_int, R.bind_ok, v4, R.bind_ok, rs_d, rs_d, bin_mul_i _ _ rfl, show (2 : Int) * (s : Int) = ((2 * s : Nat) : Int) by omega]; rfl
    have m2 : evE L.T C (.ix (.ix (.var 2) (.var 7)) (.int 1)) k ρ = .ok (.d (.int ((hs.getD n (0, 0)).2 : Int))) ρ := by
      have v7 : evE L.T C (.var 7) k ρ = .ok (.d (.int (n : Int))) ρ := by rw [← hρ]; rfl
      have v2 : evE L.T C (.var 2) k ρ = .ok (.bor 2) ρ := by rw [← hρ]; rfl
      have r2 : rs ρ (.bor 2) = .L (hs.map encH) := by rw [← hρ]; rfl
      rw [v_ix, v_ix, v2, R.bind_ok, v7, R.bind_ok, r2, rs_d, index_L, at_nat, hx]; rfl
    have hs6 : store ρ 6 (.d (encH (2 * s, (hs.getD n (0, 0)).2))) = some (ρ.set 6 (some (.d (encH (2 * s, (hs.getD n (0, 0)).2))))) := by
      refine store_dw ρ 6 o6 _ ?_
      rw [← hρ]
      rfl
    rw [v_set, v_tup, v_lcons, m1, R.bind_ok, v_lcons, m2]
    show nxt (store ρ 6 (.d (encH (2 * s, (hs.getD n (0, 0)).2)))) = _
    rw [hs6, ← hρ]
    rfl
  have e5 := xmerge C k r rb hs w3 w5 s n (0, 0) (by omega) (by omega)
  rw [e3] at e5
  unfold xB
  rw [evB_nx e1, evB_nx e2, evB_nx e4, evB_nx e5]
  have e6 : evS L.T C (.set 4 (.bin .mul (.int 2) (.var 4))) k (Lt r rb (tile no (pre ++ List.replicate (c - 2) s ++ (2 * s) :: rest)) w3 (some (.d (.int s))) w5 (some (.d (encH (2 * s, (hs.getD n (0, 0)).2)))) (some (.d (.int (n : Int)))) (some (.d (.int ((n + 1 : Nat) : Int)))))
      = .ok .nx (Lt r rb (tile no (pre ++ List.replicate (c - 2) s ++ (2 * s) :: rest)) w3 (some (.d (.int ((2 * s : Nat) : Int)))) w5 (some (.d (encH (2 * s, (hs.getD n (0, 0)).2)))) (some (.d (.int (n : Int)))) (some (.d (.int ((n + 1 : Nat) : Int))))) := by
    rw [v_set, v_bin, v_int, R.bind_ok, v_var]
    show (R.bind (oko (bin .mul (.d (.int 2)) (.d (.int (s : Int)))) _) _) = _
    rw [bin_mul_i _ _ rfl, show (2 : Int) * (s : Int) = ((2 * s : Nat) : Int) by omega]
    rfl
  rw [evB_nx e6]
  rfl
/-- the loop, from a level on -/
theorem xloop (r2 : 2 ≤ r) (no : List Nat) : ∀ (cs : List Nat) (j c fuel : Nat) (pre : List Nat) (o5 : Option (List D)) (o6 o7 o8 : Option D), cs.length + 2 ≤ fuel → (∀ x ∈ pre, x < 2 ^ j) → pre.length + c + (sz (j + 1) cs).length ≤ 9000 →
    ∃ o4 o5' o6' o7' o8', whileL (fun ρ => asT (evE L.T C xT k ρ)) (evB L.T C xB k) fuel (Lt r rb (tile no (pre ++ List.replicate c (2 ^ j) ++ sz (j + 1) cs)) w3 (some (.d (.int ((2 ^ j : Nat) : Int)))) (lw o5) (dw o6) (dw o7) (dw o8))
      = .ok .nx (Lt r rb (tile no (pre ++ sz j (carry r.toNat c cs))) w3 (dw o4) (lw o5') (dw o6') (dw o7') (dw o8')) := by
  intro cs
  induction cs with
  | nil =>
    intro j c fuel pre o5 o6 o7 o8 hf h1 hl
    obtain ⟨fuel, rfl⟩ : ∃ f, fuel = f + 1 := ⟨fuel - 1, by omega⟩
    simp only [sz, List.length_nil] at hl
    have h2 : ∀ x ∈ ([] : List Nat), 2 ^ j < x := fun x hx => by cases hx
    have hlen : (tile no (pre ++ List.replicate c (2 ^ j) ++ [])).length ≤ 10000 := by
      rw [tile_len]; simp only [List.length_append, List.length_replicate, List.length_nil]; omega
    rw [whileL_s]
    show ∃ o4 o5' o6' o7' o8', ifB (asT (evE L.T C xT k (Lt r rb (tile no (pre ++ List.replicate c (2 ^ j) ++ [])) w3 (some (.d (.int ((2 ^ j : Nat) : Int)))) (lw o5) (dw o6) (dw o7) (dw o8)))) _ _ = _
    rw [xtest C k r rb _ w3 _ _ _ _ (2 ^ j) c hlen (cnt_mid h1 h2), ifB_b]
    by_cases g : r < (c : Int)
    · obtain ⟨p5, p6, p7, p8, et⟩ := xturn C k r rb w3 no pre [] (2 ^ j) c o5 o6 o7 o8 h1 h2 (by omega) (by simp; omega)
      rw [if_pos (decide_eq_true g), et, R.bind_ok]
      obtain ⟨fuel, rfl⟩ : ∃ f, fuel = f + 1 := ⟨fuel - 1, by omega⟩
      have h1' : ∀ x ∈ pre ++ List.replicate (c - 2) (2 ^ j), x < 2 ^ (j + 1) := by
        intro x hx
        have hp := Nat.pow_succ 2 j
        rcases List.mem_append.mp hx with hx | hx
        · have := h1 x hx; omega
        · have := List.eq_of_mem_replicate hx
          have := Nat.one_le_two_pow (n := j)
          omega
      have ht : tile no (pre ++ List.replicate (c - 2) (2 ^ j) ++ [2 * 2 ^ j]) = tile no ((pre ++ List.replicate (c - 2) (2 ^ j)) ++ List.replicate 1 (2 ^ (j + 1)) ++ []) := by
        rw [Nat.pow_succ, Nat.mul_comm (2 ^ j) 2]; simp
      have hp : ((2 * 2 ^ j : Nat) : Int) = ((2 ^ (j + 1) : Nat) : Int) := by rw [Nat.pow_succ, Nat.mul_comm]
      have hlen' : (tile no ((pre ++ List.replicate (c - 2) (2 ^ j)) ++ List.replicate 1 (2 ^ (j + 1)) ++ [])).length ≤ 10000 := by
        rw [tile_len]; simp only [List.length_append, List.length_replicate, List.length_nil]; omega
      simp only []
      rw [whileL_s, ht, hp, xtest C k r rb _ w3 _ _ _ _ (2 ^ (j + 1)) 1 hlen' (cnt_mid h1' (fun x hx => by cases hx)), ifB_b, if_neg (by simp; omega)]
      refine ⟨some (.int ((2 ^ (j + 1) : Nat) : Int)), p5, p6, p7, p8, ?_⟩
      have hcr : carry r.toNat c [] = [c - 2, 1] := by unfold carry; rw [if_pos (by omega)]
      rw [hcr]
      simp [sz]
    · rw [if_neg (by simpa using g)]
      refine ⟨some (.int ((2 ^ j : Nat) : Int)), o5, o6, o7, o8, ?_⟩
      have hcr : carry r.toNat c [] = [c] := by unfold carry; rw [if_neg (by omega)]
      rw [hcr]
      simp [sz]
  | cons c' cs ih =>
    intro j c fuel pre o5 o6 o7 o8 hf h1 hl
    obtain ⟨fuel, rfl⟩ : ∃ f, fuel = f + 1 := ⟨fuel - 1, by omega⟩
    have hp0 := Nat.pow_succ 2 j
    have hp1 := Nat.one_le_two_pow (n := j)
    have h2 : ∀ x ∈ sz (j + 1) (c' :: cs), 2 ^ j < x := fun x hx => by have := sz_ge _ _ x hx; omega
    have hlen : (tile no (pre ++ List.replicate c (2 ^ j) ++ sz (j + 1) (c' :: cs))).length ≤ 10000 := by
      rw [tile_len]; simp only [List.length_append, List.length_replicate]; omega
    rw [whileL_s, xtest C k r rb _ w3 _ _ _ _ (2 ^ j) c hlen (cnt_mid h1 h2), ifB_b]
    by_cases g : r < (c : Int)
    · obtain ⟨p5, p6, p7, p8, et⟩ := xturn C k r rb w3 no pre (sz (j + 1) (c' :: cs)) (2 ^ j) c o5 o6 o7 o8 h1 h2 (by omega) (by omega)
      rw [if_pos (decide_eq_true g), et, R.bind_ok]
      have h1' : ∀ x ∈ pre ++ List.replicate (c - 2) (2 ^ j), x < 2 ^ (j + 1) := by
        intro x hx
        rcases List.mem_append.mp hx with hx | hx
        · have := h1 x hx; omega
        · have := List.eq_of_mem_replicate hx
          omega
      have hl' : (pre ++ List.replicate (c - 2) (2 ^ j)).length + (c' + 1) + (sz (j + 1 + 1) cs).length ≤ 9000 := by
        simp only [sz, List.length_append, List.length_replicate] at hl ⊢
        omega
      obtain ⟨o4, q5, q6, q7, q8, e⟩ := ih (j + 1) (c' + 1) fuel (pre ++ List.replicate (c - 2) (2 ^ j)) p5 p6 p7 p8 (by simp only [List.length_cons] at hf; omega) h1' hl'
      have ht : tile no (pre ++ List.replicate (c - 2) (2 ^ j) ++ 2 * 2 ^ j :: sz (j + 1) (c' :: cs)) = tile no ((pre ++ List.replicate (c - 2) (2 ^ j)) ++ List.replicate (c' + 1) (2 ^ (j + 1)) ++ sz (j + 1 + 1) cs) := by
        rw [List.replicate_succ, sz, Nat.pow_succ, Nat.mul_comm (2 ^ j) 2]; simp
      have hp : ((2 * 2 ^ j : Nat) : Int) = ((2 ^ (j + 1) : Nat) : Int) := by rw [Nat.pow_succ, Nat.mul_comm]
      refine ⟨o4, q5, q6, q7, q8, ?_⟩
      simp only []
      rw [ht, hp]
      refine e.trans ?_
      have hcr : carry r.toNat c (c' :: cs) = (c - 2) :: carry r.toNat (c' + 1) cs := by
        rw [carry, if_pos (by omega)]
      rw [hcr, sz, List.append_assoc]
    · rw [if_neg (by simpa using g)]
      refine ⟨some (.int ((2 ^ j : Nat) : Int)), o5, o6, o7, o8, ?_⟩
      have hcr : carry r.toNat c (c' :: cs) = c :: c' :: cs := by
        rw [carry, if_neg (by omega)]
      rw [hcr, sz, List.append_assoc]
      rfl
end
end K65
end Ev
/-! P65n: the law's own heaps (2); its draws. -/
namespace Ev.K65
def gB : List S := [.ite (.cmp .eq (.ix (.var 1) (.var 3)) (.int 1))
     [.set 2 (.bin .add (.lst [.tup [.int 1, .var 3]]) (.var 2)),
      .set 4 (.int 1),
      .while_ xT xB]
     []]
section
variable (C : Calls) (k r : Nat) (rb : List Int) (r2 : 2 ≤ r)
include r2
theorem gturn (x : Int) (p : Nat) (hx : rb[p]? = some x) (st : List Nat × List Nat) (o4 : Option D) (o5 : Option (List D)) (o6 o7 o8 : Option D) (h : RunOk r p st) (hp : p < 200) : ∃ o4' o5' o6' o7' o8', evB L.T C gB k (Lt r rb (tile st.2 (sz 0 st.1)) (some (.d (.int p))) (dw o4) (lw o5) (dw o6) (dw o7) (dw o8))
    = .ok .nx (Lt r rb (tile (if x = 1 then (addC r st.1, p :: st.2) else st).2 (sz 0 (if x = 1 then (addC r st.1, p :: st.2) else st).1)) (some (.d (.int p))) (dw o4') (lw o5') (dw o6') (dw o7') (dw o8')) := by
  obtain ⟨cs, no⟩ := st
  have hno := h.len
  have hsum := h.sum
  have hlen := sz_len cs 0
  have hcl := okc_len r2 cs 0 h.ok
  simp only at hno hsum hlen hcl ⊢
  have ht : asT (evE L.T C (.cmp .eq (.ix (.var 1) (.var 3)) (.int 1)) k (Lt r rb (tile no (sz 0 cs)) (some (.d (.int p))) (dw o4) (lw o5) (dw o6) (dw o7) (dw o8))) = .ok (decide (x = 1)) (Lt r rb (tile no (sz 0 cs)) (some (.d (.int p))) (dw o4) (lw o5) (dw o6) (dw o7) (dw o8)) := by
    have hix : evE L.T C (.ix (.var 1) (.var 3)) k (Lt r rb (tile no (sz 0 cs)) (some (.d (.int p))) (dw o4) (lw o5) (dw o6) (dw o7) (dw o8)) = .ok (.d (.int x)) (Lt r rb (tile no (sz 0 cs)) (some (.d (.int p))) (dw o4) (lw o5) (dw o6) (dw o7) (dw o8)) := by
      show okd (at_ (rb.map D.int) (p : Int)) _ = _
      rw [at_nat, List.getElem?_map, hx]
      rfl
    rw [v_cmp, hix, R.bind_ok, v_int, R.bind_ok, rs_d, rs_d, cmp_eq_d, same_ii]
    rfl
  by_cases hx1 : x = 1
  · subst hx1
    simp only [if_true]
    have e1 : evS L.T C (.set 2 (.bin .add (.lst [.tup [.int 1, .var 3]]) (.var 2))) k (Lt r rb (tile no (sz 0 cs)) (some (.d (.int p))) (dw o4) (lw o5) (dw o6) (dw o7) (dw o8))
        = .ok .nx (Lt r rb (tile (p :: no) (1 :: sz 0 cs)) (some (.d (.int p))) (dw o4) (lw o5) (dw o6) (dw o7) (dw o8)) := by
      have a1 : evE L.T C (.bin .add (.lst [.tup [.int 1, .var 3]]) (.var 2)) k (Lt r rb (tile no (sz 0 cs)) (some (.d (.int p))) (dw o4) (lw o5) (dw o6) (dw o7) (dw o8)) = .ok (.L ((tile (p :: no) (1 :: sz 0 cs)).map encH)) (Lt r rb (tile no (sz 0 cs)) (some (.d (.int p))) (dw o4) (lw o5) (dw o6) (dw o7) (dw o8)) := by
        rw [v_bin]
        show oko (bin .add (.L [encH (1, p)]) (.L ((tile no (sz 0 cs)).map encH))) _ = _
        rw [add_L _ _ (by rw [List.length_map, tile_len]; show 1 + _ ≤ 16777216; omega)]
        rfl
      rw [v_set, a1]
      rfl
    have e2 : evS L.T C (.set 4 (.int 1)) k (Lt r rb (tile (p :: no) (1 :: sz 0 cs)) (some (.d (.int p))) (dw o4) (lw o5) (dw o6) (dw o7) (dw o8))
        = .ok .nx (Lt r rb (tile (p :: no) (1 :: sz 0 cs)) (some (.d (.int p))) (some (.d (.int ((2 ^ 0 : Nat) : Int)))) (lw o5) (dw o6) (dw o7) (dw o8)) := by
      rw [v_set, v_int, R.bind_ok, assign_d, store_dw _ 4 o4 _ rfl]
      rfl
    have hw : ∃ o4' o5' o6' o7' o8', whileL (fun ρ => asT (evE L.T C xT k ρ)) (evB L.T C xB k) big (Lt r rb (tile (p :: no) (1 :: sz 0 cs)) (some (.d (.int p))) (some (.d (.int ((2 ^ 0 : Nat) : Int)))) (lw o5) (dw o6) (dw o7) (dw o8))
        = .ok .nx (Lt r rb (tile (p :: no) (sz 0 (addC r cs))) (some (.d (.int p))) (dw o4') (lw o5') (dw o6') (dw o7') (dw o8')) := by
      have hb : big = 1048576 := rfl
      cases cs with
      | nil =>
        obtain ⟨o4', o5', o6', o7', o8', e⟩ := xloop C k (r : Int) rb (some (.d (.int p))) (by omega) (p :: no) [] 0 1 big [] o5 o6 o7 o8 (by simp; omega) (by simp) (by simp [sz])
        refine ⟨o4', o5', o6', o7', o8', ?_⟩
        have hc : carry (r : Int).toNat 1 [] = addC r [] := by
          unfold carry
          rw [if_neg (by omega)]; rfl
        rw [hc] at e
        exact e
      | cons c cs =>
        simp only [sz, List.length_append, List.length_replicate, List.length_cons] at hcl hlen
        simp only [sz] at hsum
        rw [hsum] at hlen
        obtain ⟨o4', o5', o6', o7', o8', e⟩ := xloop C k (r : Int) rb (some (.d (.int p))) (by omega) (p :: no) cs 0 (c + 1) big [] o5 o6 o7 o8 (by omega) (by simp) (by simp only [List.length_nil]; omega)
        refine ⟨o4', o5', o6', o7', o8', ?_⟩
        have hc : carry (r : Int).toNat (c + 1) cs = addC r (c :: cs) := by
          rw [Int.toNat_natCast]; rfl
        rw [hc] at e
        exact e
    obtain ⟨o4', o5', o6', o7', o8', hw⟩ := hw
    refine ⟨o4', o5', o6', o7', o8', ?_⟩
    unfold gB
    rw [v_bcons, v_if, ht, ifB_b, if_pos (decide_eq_true rfl), evB_nx e1, evB_nx e2, v_bcons, v_while, hw]
    rfl
  · rw [if_neg hx1]
    refine ⟨o4, o5, o6, o7, o8, ?_⟩
    unfold gB
    rw [v_bcons, v_if, ht, ifB_b, if_neg (by simpa using hx1)]
    rfl
theorem gloop (ρ0 : Ev) : ∀ (xs : List Int) (p : Nat) (st : List Nat × List Nat) (o3 o4 : Option D) (o5 : Option (List D)) (o6 o7 o8 : Option D), rb.drop p = xs → RunOk r p st → p + xs.length ≤ 200 → ∃ o3' o4' o5' o6' o7' o8',
    forL [] ρ0 (.nm 3) (evB L.T C gB k) ((List.range' p xs.length).map fun (i : Nat) => D.int (i : Int)) (Lt r rb (tile st.2 (sz 0 st.1)) (dw o3) (dw o4) (lw o5) (dw o6) (dw o7) (dw o8))
      = .ok .nx (Lt r rb (tile (run r xs p st).2 (sz 0 (run r xs p st).1)) (dw o3') (dw o4') (lw o5') (dw o6') (dw o7') (dw o8'))
  | [], p, st, o3, o4, o5, o6, o7, o8, hd, h, hp => ⟨o3, o4, o5, o6, o7, o8, rfl⟩
  | x :: xs, p, st, o3, o4, o5, o6, o7, o8, hd, h, hp => by
    rw [List.length_cons] at hp
    have hx : rb[p]? = some x := by
      have := congrArg (fun l : List Int => l[0]?) hd
      simpa [List.getElem?_drop] using this
    have hd' : rb.drop (p + 1) = xs := by
      have := congrArg (List.drop 1) hd
      simpa [List.drop_drop, Nat.add_comm] using this
    obtain ⟨p4, p5, p6, p7, p8, e⟩ := gturn C k r rb r2 x p hx st o4 o5 o6 o7 o8 h (by omega)
    have h' : RunOk r (p + 1) (if x = 1 then (addC r st.1, p :: st.2) else st) := by
      split
      · exact runOk_one r2 h
      · exact runOk_no h
    obtain ⟨q3, q4, q5, q6, q7, q8, e2⟩ := gloop ρ0 xs (p + 1) (if x = 1 then (addC r st.1, p :: st.2) else st) (some (.int p)) p4 p5 p6 p7 p8 hd' h' (by omega)
    refine ⟨q3, q4, q5, q6, q7, q8, ?_⟩
    have hb : bindT (.nm 3) (.int (p : Int)) (Lt r rb (tile st.2 (sz 0 st.1)) (dw o3) (dw o4) (lw o5) (dw o6) (dw o7) (dw o8)) = some (Lt r rb (tile st.2 (sz 0 st.1)) (some (.d (.int p))) (dw o4) (lw o5) (dw o6) (dw o7) (dw o8)) := by
      show store _ 3 _ = _
      rw [store_dw _ 3 o3 _ rfl]
      rfl
    rw [List.length_cons, List.range'_succ, List.map_cons]
    show (if stands ρ0 _ [] = true then R.opt (bindT _ (.int (p : Int)) _) _ else _) = _
    rw [if_pos (show stands ρ0 _ [] = true from rfl), hb, R.opt_some, e, R.bind_ok]
    exact e2
end
/-- _law_heaps -/
theorem t15 (r : Nat) (r2 : 2 ≤ r) (rb : List Int) (h : Rw rb) : DO 1 15 [.int r, dR rb] (.L ((hp_ r rb).map encH)) := .ofL d15 rfl _ _ rfl fun k hk => by
  have hlen := h.len
  obtain ⟨o3, o4, o5, o6, o7, o8, e⟩ := gloop (calls L.T L.ds k) k r rb r2 (Lt r rb [] none none none none none none) rb 0 ([], []) none none none none none none rfl ⟨trivial, rfl, .nil, fun x hx => by cases hx⟩ (by omega)
  refine ⟨2, Lt r rb (hp_ r rb) (dw o3) (dw o4) (lw o5) (dw o6) (dw o7) (dw o8), ?_, rfl, by simp⟩
  show evB L.T (calls L.T L.ds k) d15.body k [some (.d (.int r)), some (.d (dR rb)), none, none, none, none, none, none, none, none, none] = _
  have e1 : evS L.T (calls L.T L.ds k) (.set 2 (.lst [])) k [some (.d (.int r)), some (.d (dR rb)), none, none, none, none, none, none, none, none, none] = .ok .nx (Lt r rb [] none none none none none none) := rfl
  have e2 : evS L.T (calls L.T L.ds k) (.for_ (.nm 3) .rng [.blt .len [.var 1]] gB) k (Lt r rb [] none none none none none none) = .ok .nx (Lt r rb (hp_ r rb) (dw o3) (dw o4) (lw o5) (dw o6) (dw o7) (dw o8)) := by
    rw [v_for]
    have hi : iterF .rng (evL L.T (calls L.T L.ds k) [.blt .len [.var 1]] k (Lt r rb [] none none none none none none)) = .ok ((List.range' 0 rb.length).map fun (i : Nat) => D.int (i : Int), []) (Lt r rb [] none none none none none none) := by
      have e2 : evL L.T (calls L.T L.ds k) [.blt .len [.var 1]] k (Lt r rb [] none none none none none none) = .ok [.d (.int ((rb.map D.int).length : Int))] (Lt r rb [] none none none none none none) := rfl
      rw [e2, List.length_map, iter_rng1 _ _ (inR_sm _ (by omega) (by omega)), upTo_nat, List.range_eq_range']
    rw [hi, R.bind_ok]
    exact e
  unfold d15
  dsimp only
  rw [evB_nx e1]
  refine (evB_nx e2 _).trans ?_
  rfl
/-! ### draws -/
theorem drawW (a b hi : Int) (ha : 0 ≤ a) (hb : 0 ≤ b) (h0 : 0 < hi) (h1 : hi < 1000000) :
    ∃ a' b' r : Int, 0 ≤ a' ∧ 0 ≤ b' ∧ 0 ≤ r ∧ r < hi ∧ ∀ (m : Nat) (j : Nat) (p : Bool) (ρ : Ev), 1 ≤ m → ρ[j]? = some (some (.L p [.int a, .int b])) → callF (calls L.T L.ds m) m 13 [.bor j, .d (.int hi)] ρ = .ok (.d (.int r)) (ρ.set j (some (.L p [.int a', .int b']))) := by
  have s : sml 48271 = true := by decide
  have go : ∀ (k j : Nat) (p : Bool) (ρ : Ev) (a' b' r : Int) (w : Option W), ρ[j]? = some (some (.L p [.int a, .int b])) → evB L.T (calls L.T L.ds k) d13.body k ([some (.L true [.int a, .int b]), some (.d (.int hi))] ++ List.replicate d13.nl none) = .ok (.ret (.d (.int r))) [some (.L true [.int a', .int b']), some (.d (.int hi)), w] →
      callF (calls L.T L.ds (k + 1)) (k + 1) 13 [.bor j, .d (.int hi)] ρ = .ok (.d (.int r)) (ρ.set j (some (.L p [.int a', .int b']))) := fun k j p ρ a' b' r w hj he =>
    callF_gen L.T L.ds k 13 d13 rfl _ _ [some (.L true [.int a', .int b']), none] ρ _ _ _ (by simp [handL, hj]) rfl rfl he rfl (by simp [handB, hj])
  have h2 : hi < 1073741824 := by omega
  by_cases c : 0 < a
  · refine ⟨a / hi, b, a % hi, Int.ediv_nonneg ha (by omega), hb, Int.emod_nonneg _ (by omega), Int.emod_lt_of_pos _ h0, fun m j p ρ hm hj => ?_⟩
    obtain ⟨k, rfl⟩ : ∃ k, m = k + 1 := ⟨m - 1, by omega⟩
    refine go k j p ρ _ _ _ (some (.d (.int (a % hi)))) hj ?_
    simp [d13, varS, rs, index, ixSeq, items, c, store, free, h0, h2, isLM, setAt, place, blt, intF]
  · refine ⟨a, (b * 48271 + 12345) % 2147483647, ((b * 48271 + 12345) % 2147483647) / 64 % hi, ha, Int.emod_nonneg _ (by omega), Int.emod_nonneg _ (by omega), Int.emod_lt_of_pos _ h0, fun m j p ρ hm hj => ?_⟩
    obtain ⟨k, rfl⟩ : ∃ k, m = k + 1 := ⟨m - 1, by omega⟩
    refine go k j p ρ _ _ _ none hj ?_
    simp [d13, varS, rs, index, ixSeq, items, c, store, free, h0, h2, isLM, setAt, place, blt, intF, s]
theorem draw_w (a b hi : Int) (ha : 0 ≤ a) (hb : 0 ≤ b) (h0 : 0 < hi) (h1 : hi < 1000000) :
    ∃ a' b' r : Int, 0 ≤ a' ∧ 0 ≤ b' ∧ 0 ≤ r ∧ r < hi ∧ ∀ (m n : Nat) (j : Nat) (p : Bool) (ρ : Ev) (e : E), 1 ≤ n → n ≤ m → ρ[j]? = some (some (.L p [.int a, .int b])) → evE L.T (calls L.T L.ds m) e n ρ = .ok (.d (.int hi)) ρ →
      evE L.T (calls L.T L.ds m) (.call 13 [.var j, e]) n ρ = .ok (.d (.int r)) (ρ.set j (some (.L p [.int a', .int b']))) := by
  obtain ⟨a', b', r, x1, x2, x3, x4, x5⟩ := drawW a b hi ha hb h0 h1
  refine ⟨a', b', r, x1, x2, x3, x4, fun m n j p ρ e hn hm hj he => ?_⟩
  have hv : varS j ρ = .ok (.bor j) ρ := by unfold varS; rw [hj]
  rw [v_call, v_lcons, v_var, hv, R.bind_ok, v_lcons, he, R.bind_ok, v_lnil, R.bind_ok, R.bind_ok, R.bind_ok]
  rw [callF_le L.T L.ds hm]
  exact x5 n j p ρ hn hj
/-- the box -/
theorem stream_w (ns : List Int) : ∃ a b : Int, 0 ≤ a ∧ 0 ≤ b ∧ DO 2 12 [.lst (ns.map D.int), .int 0] (.L [.int a, .int b]) := by
  have cell : ∃ a : Int, DO 1 11 [.lst (ns.map D.int), .int 0] (.d (.int a)) := by
    cases h : ns[0]? with
    | none =>
      have hk := List.getElem?_eq_none_iff.mp h
      refine ⟨0, .of d11 rfl _ _ rfl fun k' _ => ?_⟩
      have g : ¬ (0 < ns.length) := by omega
      simp [d11, arg, varS, g]
    | some x =>
      obtain ⟨hk, _⟩ := List.getElem?_eq_some_iff.mp h
      refine ⟨x, .of d11 rfl _ _ rfl fun k' _ => ?_⟩
      have g : (0 < ns.length) := by omega
      have e := at_nat (ns.map D.int) 0
      simp only [List.getElem?_map, h] at e
      have e : at_ (ns.map D.int) 0 = some (.int x) := e
      simp [d11, arg, varS, g, e]
  obtain ⟨a, e⟩ := cell
  refine ⟨if a < 0 then -a else a, (if a < 0 then -a else a) % 1000003 + 7, by split <;> omega, ?_, .of d12 rfl _ _ rfl fun k' hk => ?_⟩
  · have := Int.emod_nonneg (if a < 0 then -a else a) (b := 1000003) (by omega)
    omega
  · have e := e k' (by omega)
    simp only [List.map_cons, List.map_nil] at e
    simp [d12, arg, varS, e]
end Ev.K65
/-! P65o: the windows (1). -/
namespace Ev.K65
abbrev SZ (r : Nat) (rb : List Int) : List Int := (sz 0 (cs_ r rb)).map fun (s : Nat) => (s : Int)
/-! ### plain -/
theorem pow_lt {i j : Nat} (h : i < j) : 2 ^ i < 2 ^ j := Nat.pow_lt_pow_right (by omega) h
theorem count_sz : ∀ (cs : List Nat) (j i : Nat), (sz j cs).count (2 ^ (j + i)) = cs.getD i 0
  | [], j, i => by simp [sz]
  | c :: cs, j, i => by
    simp only [sz, List.count_append]
    cases i with
    | zero =>
      rw [Nat.add_zero]
      have h0 : (sz (j + 1) cs).count (2 ^ j) = 0 := by
        rw [List.count_eq_zero]
        intro h
        have := sz_ge _ _ _ h
        have := pow_lt (show j < j + 1 by omega)
        omega
      rw [h0, Nat.add_zero, List.count_replicate_self]
      rfl
    | succ i =>
      have h0 : (List.replicate c (2 ^ j)).count (2 ^ (j + (i + 1))) = 0 := by
        rw [List.count_eq_zero]
        intro h
        have := List.eq_of_mem_replicate h
        have := pow_lt (show j < j + (i + 1) by omega)
        omega
      rw [h0, Nat.zero_add, show j + (i + 1) = j + 1 + i by omega, count_sz cs (j + 1) i]
      rfl
theorem okc_mid {r : Nat} : ∀ (cs : List Nat) (i : Nat), OkC r cs → i + 1 < cs.length → cs.getD i 0 = r - 1 ∨ cs.getD i 0 = r
  | [], i, _, h => by simp at h
  | [c], i, _, h => by simp at h
  | c :: c' :: cs, 0, h, _ => h.1
  | c :: c' :: cs, i + 1, h, hl => by
    have := okc_mid (c' :: cs) i h.2 (by simpa using hl)
    simpa using this
theorem okc_last {r : Nat} : ∀ (cs : List Nat), OkC r cs → cs ≠ [] → 1 ≤ cs.getD (cs.length - 1) 0 ∧ cs.getD (cs.length - 1) 0 ≤ r
  | [], _, h => absurd rfl h
  | [c], h, _ => h
  | c :: c' :: cs, h, _ => by
    have := okc_last (c' :: cs) h.2 (by simp)
    simpa using this
theorem sz_le : ∀ (cs : List Nat) (j x : Nat), x ∈ sz j cs → x ≤ 2 ^ (j + cs.length - 1)
  | [], j, x, h => by cases h
  | c :: cs, j, x, h => by
    simp only [sz, List.mem_append, List.mem_replicate] at h
    rw [List.length_cons, show j + (cs.length + 1) - 1 = j + cs.length by omega]
    rcases h with ⟨_, rfl⟩ | h
    · exact Nat.pow_le_pow_right (by omega) (by omega)
    · have := sz_le cs (j + 1) x h
      rwa [show j + 1 + cs.length - 1 = j + cs.length by omega] at this
theorem max_sz {r : Nat} (rb : List Int) (r2 : 2 ≤ r) (hne : cs_ r rb ≠ []) : blt .max [.L ((SZ r rb).map D.int)] = some (.d (.int ((2 ^ ((cs_ r rb).length - 1) : Nat) : Int))) := by
  have ok : OkC r (cs_ r rb) := (runOk r2 rb).ok
  have h1 := okc_last _ ok hne
  have h2 := count_sz (cs_ r rb) 0 ((cs_ r rb).length - 1)
  rw [Nat.zero_add] at h2
  refine max_is _ _ ?_ fun x hx => ?_
  · have : 2 ^ ((cs_ r rb).length - 1) ∈ sz 0 (cs_ r rb) := List.count_pos_iff.mp (by omega)
    exact List.mem_map_of_mem this
  · obtain ⟨y, hy, rfl⟩ := List.mem_map.mp hx
    have := sz_le _ _ _ hy
    rw [Nat.zero_add] at this
    omega
theorem ne_nil {r : Nat} (rb : List Int) (r2 : 2 ≤ r) : (SZ r rb = []) ↔ cs_ r rb = [] := by
  have ok : OkC r (cs_ r rb) := (runOk r2 rb).ok
  unfold SZ
  rw [List.map_eq_nil_iff]
  constructor
  · intro h
    cases hc : cs_ r rb with
    | nil => rfl
    | cons c cs =>
      rw [hc] at ok h
      have := okc_len r2 _ 0 ok
      rw [h] at this
      simp at this
  · intro h
    rw [h]; rfl

theorem bits_of : ∀ {xs ys : List D}, All2 (fun _ y => y = D.int 0 ∨ y = D.int 1) xs ys → ∃ rb : List Int, ys = rb.map D.int ∧ (∀ x ∈ rb, x = 0 ∨ x = 1) ∧ rb.length = xs.length
  | _, _, .nil => ⟨[], rfl, fun x hx => (by cases hx), rfl⟩
  | _, _, .cons q t => by
    obtain ⟨rb, e, h, l⟩ := bits_of t
    rcases q with rfl | rfl
    · exact ⟨0 :: rb, by rw [e]; rfl, fun x hx => by
        rcases List.mem_cons.mp hx with rfl | hx
        · exact .inl rfl
        · exact h x hx, by simp [l]⟩
    · exact ⟨1 :: rb, by rw [e]; rfl, fun x hx => by
        rcases List.mem_cons.mp hx with rfl | hx
        · exact .inr rfl
        · exact h x hx, by simp [l]⟩

theorem notin_two (c p q : Int) (h : c = p ∨ c = q) : cmp .notin (.d (.int c)) (.d (.tup [.int p, .int q])) = some false := by
  have l : lim (.int c) limit = true := lim_int c _
  have e : inO (.d (.int c)) (.d (.tup [.int p, .int q])) = some true := by
    show among (.int c) [.int p, .int q] = _
    unfold among
    rw [if_pos l]
    simp only [List.any_cons, List.any_nil, eqb]
    rcases h with rfl | rfl <;> simp
  show (inO (.d (.int c)) (.d (.tup [.int p, .int q]))).map (!·) = some false
  rw [e]
  rfl

theorem sz_mem : ∀ (cs : List Nat) (j x : Nat), x ∈ sz j cs → ∃ i, i < cs.length ∧ x = 2 ^ (j + i)
  | [], _, _, h => by cases h
  | c :: cs, j, x, h => by
    simp only [sz, List.mem_append, List.mem_replicate] at h
    rcases h with ⟨_, rfl⟩ | h
    · exact ⟨0, by simp, rfl⟩
    · obtain ⟨i, h1, h2⟩ := sz_mem cs (j + 1) x h
      exact ⟨i + 1, by simpa using h1, by rw [h2, show j + 1 + i = j + (i + 1) by omega]⟩
theorem sz_asc : ∀ (cs : List Nat) (j : Nat), (sz j cs).Pairwise (· ≤ ·)
  | [], _ => .nil
  | c :: cs, j => by
    simp only [sz]
    refine List.pairwise_append.mpr ⟨?_, sz_asc cs (j + 1), fun x hx y hy => ?_⟩
    · exact List.pairwise_replicate.mpr (.inr (Nat.le_refl _))
    · have := List.eq_of_mem_replicate hx
      have := sz_ge _ _ y hy
      have := pow_lt (show j < j + 1 by omega)
      omega
theorem SZ_sorted (r : Nat) (rb : List Int) : sortI (SZ r rb) = SZ r rb := by
  refine sorted_one (sortI_perm _) (sortI_sorted _) ?_
  refine List.pairwise_map.mpr ((sz_asc (cs_ r rb) 0).imp ?_)
  intro a b h
  omega
theorem SZ_sum {r : Nat} (r2 : 2 ≤ r) {rb : List Int} (hr : Rw rb) : (SZ r rb).sum = rb.sum := by
  have q := (runOk r2 rb).sum
  have q2 := ones_len r hr
  rw [nat_sum, q2]
  exact congrArg _ q
theorem SZ_len {r : Nat} (r2 : 2 ≤ r) {rb : List Int} (hr : Rw rb) : (SZ r rb).length ≤ 200 := by
  have c2 := hp_len r2 hr
  unfold hp_ at c2
  rw [tile_len] at c2
  rwa [List.length_map]
/-- what the heaps hold is small -/
theorem tile_snd : ∀ (ss no : List Nat) (x : Nat × Nat), x ∈ tile no ss → x.2 = 0 ∨ x.2 ∈ no
  | [], _, _, h => by cases h
  | s :: ss, no, x, h => by
    rcases List.mem_cons.mp h with rfl | h
    · cases no with
      | nil => exact .inl rfl
      | cons y no => exact .inr (by simp)
    · rcases tile_snd ss (no.drop s) x h with h | h
      · exact .inl h
      · exact .inr (List.mem_of_mem_drop h)
theorem mem_sum : ∀ (l : List Nat) (x : Nat), x ∈ l → x ≤ l.sum
  | [], _, h => by cases h
  | y :: l, x, h => by
    rw [List.sum_cons]
    rcases List.mem_cons.mp h with rfl | h
    · omega
    · have := mem_sum l x h
      omega
theorem hp_small {r : Nat} (r2 : 2 ≤ r) {rb : List Int} (hr : Rw rb) : ∀ x ∈ hp_ r rb, x.1 ≤ 200 ∧ x.2 ≤ 200 := by
  intro x hx
  have q := runOk r2 rb
  have ql := q.len
  have qs := q.sum
  have hl := hr.len
  constructor
  · have h1 : x.1 ∈ (hp_ r rb).map (·.1) := List.mem_map_of_mem hx
    unfold hp_ at h1
    rw [tile_fst] at h1
    have := mem_sum _ _ h1
    unfold cs_ at this
    omega
  · rcases tile_snd _ _ x hx with h | h
    · omega
    · have := q.desc.2 x.2 h
      omega
theorem wgts_le : ∀ (xs : List D) (c : Nat), (∀ x ∈ xs, wgt x ≤ c) → wgts xs ≤ xs.length * (c + 1)
  | [], _, _ => by simp [wgts]
  | x :: xs, c, h => by
    have h1 := h x (by simp)
    have h2 := wgts_le xs c fun y hy => h y (List.mem_cons_of_mem _ hy)
    simp only [wgts, List.length_cons]
    rw [Nat.add_mul]
    omega
theorem smals_of : ∀ (xs : List D), (∀ x ∈ xs, smal x = true) → smals xs = true
  | [], _ => rfl
  | x :: xs, h => by
    simp only [smals, Bool.and_eq_true]
    exact ⟨h x (by simp), smals_of xs fun y hy => h y (List.mem_cons_of_mem _ hy)⟩
/-- a tuple of few pairs of small ints may be shown -/
theorem shw_tup {α : Type} (l : List α) (enc : α → D) (hl : l.length ≤ 1000) (h : ∀ x ∈ l, ∃ a b : Int, enc x = .tup [.int a, .int b] ∧ -100000 ≤ a ∧ a ≤ 100000 ∧ -100000 ≤ b ∧ b ≤ 100000) : shw (.tup (l.map enc)) = true := by
  unfold shw
  simp only [Bool.and_eq_true, decide_eq_true_eq]
  refine ⟨lim_tup (n := 59) fun y hy => ?_, ?_, ?_⟩
  · obtain ⟨x, hx, rfl⟩ := List.mem_map.mp hy
    obtain ⟨a, b, e, _⟩ := h x hx
    rw [e]
    rfl
  · show smals (l.map enc) = true
    refine smals_of _ fun y hy => ?_
    obtain ⟨x, hx, rfl⟩ := List.mem_map.mp hy
    obtain ⟨a, b, e, h1, h2, h3, h4⟩ := h x hx
    rw [e]
    simp only [smal, smals, Bool.and_eq_true, decide_eq_true_eq, Bool.and_true]
    omega
  · show wgts (l.map enc) ≤ 1000000
    have := wgts_le (l.map enc) 82 fun y hy => by
      obtain ⟨x, hx, rfl⟩ := List.mem_map.mp hy
      obtain ⟨a, b, e, _⟩ := h x hx
      rw [e]
      show 40 + 1 + (40 + 1 + 0) ≤ 82
      omega
    rw [List.length_map] at this
    have : l.length * (82 + 1) ≤ 1000 * 83 := Nat.mul_le_mul hl (by omega)
    omega
/-- two of the same -/
theorem req_ok {C : Calls} {k : Nat} {ρ : Ev} {ne : Bool} {a b : E} {x : D} (ha : evE L.T C a k ρ = .ok (.d x) ρ) (hb : evE L.T C b k ρ = .ok (.d x) ρ) (hs : shw x = true) : evE L.T C (.req ne a b) k ρ = .ok (.d (.bl (!ne))) ρ := by
  have sh : shown (.d x) = some x := by
    show (some x).bind (fun d => if shw d = true then some d else none) = some x
    rw [Option.bind_some, if_pos hs]
  show R.bind (evE L.T C a k ρ) _ = _
  rw [ha, R.bind_ok]
  show R.opt (shown (.d x)) _ = _
  rw [sh, R.opt_some, hb, R.bind_ok]
  show R.opt (shown (.d x)) _ = _
  rw [sh, R.opt_some, if_pos (beq_refl x)]
abbrev Wf (a b : Int) (w1 w2 w3 w4 w5 w6 w7 w8 w9 w10 w11 w12 w13 w14 w15 w16 w17 : Option W) : Ev := [bx a b, w1, w2, w3, w4, w5, w6, w7, w8, w9, w10, w11, w12, w13, w14, w15, w16, w17]
section
variable (k : Nat) (hk : 10 ≤ k)
theorem w1 (hk : 10 ≤ k) (a b : Int) (ha : 0 ≤ a) (hb : 0 ≤ b) : ∃ (a' b' : Int) (r : Nat), 0 ≤ a' ∧ 0 ≤ b' ∧ 2 ≤ r ∧ r ≤ 5 ∧ evS L.T (calls L.T L.ds k) (.set 1 (.bin .add (.int 2) (.call 13 [.var 0, .int 4]))) k (Wf a b none none none none none none none none none none none none none none none none none) = .ok .nx (Wf a' b' (some (.d (.int (r : Int)))) none none none none none none none none none none none none none none none none) := by
  obtain ⟨a1, b1, n, x1, x2, x3, x4, e1⟩ := draw_w a b 4 ha hb (by omega) (by omega)
  have e1 := e1 k k 0 true (Wf a b none none none none none none none none none none none none none none none none none) (.int 4) (by omega) (Nat.le_refl _) rfl rfl
  have e1 : evE L.T (calls L.T L.ds k) (.call 13 [.var 0, .int 4]) k (Wf a b none none none none none none none none none none none none none none none none none) = .ok (.d (.int n)) (Wf a1 b1 none none none none none none none none none none none none none none none none none) := e1
  refine ⟨a1, b1, (2 + n).toNat, x1, x2, by omega, by omega, ?_⟩
  rw [v_set, v_bin, v_int, R.bind_ok, e1, R.bind_ok, rs_d, rs_d, bin_add_i, show (2 : Int) + n = (((2 + n).toNat : Nat) : Int) by omega]
  rfl
theorem w2 (hk : 10 ≤ k) (a b : Int) (ha : 0 ≤ a) (hb : 0 ≤ b) (r : Nat) : ∃ (a' b' dn : Int), 0 ≤ a' ∧ 0 ≤ b' ∧ 1 ≤ dn ∧ dn ≤ 3 ∧ evS L.T (calls L.T L.ds k) (.set 2 (.bin .add (.int 1) (.call 13 [.var 0, .int 3]))) k (Wf a b (some (.d (.int (r : Int)))) none none none none none none none none none none none none none none none none) = .ok .nx (Wf a' b' (some (.d (.int (r : Int)))) (some (.d (.int dn))) none none none none none none none none none none none none none none none) := by
  obtain ⟨a1, b1, n, x1, x2, x3, x4, e1⟩ := draw_w a b 3 ha hb (by omega) (by omega)
  have e1 := e1 k k 0 true (Wf a b (some (.d (.int (r : Int)))) none none none none none none none none none none none none none none none none) (.int 3) (by omega) (Nat.le_refl _) rfl rfl
  have e1 : evE L.T (calls L.T L.ds k) (.call 13 [.var 0, .int 3]) k (Wf a b (some (.d (.int (r : Int)))) none none none none none none none none none none none none none none none none) = .ok (.d (.int n)) (Wf a1 b1 (some (.d (.int (r : Int)))) none none none none none none none none none none none none none none none none) := e1
  refine ⟨a1, b1, 1 + n, x1, x2, by omega, by omega, ?_⟩
  rw [v_set, v_bin, v_int, R.bind_ok, e1]
  rfl
theorem w3 (hk : 10 ≤ k) (a b : Int) (ha : 0 ≤ a) (hb : 0 ≤ b) (r : Nat) (dn : Int) (d1 : 1 ≤ dn) (d3 : dn ≤ 3) : ∃ (a' b' : Int) (rb : List Int), 0 ≤ a' ∧ 0 ≤ b' ∧ Rw rb ∧ rb.length ≤ 60 ∧ evS L.T (calls L.T L.ds k) (.set 3 (.blt .tuple [.comp (.blt .int [.cmp .gt (.call 13 [.var 0, .bin .add (.int 1) (.var 2)]) (.int 0)]) (.nm 15) .rng [.call 13 [.var 0, .int 60]] [] [15]])) k (Wf a b (some (.d (.int (r : Int)))) (some (.d (.int dn))) none none none none none none none none none none none none none none none) = .ok .nx (Wf a' b' (some (.d (.int (r : Int)))) (some (.d (.int dn))) (some (.d (dR rb))) none none none none none none none none none none none none none none) := by
  obtain ⟨a1, b1, n, x1, x2, x3, x4, e1⟩ := draw_w a b 60 ha hb (by omega) (by omega)
  have e1 := e1 k k 0 true (Wf a b (some (.d (.int (r : Int)))) (some (.d (.int dn))) none none none none none none none none none none none none none none none) (.int 60) (by omega) (Nat.le_refl _) rfl rfl
  have e1 : evE L.T (calls L.T L.ds k) (.call 13 [.var 0, .int 60]) k (Wf a b (some (.d (.int (r : Int)))) (some (.d (.int dn))) none none none none none none none none none none none none none none none) = .ok (.d (.int n)) (Wf a1 b1 (some (.d (.int (r : Int)))) (some (.d (.int dn))) none none none none none none none none none none none none none none none) := e1
  obtain ⟨ys, ρ', e2, ⟨a2, b2, z1, z2, rfl⟩, q⟩ := comp_inv L.T (calls L.T L.ds k) k (Wf a b (some (.d (.int (r : Int)))) (some (.d (.int dn))) none none none none none none none none none none none none none none none) (Wf a1 b1 (some (.d (.int (r : Int)))) (some (.d (.int dn))) none none none none none none none none none none none none none none none) (.blt .int [.cmp .gt (.call 13 [.var 0, .bin .add (.int 1) (.var 2)]) (.int 0)]) (.nm 15) .rng [.call 13 [.var 0, .int 60]] [15] [] (upTo 0 n)
    (fun ρ => ∃ a b : Int, 0 ≤ a ∧ 0 ≤ b ∧ ρ = (Wf a b (some (.d (.int (r : Int)))) (some (.d (.int dn))) none none none none none none none none none none none none none none none)) (fun _ y => y = D.int 0 ∨ y = D.int 1)
    (by rw [v_lcons, e1, R.bind_ok, v_lnil, R.bind_ok]; exact iter_rng1 _ _ (inR_sm _ (by omega) (by omega)))
    ⟨a1, b1, x1, x2, rfl⟩ (fun _ _ => rfl) (by rw [upTo_len]; show _ ≤ 16777216; omega) (by
      rintro x hx ρ ⟨a, b, ha, hb, rfl⟩
      obtain ⟨i, _, rfl⟩ := mem_upTo hx
      obtain ⟨a1, b1, v, x1, x2, x3, x4, e1⟩ := draw_w a b (1 + dn) ha hb (by omega) (by omega)
      have e1 := e1 k k 0 true [bx a b, some (.d (.int (r : Int))), some (.d (.int dn)), none, none, none, none, none, none, none, none, none, none, none, none, some (.d (.int (0 + i))), none, none] (.bin .add (.int 1) (.var 2)) (by omega) (Nat.le_refl _) rfl rfl
      refine ⟨[bx a b, some (.d (.int (r : Int))), some (.d (.int dn)), none, none, none, none, none, none, none, none, none, none, none, none, some (.d (.int (0 + i))), none, none], .d (.int (if decide (0 < v) = true then 1 else 0)), [bx a1 b1, some (.d (.int (r : Int))), some (.d (.int dn)), none, none, none, none, none, none, none, none, none, none, none, none, some (.d (.int (0 + i))), none, none], .int (if decide (0 < v) = true then 1 else 0), [bx a1 b1, some (.d (.int (r : Int))), some (.d (.int dn)), none, none, none, none, none, none, none, none, none, none, none, none, some (.d (.int (0 + i))), none, none], rfl, ?_, rfl, ⟨a1, b1, x1, x2, rfl⟩, ?_⟩
      · rw [v_blt, v_lcons, v_cmp, e1]
        rfl
      · by_cases g : 0 < v
        · simp [g]
        · simp [g])
  obtain ⟨rb, rfl, h1, h2⟩ := bits_of q
  rw [upTo_len] at h2
  refine ⟨a2, b2, rb, z1, z2, ⟨by omega, h1⟩, by omega, ?_⟩
  rw [v_set, v_blt, v_lcons, e2]
  rfl
end
section
variable (k : Nat) (hk : 10 ≤ k) (a b : Int) (r : Nat) (r2 : 2 ≤ r) (r5 : r ≤ 5) (rb : List Int) (hr : Rw rb) (w2 : Option W)
include hk r2 r5 hr
theorem w4 : evS L.T (calls L.T L.ds k) (.set 4 (.call 15 [.var 1, .var 3])) k (Wf a b (some (.d (.int (r : Int)))) w2 (some (.d (dR rb))) none none none none none none none none none none none none none none) = .ok .nx (Wf a b (some (.d (.int (r : Int)))) w2 (some (.d (dR rb))) (some (.L false ((hp_ r rb).map encH))) none none none none none none none none none none none none none) := by
  have e15 := t15 r r2 rb hr k (by omega)
  simp only [List.map_cons, List.map_nil] at e15
  rw [v_set, v_call]
  show R.bind (R.bind (R.ok [O.d (.int r), O.d (dR rb)] _) _) _ = _
  rw [R.bind_ok, e15]
  rfl
theorem w5 : evS L.T (calls L.T L.ds k) (.ite (.req true (.call 5 [.var 1, .var 3]) (.blt .tuple [.var 4]))
   [.ret (.bl false)]
   []) k (Wf a b (some (.d (.int (r : Int)))) w2 (some (.d (dR rb))) (some (.L false ((hp_ r rb).map encH))) none none none none none none none none none none none none none) = .ok .nx (Wf a b (some (.d (.int (r : Int)))) w2 (some (.d (dR rb))) (some (.L false ((hp_ r rb).map encH))) none none none none none none none none none none none none none) := by
  have e5 := t5 r r2 (by omega) rb hr k (by omega)
  simp only [List.map_cons, List.map_nil] at e5
  have ea : evE L.T (calls L.T L.ds k) (.call 5 [.var 1, .var 3]) k (Wf a b (some (.d (.int (r : Int)))) w2 (some (.d (dR rb))) (some (.L false ((hp_ r rb).map encH))) none none none none none none none none none none none none none) = .ok (.d (.tup ((hp_ r rb).map encH))) (Wf a b (some (.d (.int (r : Int)))) w2 (some (.d (dR rb))) (some (.L false ((hp_ r rb).map encH))) none none none none none none none none none none none none none) := by
    rw [v_call]
    show R.bind (R.ok [O.d (.int r), O.d (dR rb)] _) _ = _
    rw [R.bind_ok, e5]
  have eb : evE L.T (calls L.T L.ds k) (.blt .tuple [.var 4]) k (Wf a b (some (.d (.int (r : Int)))) w2 (some (.d (dR rb))) (some (.L false ((hp_ r rb).map encH))) none none none none none none none none none none none none none) = .ok (.d (.tup ((hp_ r rb).map encH))) (Wf a b (some (.d (.int (r : Int)))) w2 (some (.d (dR rb))) (some (.L false ((hp_ r rb).map encH))) none none none none none none none none none none none none none) := rfl
  have hs : shw (.tup ((hp_ r rb).map encH)) = true := by
    refine shw_tup _ _ (by have := hp_len r2 hr; omega) fun x hx => ?_
    obtain ⟨h1, h2⟩ := hp_small r2 hr x hx
    exact ⟨x.1, x.2, rfl, by omega, by omega, by omega, by omega⟩
  rw [v_if, req_ok ea eb hs]
  rfl
end
end Ev.K65
/-! P65p: the windows (2): the sizes. -/
namespace Ev.K65
def yT : E := .andL [.cmp .ne (.var 5) (.lst []), .cmp .lt (.var 6) (.blt .max [.var 5])]
def yB : List S := [.ite (.cmp .notin (.var 6) (.var 5))
     [.ret (.bl false)]
     [],
    .set 6 (.bin .mul (.int 2) (.var 6))]
theorem flt_count (l : List Int) (x : Int) : (l.filter fun y => y == x).length = l.count x := by
  induction l with
  | nil => rfl
  | cons y ys ih =>
    rw [List.filter_cons, List.count_cons]
    by_cases h : (y == x) = true
    · rw [if_pos h, if_pos h, List.length_cons, ih]
    · rw [if_neg h, if_neg h, ih, Nat.add_zero]
theorem srt_ints (l : List Int) : blt .sorted [.L (l.map D.int)] = some (.L ((sortI l).map D.int)) := by
  show (intsOf (l.map D.int)).bind (fun ns => some (O.L ((sortI ns).map .int))) = _
  rw [intsOf_ints]
  rfl
section
variable (k : Nat) (hk : 10 ≤ k) (a b : Int) (r : Nat) (r2 : 2 ≤ r) (r5 : r ≤ 5) (rb : List Int) (hr : Rw rb) (w2 : Option W)
include r2 hr
theorem q6 : evS L.T (calls L.T L.ds k) (.set 5 (.comp (.var 6) (.tp [.nm 6, .nm 16]) .seq [.var 4] [] [6, 16])) k (Wf a b (some (.d (.int (r : Int)))) w2 (some (.d (dR rb))) (some (.L false ((hp_ r rb).map encH))) none none none none none none none none none none none none none) = .ok .nx (Wf a b (some (.d (.int (r : Int)))) w2 (some (.d (dR rb))) (some (.L false ((hp_ r rb).map encH))) (some (.L false ((SZ r rb).map D.int))) none none none none none none none none none none none none) := by
  have hl := hp_len r2 hr
  have hc : evE L.T (calls L.T L.ds k) (.comp (.var 6) (.tp [.nm 6, .nm 16]) .seq [.var 4] [] [6, 16]) k (Wf a b (some (.d (.int (r : Int)))) w2 (some (.d (dR rb))) (some (.L false ((hp_ r rb).map encH))) none none none none none none none none none none none none none) = .ok (.L ((hp_ r rb).map fun h => .int h.1)) (Wf a b (some (.d (.int (r : Int)))) w2 (some (.d (dR rb))) (some (.L false ((hp_ r rb).map encH))) none none none none none none none none none none none none none) := by
    refine comp_map _ _ _ _ _ _ _ _ _ [4] (hp_ r rb) encH _ rfl (by simp [stands, wipe, beqs_refl]) rfl (by show _ ≤ 16777216; omega) ?_
    intro h _
    exact ⟨[bx a b, some (.d (.int (r : Int))), w2, some (.d (dR rb)), some (.L false ((hp_ r rb).map encH)), none, some (.d (.int h.1)), none, none, none, none, none, none, none, none, none, some (.d (.int h.2)), none], rfl, rfl, .d (.int h.1), rfl, rfl⟩
  have he : ((hp_ r rb).map fun h => D.int h.1) = (SZ r rb).map D.int := by
    rw [List.map_map, ← tile_fst (sz 0 (cs_ r rb)) (no_ r rb), List.map_map]
    rfl
  rw [v_set, hc, he]
  rfl
theorem q7 : evS L.T (calls L.T L.ds k) (.ite (.orL [.cmp .ne (.var 5) (.blt .sorted [.var 5]), .cmp .ne (.blt .sum [.var 5]) (.blt .sum [.var 3])])
   [.ret (.bl false)]
   []) k (Wf a b (some (.d (.int (r : Int)))) w2 (some (.d (dR rb))) (some (.L false ((hp_ r rb).map encH))) (some (.L false ((SZ r rb).map D.int))) none none none none none none none none none none none none) = .ok .nx (Wf a b (some (.d (.int (r : Int)))) w2 (some (.d (dR rb))) (some (.L false ((hp_ r rb).map encH))) (some (.L false ((SZ r rb).map D.int))) none none none none none none none none none none none none) := by
  have c1 : evE L.T (calls L.T L.ds k) (.cmp .ne (.var 5) (.blt .sorted [.var 5])) k (Wf a b (some (.d (.int (r : Int)))) w2 (some (.d (dR rb))) (some (.L false ((hp_ r rb).map encH))) (some (.L false ((SZ r rb).map D.int))) none none none none none none none none none none none none) = .ok (.d (.bl false)) (Wf a b (some (.d (.int (r : Int)))) w2 (some (.d (dR rb))) (some (.L false ((hp_ r rb).map encH))) (some (.L false ((SZ r rb).map D.int))) none none none none none none none none none none none none) := by
    have v1 : evE L.T (calls L.T L.ds k) (.blt .sorted [.var 5]) k (Wf a b (some (.d (.int (r : Int)))) w2 (some (.d (dR rb))) (some (.L false ((hp_ r rb).map encH))) (some (.L false ((SZ r rb).map D.int))) none none none none none none none none none none none none) = .ok (.L ((SZ r rb).map D.int)) (Wf a b (some (.d (.int (r : Int)))) w2 (some (.d (dR rb))) (some (.L false ((hp_ r rb).map encH))) (some (.L false ((SZ r rb).map D.int))) none none none none none none none none none none none none) := by
      show oko (blt .sorted [.L ((SZ r rb).map D.int)]) _ = _
      rw [srt_ints, SZ_sorted]
      rfl
    rw [v_cmp, v_var]
    show R.bind (R.ok (O.bor 5) _) _ = _
    rw [R.bind_ok, v1, R.bind_ok]
    show okb ((eqO (.L ((SZ r rb).map D.int)) (.L ((SZ r rb).map D.int))).map (!·)) _ = _
    rw [eqO_ints, decide_eq_true rfl]
    rfl
  have c2 : evE L.T (calls L.T L.ds k) (.cmp .ne (.blt .sum [.var 5]) (.blt .sum [.var 3])) k (Wf a b (some (.d (.int (r : Int)))) w2 (some (.d (dR rb))) (some (.L false ((hp_ r rb).map encH))) (some (.L false ((SZ r rb).map D.int))) none none none none none none none none none none none none) = .ok (.d (.bl false)) (Wf a b (some (.d (.int (r : Int)))) w2 (some (.d (dR rb))) (some (.L false ((hp_ r rb).map encH))) (some (.L false ((SZ r rb).map D.int))) none none none none none none none none none none none none) := by
    have v1 : evE L.T (calls L.T L.ds k) (.blt .sum [.var 5]) k (Wf a b (some (.d (.int (r : Int)))) w2 (some (.d (dR rb))) (some (.L false ((hp_ r rb).map encH))) (some (.L false ((SZ r rb).map D.int))) none none none none none none none none none none none none) = .ok (.d (.int rb.sum)) (Wf a b (some (.d (.int (r : Int)))) w2 (some (.d (dR rb))) (some (.L false ((hp_ r rb).map encH))) (some (.L false ((SZ r rb).map D.int))) none none none none none none none none none none none none) := by
      show oko (blt .sum [.L ((SZ r rb).map D.int)]) _ = _
      rw [sum_ints, SZ_sum r2 hr]
      rfl
    have v2 : evE L.T (calls L.T L.ds k) (.blt .sum [.var 3]) k (Wf a b (some (.d (.int (r : Int)))) w2 (some (.d (dR rb))) (some (.L false ((hp_ r rb).map encH))) (some (.L false ((SZ r rb).map D.int))) none none none none none none none none none none none none) = .ok (.d (.int rb.sum)) (Wf a b (some (.d (.int (r : Int)))) w2 (some (.d (dR rb))) (some (.L false ((hp_ r rb).map encH))) (some (.L false ((SZ r rb).map D.int))) none none none none none none none none none none none none) := by
      show oko ((intsOf (rb.map D.int)).map fun ns => O.d (.int ns.sum)) _ = _
      rw [intsOf_ints]
      rfl
    rw [v_cmp, v1, R.bind_ok, v2, R.bind_ok, rs_d, cmp_ne_d, same_refl rfl]
    rfl
  rw [v_if, v_or, v_ao2, c1, onB_b, if_neg (by decide), v_ao1, c2]
  rfl
theorem mxW (hne : cs_ r rb ≠ []) (w6 w17 : Option W) : evE L.T (calls L.T L.ds k) (.blt .max [.var 5]) k (Wf a b (some (.d (.int (r : Int)))) w2 (some (.d (dR rb))) (some (.L false ((hp_ r rb).map encH))) (some (.L false ((SZ r rb).map D.int))) w6 none none none none none none none none none none w17) = .ok (.d (.int ((2 ^ ((cs_ r rb).length - 1) : Nat) : Int))) (Wf a b (some (.d (.int (r : Int)))) w2 (some (.d (dR rb))) (some (.L false ((hp_ r rb).map encH))) (some (.L false ((SZ r rb).map D.int))) w6 none none none none none none none none none none w17) := by
  show oko (blt .max [.L ((SZ r rb).map D.int)]) _ = _
  rw [max_sz rb r2 hne]
  rfl
theorem q8 : evS L.T (calls L.T L.ds k) (.ite (.blt .any [.comp (.cmp .notin (.blt .len [.comp (.var 17) (.nm 17) .seq [.var 5] [.cmp .eq (.var 17) (.var 6)] [17]]) (.tup [.bin .sub (.var 1) (.int 1), .var 1])) (.nm 6) .seq [.var 5] [.cmp .lt (.var 6) (.blt .max [.var 5])] [6]])
   [.ret (.bl false)]
   []) k (Wf a b (some (.d (.int (r : Int)))) w2 (some (.d (dR rb))) (some (.L false ((hp_ r rb).map encH))) (some (.L false ((SZ r rb).map D.int))) none none none none none none none none none none none none) = .ok .nx (Wf a b (some (.d (.int (r : Int)))) w2 (some (.d (dR rb))) (some (.L false ((hp_ r rb).map encH))) (some (.L false ((SZ r rb).map D.int))) none none none none none none none none none none none none) := by
  have hl := SZ_len r2 hr
  have ok : OkC r (cs_ r rb) := (runOk r2 rb).ok
  have hc : evE L.T (calls L.T L.ds k) (.comp (.cmp .notin (.blt .len [.comp (.var 17) (.nm 17) .seq [.var 5] [.cmp .eq (.var 17) (.var 6)] [17]]) (.tup [.bin .sub (.var 1) (.int 1), .var 1])) (.nm 6) .seq [.var 5] [.cmp .lt (.var 6) (.blt .max [.var 5])] [6]) k (Wf a b (some (.d (.int (r : Int)))) w2 (some (.d (dR rb))) (some (.L false ((hp_ r rb).map encH))) (some (.L false ((SZ r rb).map D.int))) none none none none none none none none none none none none) = .ok (.L (((SZ r rb).filter fun x => decide (x < ((2 ^ ((cs_ r rb).length - 1) : Nat) : Int))).map fun _ => D.bl false)) (Wf a b (some (.d (.int (r : Int)))) w2 (some (.d (dR rb))) (some (.L false ((hp_ r rb).map encH))) (some (.L false ((SZ r rb).map D.int))) none none none none none none none none none none none none) := by
    refine comp_enc _ _ _ _ _ _ _ _ _ _ [5] (SZ r rb) D.int _ (fun _ => D.bl false) rfl (by simp [stands, wipe, beqs_refl]) rfl (by show _ ≤ 16777216; omega) ?_
    intro x hx
    have hne : cs_ r rb ≠ [] := by
      intro e
      have : SZ r rb = [] := (ne_nil rb r2).mpr e
      rw [this] at hx
      cases hx
    have hm := mxW k a b r r2 rb hr w2 hne (some (.d (.int x))) none
    refine ⟨[bx a b, some (.d (.int (r : Int))), w2, some (.d (dR rb)), some (.L false ((hp_ r rb).map encH)), some (.L false ((SZ r rb).map D.int)), some (.d (.int x)), none, none, none, none, none, none, none, none, none, none, none], rfl, rfl, ?_, fun hp => ⟨.d (.bl false), ?_, rfl⟩⟩
    · have t : evE L.T (calls L.T L.ds k) (.cmp .lt (.var 6) (.blt .max [.var 5])) k (Wf a b (some (.d (.int (r : Int)))) w2 (some (.d (dR rb))) (some (.L false ((hp_ r rb).map encH))) (some (.L false ((SZ r rb).map D.int))) (some (.d (.int x))) none none none none none none none none none none none) = .ok (.d (.bl (decide (x < ((2 ^ ((cs_ r rb).length - 1) : Nat) : Int))))) (Wf a b (some (.d (.int (r : Int)))) w2 (some (.d (dR rb))) (some (.L false ((hp_ r rb).map encH))) (some (.L false ((SZ r rb).map D.int))) (some (.d (.int x))) none none none none none none none none none none none) := by
        rw [v_cmp, v_var]
        show R.bind (R.ok (O.d (.int x)) _) _ = _
        rw [R.bind_ok, hm]
        rfl
      rw [v_tcons]
      refine (congrArg (fun z => ifB (asT z) _ _) t).trans ?_
      cases decide (x < ((2 ^ ((cs_ r rb).length - 1) : Nat) : Int)) <;> rfl
    · have hp := of_decide_eq_true hp
      have hin : evE L.T (calls L.T L.ds k) (.comp (.var 17) (.nm 17) .seq [.var 5] [.cmp .eq (.var 17) (.var 6)] [17]) k (Wf a b (some (.d (.int (r : Int)))) w2 (some (.d (dR rb))) (some (.L false ((hp_ r rb).map encH))) (some (.L false ((SZ r rb).map D.int))) (some (.d (.int x))) none none none none none none none none none none none) = .ok (.L (((SZ r rb).filter fun y => y == x).map D.int)) (Wf a b (some (.d (.int (r : Int)))) w2 (some (.d (dR rb))) (some (.L false ((hp_ r rb).map encH))) (some (.L false ((SZ r rb).map D.int))) (some (.d (.int x))) none none none none none none none none none none none) := by
        refine comp_enc _ _ _ _ _ _ _ _ _ _ [5] (SZ r rb) D.int _ D.int rfl (by simp [stands, wipe, beqs_refl]) rfl (by show _ ≤ 16777216; omega) ?_
        intro y _
        refine ⟨[bx a b, some (.d (.int (r : Int))), w2, some (.d (dR rb)), some (.L false ((hp_ r rb).map encH)), some (.L false ((SZ r rb).map D.int)), some (.d (.int x)), none, none, none, none, none, none, none, none, none, none, some (.d (.int y))], rfl, rfl, ?_, fun _ => ⟨.d (.int y), rfl, rfl⟩⟩
        simp [varS, ifB_end]
      obtain ⟨s, hs, rfl⟩ := List.mem_map.mp hx
      obtain ⟨i, hi, rfl⟩ := sz_mem _ _ _ hs
      rw [Nat.zero_add] at hp hin ⊢
      have hi2 : i + 1 < (cs_ r rb).length := by
        rcases Nat.lt_or_ge i ((cs_ r rb).length - 1) with z | z
        · omega
        · have := Nat.pow_le_pow_right (show 0 < 2 by omega) z
          omega
      have hmid := okc_mid _ i ok hi2
      have hct : ((SZ r rb).filter fun y => y == ((2 ^ i : Nat) : Int)).length = (cs_ r rb).getD i 0 := by
        have d := count_sz (cs_ r rb) 0 i
        rw [Nat.zero_add] at d
        rw [flt_count, count_cast, d]
      have hlen : evE L.T (calls L.T L.ds k) (.blt .len [.comp (.var 17) (.nm 17) .seq [.var 5] [.cmp .eq (.var 17) (.var 6)] [17]]) k (Wf a b (some (.d (.int (r : Int)))) w2 (some (.d (dR rb))) (some (.L false ((hp_ r rb).map encH))) (some (.L false ((SZ r rb).map D.int))) (some (.d (.int ((2 ^ i : Nat) : Int)))) none none none none none none none none none none none) = .ok (.d (.int (((cs_ r rb).getD i 0 : Nat) : Int))) (Wf a b (some (.d (.int (r : Int)))) w2 (some (.d (dR rb))) (some (.L false ((hp_ r rb).map encH))) (some (.L false ((SZ r rb).map D.int))) (some (.d (.int ((2 ^ i : Nat) : Int)))) none none none none none none none none none none none) := by
        rw [v_blt, v_lcons, hin, R.bind_ok, v_lnil, R.bind_ok, R.bind_ok]
        show oko (blt .len [.L _]) _ = _
        rw [len_L, List.length_map, hct]
        rfl
      show evE L.T _ (.cmp .notin (.blt .len [.comp (.var 17) (.nm 17) .seq [.var 5] [.cmp .eq (.var 17) (.var 6)] [17]]) (.tup [.bin .sub (.var 1) (.int 1), .var 1])) k (Wf a b (some (.d (.int (r : Int)))) w2 (some (.d (dR rb))) (some (.L false ((hp_ r rb).map encH))) (some (.L false ((SZ r rb).map D.int))) (some (.d (.int ((2 ^ i : Nat) : Int)))) none none none none none none none none none none none) = _
      rw [v_cmp, hlen, R.bind_ok]
      show okb (cmp .notin (.d (.int (((cs_ r rb).getD i 0 : Nat) : Int))) (.d (.tup [.int ((r : Int) - 1), .int (r : Int)]))) _ = _
      rw [notin_two _ _ _ (by rcases hmid with h | h <;> omega)]
      rfl
  have ha := any_enc ((SZ r rb).filter fun x => decide (x < ((2 ^ ((cs_ r rb).length - 1) : Nat) : Int))) (fun _ => false)
  have hf : (((SZ r rb).filter fun x => decide (x < ((2 ^ ((cs_ r rb).length - 1) : Nat) : Int))).any fun _ => false) = false := by
    rw [List.any_eq_false]
    intro x _ h
    cases h
  rw [hf] at ha
  have hx : evE L.T (calls L.T L.ds k) (.blt .any [.comp (.cmp .notin (.blt .len [.comp (.var 17) (.nm 17) .seq [.var 5] [.cmp .eq (.var 17) (.var 6)] [17]]) (.tup [.bin .sub (.var 1) (.int 1), .var 1])) (.nm 6) .seq [.var 5] [.cmp .lt (.var 6) (.blt .max [.var 5])] [6]]) k (Wf a b (some (.d (.int (r : Int)))) w2 (some (.d (dR rb))) (some (.L false ((hp_ r rb).map encH))) (some (.L false ((SZ r rb).map D.int))) none none none none none none none none none none none none) = .ok (.d (.bl false)) (Wf a b (some (.d (.int (r : Int)))) w2 (some (.d (dR rb))) (some (.L false ((hp_ r rb).map encH))) (some (.L false ((SZ r rb).map D.int))) none none none none none none none none none none none none) := by
    rw [v_blt, v_lcons, hc, R.bind_ok, v_lnil, R.bind_ok, R.bind_ok]
    show oko (blt .any [.L _]) _ = _
    rw [ha]
    rfl
  rw [v_if, hx]
  rfl
end
section
variable (k : Nat) (a b : Int) (r : Nat) (r2 : 2 ≤ r) (rb : List Int) (hr : Rw rb) (w2 : Option W)
theorem q9 : evS L.T (calls L.T L.ds k) (.set 6 (.int 1)) k (Wf a b (some (.d (.int (r : Int)))) w2 (some (.d (dR rb))) (some (.L false ((hp_ r rb).map encH))) (some (.L false ((SZ r rb).map D.int))) none none none none none none none none none none none none) = .ok .nx (Wf a b (some (.d (.int (r : Int)))) w2 (some (.d (dR rb))) (some (.L false ((hp_ r rb).map encH))) (some (.L false ((SZ r rb).map D.int))) (some (.d (.int ((2 ^ 0 : Nat) : Int)))) none none none none none none none none none none none) := rfl
include r2 hr
theorem ytest (hne : cs_ r rb ≠ []) (i : Nat) : asT (evE L.T (calls L.T L.ds k) yT k (Wf a b (some (.d (.int (r : Int)))) w2 (some (.d (dR rb))) (some (.L false ((hp_ r rb).map encH))) (some (.L false ((SZ r rb).map D.int))) (some (.d (.int ((2 ^ i : Nat) : Int)))) none none none none none none none none none none none)) = .ok (decide (i < (cs_ r rb).length - 1)) (Wf a b (some (.d (.int (r : Int)))) w2 (some (.d (dR rb))) (some (.L false ((hp_ r rb).map encH))) (some (.L false ((SZ r rb).map D.int))) (some (.d (.int ((2 ^ i : Nat) : Int)))) none none none none none none none none none none none) := by
  have h1 : evE L.T (calls L.T L.ds k) (.cmp .ne (.var 5) (.lst [])) k (Wf a b (some (.d (.int (r : Int)))) w2 (some (.d (dR rb))) (some (.L false ((hp_ r rb).map encH))) (some (.L false ((SZ r rb).map D.int))) (some (.d (.int ((2 ^ i : Nat) : Int)))) none none none none none none none none none none none) = .ok (.d (.bl true)) (Wf a b (some (.d (.int (r : Int)))) w2 (some (.d (dR rb))) (some (.L false ((hp_ r rb).map encH))) (some (.L false ((SZ r rb).map D.int))) (some (.d (.int ((2 ^ i : Nat) : Int)))) none none none none none none none none none none none) := by
    have e := eqO_ints (SZ r rb) []
    show okb ((eqO (.L ((SZ r rb).map D.int)) (.L (([] : List Int).map D.int))).map (!·)) _ = _
    rw [e, decide_eq_false fun z => hne ((ne_nil rb r2).mp z)]
    rfl
  have h2 := mxW k a b r r2 rb hr w2 hne (some (.d (.int ((2 ^ i : Nat) : Int)))) none
  unfold yT
  rw [v_and, v_ao2, h1, onB_b, if_neg (by decide), v_ao1, v_cmp, v_var]
  show asT (R.bind (R.ok (O.d (.int ((2 ^ i : Nat) : Int))) _) _) = _
  rw [R.bind_ok, h2, R.bind_ok, rs_d, rs_d, cmp_lt_i]
  have e : decide (((2 ^ i : Nat) : Int) < ((2 ^ ((cs_ r rb).length - 1) : Nat) : Int)) = decide (i < (cs_ r rb).length - 1) := by
    rw [Bool.eq_iff_iff, decide_eq_true_eq, decide_eq_true_eq]
    constructor
    · intro h
      rcases Nat.lt_or_ge i ((cs_ r rb).length - 1) with g | g
      · exact g
      · have := Nat.pow_le_pow_right (show 0 < 2 by omega) g
        omega
    · intro h
      have := pow_lt h
      omega
  rw [e]
  rfl
theorem ybody (i : Nat) (hi : i + 1 < (cs_ r rb).length) : evB L.T (calls L.T L.ds k) yB k (Wf a b (some (.d (.int (r : Int)))) w2 (some (.d (dR rb))) (some (.L false ((hp_ r rb).map encH))) (some (.L false ((SZ r rb).map D.int))) (some (.d (.int ((2 ^ i : Nat) : Int)))) none none none none none none none none none none none) = .ok .nx (Wf a b (some (.d (.int (r : Int)))) w2 (some (.d (dR rb))) (some (.L false ((hp_ r rb).map encH))) (some (.L false ((SZ r rb).map D.int))) (some (.d (.int ((2 ^ (i + 1) : Nat) : Int)))) none none none none none none none none none none none) := by
  have ok : OkC r (cs_ r rb) := (runOk r2 rb).ok
  have hmid := okc_mid _ i ok hi
  have hmem : ((2 ^ i : Nat) : Int) ∈ SZ r rb := by
    have d := count_sz (cs_ r rb) 0 i
    rw [Nat.zero_add] at d
    exact List.mem_map_of_mem (f := fun (s : Nat) => (s : Int)) (List.count_pos_iff.mp (by omega))
  have e1 : evS L.T (calls L.T L.ds k) (.ite (.cmp .notin (.var 6) (.var 5))
     [.ret (.bl false)]
     []) k (Wf a b (some (.d (.int (r : Int)))) w2 (some (.d (dR rb))) (some (.L false ((hp_ r rb).map encH))) (some (.L false ((SZ r rb).map D.int))) (some (.d (.int ((2 ^ i : Nat) : Int)))) none none none none none none none none none none none) = .ok .nx (Wf a b (some (.d (.int (r : Int)))) w2 (some (.d (dR rb))) (some (.L false ((hp_ r rb).map encH))) (some (.L false ((SZ r rb).map D.int))) (some (.d (.int ((2 ^ i : Nat) : Int)))) none none none none none none none none none none none) := by
    have hin : inO (.d (.int ((2 ^ i : Nat) : Int))) (.L ((SZ r rb).map D.int)) = some true := by
      show among (.int _) ((SZ r rb).map D.int) = _
      unfold among
      rw [if_pos (lim_int _ _)]
      congr 1
      rw [List.any_eq_true]
      exact ⟨_, List.mem_map_of_mem hmem, by simp [eqb]⟩
    rw [v_if]
    show ifB (asT (okb ((inO (.d (.int ((2 ^ i : Nat) : Int))) (.L ((SZ r rb).map D.int))).map (!·)) _)) _ _ = _
    rw [hin]
    rfl
  have e2 : evS L.T (calls L.T L.ds k) (.set 6 (.bin .mul (.int 2) (.var 6))) k (Wf a b (some (.d (.int (r : Int)))) w2 (some (.d (dR rb))) (some (.L false ((hp_ r rb).map encH))) (some (.L false ((SZ r rb).map D.int))) (some (.d (.int ((2 ^ i : Nat) : Int)))) none none none none none none none none none none none) = .ok .nx (Wf a b (some (.d (.int (r : Int)))) w2 (some (.d (dR rb))) (some (.L false ((hp_ r rb).map encH))) (some (.L false ((SZ r rb).map D.int))) (some (.d (.int ((2 ^ (i + 1) : Nat) : Int)))) none none none none none none none none none none none) := by
    rw [v_set, v_bin, v_int, R.bind_ok, v_var]
    show R.bind (oko (bin .mul (.d (.int 2)) (.d (.int ((2 ^ i : Nat) : Int)))) _) _ = _
    rw [bin_mul_i _ _ rfl, show (2 : Int) * ((2 ^ i : Nat) : Int) = ((2 ^ (i + 1) : Nat) : Int) by rw [Nat.pow_succ]; omega]
    rfl
  unfold yB
  rw [evB_nx e1, evB_nx e2]
  rfl
theorem yloop (hne : cs_ r rb ≠ []) : ∀ (d i fuel : Nat), i + d = (cs_ r rb).length - 1 → d + 1 ≤ fuel →
    whileL (fun ρ => asT (evE L.T (calls L.T L.ds k) yT k ρ)) (evB L.T (calls L.T L.ds k) yB k) fuel (Wf a b (some (.d (.int (r : Int)))) w2 (some (.d (dR rb))) (some (.L false ((hp_ r rb).map encH))) (some (.L false ((SZ r rb).map D.int))) (some (.d (.int ((2 ^ i : Nat) : Int)))) none none none none none none none none none none none) = .ok .nx (Wf a b (some (.d (.int (r : Int)))) w2 (some (.d (dR rb))) (some (.L false ((hp_ r rb).map encH))) (some (.L false ((SZ r rb).map D.int))) (some (.d (.int ((2 ^ ((cs_ r rb).length - 1) : Nat) : Int)))) none none none none none none none none none none none)
  | 0, i, fuel, h, hf => by
    obtain ⟨fuel, rfl⟩ : ∃ f, fuel = f + 1 := ⟨fuel - 1, by omega⟩
    rw [whileL_s, ytest k a b r r2 rb hr w2 hne, ifB_b, if_neg (by simp; omega), show i = (cs_ r rb).length - 1 by omega]
  | d + 1, i, fuel, h, hf => by
    obtain ⟨fuel, rfl⟩ : ∃ f, fuel = f + 1 := ⟨fuel - 1, by omega⟩
    rw [whileL_s, ytest k a b r r2 rb hr w2 hne, ifB_b, if_pos (decide_eq_true (by omega)), ybody k a b r r2 rb hr w2 i (by omega), R.bind_ok]
    exact yloop hne d (i + 1) fuel (by omega) (by omega)
theorem q10 : ∃ w6, evS L.T (calls L.T L.ds k) (.while_ yT yB) k (Wf a b (some (.d (.int (r : Int)))) w2 (some (.d (dR rb))) (some (.L false ((hp_ r rb).map encH))) (some (.L false ((SZ r rb).map D.int))) (some (.d (.int ((2 ^ 0 : Nat) : Int)))) none none none none none none none none none none none) = .ok .nx (Wf a b (some (.d (.int (r : Int)))) w2 (some (.d (dR rb))) (some (.L false ((hp_ r rb).map encH))) (some (.L false ((SZ r rb).map D.int))) w6 none none none none none none none none none none none) := by
  have hb : big = 1048575 + 1 := rfl
  by_cases hne : cs_ r rb = []
  · refine ⟨(some (.d (.int ((2 ^ 0 : Nat) : Int)))), ?_⟩
    rw [v_while, hb, whileL_s]
    have t : asT (evE L.T (calls L.T L.ds k) yT k (Wf a b (some (.d (.int (r : Int)))) w2 (some (.d (dR rb))) (some (.L false ((hp_ r rb).map encH))) (some (.L false ((SZ r rb).map D.int))) (some (.d (.int ((2 ^ 0 : Nat) : Int)))) none none none none none none none none none none none)) = .ok false (Wf a b (some (.d (.int (r : Int)))) w2 (some (.d (dR rb))) (some (.L false ((hp_ r rb).map encH))) (some (.L false ((SZ r rb).map D.int))) (some (.d (.int ((2 ^ 0 : Nat) : Int)))) none none none none none none none none none none none) := by
      have h1 : evE L.T (calls L.T L.ds k) (.cmp .ne (.var 5) (.lst [])) k (Wf a b (some (.d (.int (r : Int)))) w2 (some (.d (dR rb))) (some (.L false ((hp_ r rb).map encH))) (some (.L false ((SZ r rb).map D.int))) (some (.d (.int ((2 ^ 0 : Nat) : Int)))) none none none none none none none none none none none) = .ok (.d (.bl false)) (Wf a b (some (.d (.int (r : Int)))) w2 (some (.d (dR rb))) (some (.L false ((hp_ r rb).map encH))) (some (.L false ((SZ r rb).map D.int))) (some (.d (.int ((2 ^ 0 : Nat) : Int)))) none none none none none none none none none none none) := by
        have e := eqO_ints (SZ r rb) []
        show okb ((eqO (.L ((SZ r rb).map D.int)) (.L (([] : List Int).map D.int))).map (!·)) _ = _
        rw [e, decide_eq_true ((ne_nil rb r2).mpr hne)]
        rfl
      unfold yT
      rw [v_and, v_ao2, h1, onB_b, if_pos (by decide)]
      rfl
    rw [t, ifB_f]
  · refine ⟨(some (.d (.int ((2 ^ ((cs_ r rb).length - 1) : Nat) : Int)))), ?_⟩
    have ok : OkC r (cs_ r rb) := (runOk r2 rb).ok
    have c1 := okc_len r2 _ 0 ok
    have c2 := hp_len r2 hr
    unfold hp_ at c2
    rw [tile_len] at c2
    rw [v_while]
    exact yloop k a b r r2 rb hr w2 hne ((cs_ r rb).length - 1) 0 big (by omega) (by rw [hb]; omega)
end
end Ev.K65
/-! P65q: the windows (3): a window. -/
namespace Ev.K65
def inn (r : Nat) (rb : List Int) (w : Int) : List (Nat × Nat) := (hp_ r rb).filter fun h => decide ((rb.length : Int) - w ≤ (h.2 : Int))
def sumS (l : List (Nat × Nat)) : Nat := (l.map (·.1)).sum
def lastS (l : List (Nat × Nat)) : Nat := match l.getLast? with
  | some x => x.1
  | none => 0
def lw (r : Nat) (rb : List Int) (w : Int) : Int × Int := bw (win (hp_ r rb) (rb.length - w))
def manyW (r : Nat) (rb : List Int) (w : Int) : Nat := ((no_ r rb).filter fun (x : Nat) => decide ((rb.length : Int) - w ≤ (x : Int))).length
def offW (r : Nat) (rb : List Int) (w : Int) : Int := if ((sumS (inn r rb w) : Int) - (lastS (inn r rb w) : Int) / 2 - (manyW r rb w : Int)) < 0 then -((sumS (inn r rb w) : Int) - (lastS (inn r rb w) : Int) / 2 - (manyW r rb w : Int)) else ((sumS (inn r rb w) : Int) - (lastS (inn r rb w) : Int) / 2 - (manyW r rb w : Int))
/-- what stands in a window -/
structure WinOk (r : Nat) (rb : List Int) (w : Int) : Prop where
  no : inn r rb w = [] → lw r rb w = (0, 0) ∧ manyW r rb w = 0
  yes : inn r rb w ≠ [] → lw r rb w = ((sumS (inn r rb w) : Int) - (lastS (inn r rb w) : Int) + 1, (sumS (inn r rb w) : Int)) ∧ 1 ≤ lastS (inn r rb w) ∧ sumS (inn r rb w) < manyW r rb w + lastS (inn r rb w) ∧ manyW r rb w ≤ sumS (inn r rb w) ∧
    (lastS (inn r rb w) = 1 ∨ (r - 1) * (lastS (inn r rb w) - 1) < manyW r rb w ∧ lastS (inn r rb w) % 2 = 0)
theorem win_inn (r : Nat) (rb : List Int) (w : Int) : win (hp_ r rb) (rb.length - w) = (inn r rb w).map (·.1) := rfl
theorem winW {r : Nat} (r2 : 2 ≤ r) {rb : List Int} (hr : Rw rb) (w : Int) : WinOk r rb w := by
  have key := win_law r2 hr ((rb.length : Int) - w) (manyW r rb w) rfl
  rw [win_inn] at key
  refine ⟨fun h => ?_, fun h => ?_⟩
  · unfold lw
    rw [win_inn, h]
    refine ⟨rfl, ?_⟩
    rcases key with ⟨z, _⟩ | ⟨S, o, e, h1, h2, _⟩
    · exact z
    · rw [h] at e
      have e1 := congrArg Prod.fst e
      have e2 := congrArg Prod.snd e
      have e1 : (0 : Int) = (S : Int) - o + 1 := e1
      have e2 : (0 : Int) = (S : Int) := e2
      omega
  · unfold lw
    rw [win_inn]
    rcases last_cases (inn r rb w) with z | ⟨A, x, z⟩
    · exact absurd z h
    · have hl : lastS (inn r rb w) = x.1 := by
        unfold lastS
        rw [z, List.getLast?_append]
        rfl
      have hb : bw ((inn r rb w).map (·.1)) = ((sumS (inn r rb w) : Int) - (x.1 : Int) + 1, (sumS (inn r rb w) : Int)) := by
        unfold bw sumS
        rw [z, List.map_append, List.getLast?_append]
        rfl
      rcases key with ⟨_, q⟩ | ⟨S, o, e, h1, h2, h3, h4, h5⟩
      · rw [z, List.map_append] at q
        simp at q
      · rw [hb] at e
        have e1 := congrArg Prod.fst e
        have e2 := congrArg Prod.snd e
        simp only at e1 e2
        have eo : o = x.1 := by omega
        have eS : S = sumS (inn r rb w) := by omega
        rw [eo] at h1 h2 h3 h5
        rw [eS] at h2 h3 h4
        rw [hl]
        exact ⟨hb, h1, h3, h4, h5⟩
theorem manyW_le {r : Nat} (r2 : 2 ≤ r) {rb : List Int} (hr : Rw rb) (w : Int) : manyW r rb w ≤ 200 := by
  have q := (runOk r2 rb).len
  have := hr.len
  have h : manyW r rb w ≤ (no_ r rb).length := List.length_filter_le _ _
  unfold no_ at h
  omega
theorem inn_small {r : Nat} (r2 : 2 ≤ r) {rb : List Int} (hr : Rw rb) (w : Int) : lastS (inn r rb w) ≤ 200 := by
  unfold lastS
  cases h : (inn r rb w).getLast? with
  | none => simp
  | some x =>
    have hx : x ∈ inn r rb w := List.mem_of_getLast? h
    exact (hp_small r2 hr x (List.mem_filter.mp hx).1).1
theorem many_drop (r : Nat) {rb : List Int} (h : Rw rb) (w : Int) (w0 : 0 ≤ w) : (rb.drop (rb.length - w.toNat)).sum = (manyW r rb w : Int) := by
  rw [many_eq r h]
  unfold manyW
  congr 2
  apply List.filter_congr
  intro x hx
  rw [Bool.eq_iff_iff, decide_eq_true_eq, decide_eq_true_eq]
  omega
section
variable (k : Nat) (a b : Int) (r : Nat) (r2 : 2 ≤ r) (r5 : r ≤ 5) (rb : List Int) (hr : Rw rb) (w2 w6 : Option W)
include r2 hr
theorem q11 (hk : 10 ≤ k) (ha : 0 ≤ a) (hb : 0 ≤ b) : ∃ a' b' w : Int, 0 ≤ a' ∧ 0 ≤ b' ∧ 0 ≤ w ∧ w < (rb.length : Int) + 5 ∧ evS L.T (calls L.T L.ds k) (.set 7 (.call 13 [.var 0, .bin .add (.blt .len [.var 3]) (.int 5)])) k (Wf a b (some (.d (.int (r : Int)))) w2 (some (.d (dR rb))) (some (.L false ((hp_ r rb).map encH))) (some (.L false ((SZ r rb).map D.int))) w6 none none none none none none none none none none none) = .ok .nx (Wf a' b' (some (.d (.int (r : Int)))) w2 (some (.d (dR rb))) (some (.L false ((hp_ r rb).map encH))) (some (.L false ((SZ r rb).map D.int))) w6 (some (.d (.int w))) none none none none none none none none none none) := by
  have hlen := hr.len
  obtain ⟨a1, b1, n, x1, x2, x3, x4, e1⟩ := draw_w a b ((rb.length : Int) + 5) ha hb (by omega) (by omega)
  have e1 := e1 k k 0 true (Wf a b (some (.d (.int (r : Int)))) w2 (some (.d (dR rb))) (some (.L false ((hp_ r rb).map encH))) (some (.L false ((SZ r rb).map D.int))) w6 none none none none none none none none none none none) (.bin .add (.blt .len [.var 3]) (.int 5)) (by omega) (Nat.le_refl _) rfl (by
    show R.ok (O.d (.int (((rb.map D.int).length : Int) + 5))) _ = _
    rw [List.length_map])
  have e1 : evE L.T (calls L.T L.ds k) (.call 13 [.var 0, .bin .add (.blt .len [.var 3]) (.int 5)]) k (Wf a b (some (.d (.int (r : Int)))) w2 (some (.d (dR rb))) (some (.L false ((hp_ r rb).map encH))) (some (.L false ((SZ r rb).map D.int))) w6 none none none none none none none none none none none) = .ok (.d (.int n)) (Wf a1 b1 (some (.d (.int (r : Int)))) w2 (some (.d (dR rb))) (some (.L false ((hp_ r rb).map encH))) (some (.L false ((SZ r rb).map D.int))) w6 none none none none none none none none none none none) := e1
  refine ⟨a1, b1, n, x1, x2, x3, x4, ?_⟩
  rw [v_set, e1]
  rfl
variable (w : Int)
theorem q12 : evS L.T (calls L.T L.ds k) (.set 8 (.comp (.var 14) (.nm 14) .seq [.var 4] [.cmp .ge (.ix (.var 14) (.int 1)) (.bin .sub (.blt .len [.var 3]) (.var 7))] [14])) k (Wf a b (some (.d (.int (r : Int)))) w2 (some (.d (dR rb))) (some (.L false ((hp_ r rb).map encH))) (some (.L false ((SZ r rb).map D.int))) w6 (some (.d (.int w))) none none none none none none none none none none) = .ok .nx (Wf a b (some (.d (.int (r : Int)))) w2 (some (.d (dR rb))) (some (.L false ((hp_ r rb).map encH))) (some (.L false ((SZ r rb).map D.int))) w6 (some (.d (.int w))) (some (.L false ((inn r rb w).map encH))) none none none none none none none none none) := by
  have hl := hp_len r2 hr
  have hc : evE L.T (calls L.T L.ds k) (.comp (.var 14) (.nm 14) .seq [.var 4] [.cmp .ge (.ix (.var 14) (.int 1)) (.bin .sub (.blt .len [.var 3]) (.var 7))] [14]) k (Wf a b (some (.d (.int (r : Int)))) w2 (some (.d (dR rb))) (some (.L false ((hp_ r rb).map encH))) (some (.L false ((SZ r rb).map D.int))) w6 (some (.d (.int w))) none none none none none none none none none none) = .ok (.L (((hp_ r rb).filter fun h => decide ((rb.length : Int) - w ≤ (h.2 : Int))).map encH)) (Wf a b (some (.d (.int (r : Int)))) w2 (some (.d (dR rb))) (some (.L false ((hp_ r rb).map encH))) (some (.L false ((SZ r rb).map D.int))) w6 (some (.d (.int w))) none none none none none none none none none none) := by
    refine comp_enc _ _ _ _ _ _ _ _ _ _ [4] (hp_ r rb) encH _ encH rfl (by simp [stands, wipe, beqs_refl]) rfl (by show _ ≤ 16777216; omega) ?_
    intro h _
    refine ⟨[bx a b, some (.d (.int (r : Int))), w2, some (.d (dR rb)), some (.L false ((hp_ r rb).map encH)), some (.L false ((SZ r rb).map D.int)), w6, some (.d (.int w)), none, none, none, none, none, none, some (.d (encH h)), none, none, none], rfl, rfl, ?_, fun _ => ⟨.d (encH h), rfl, rfl⟩⟩
    simp [varS, ifB_end]
  rw [v_set, hc]
  rfl
theorem q13 : evS L.T (calls L.T L.ds k) (.set 9 (.blt .sum [.comp (.ix (.var 14) (.int 0)) (.nm 14) .seq [.var 8] [] [14]])) k (Wf a b (some (.d (.int (r : Int)))) w2 (some (.d (dR rb))) (some (.L false ((hp_ r rb).map encH))) (some (.L false ((SZ r rb).map D.int))) w6 (some (.d (.int w))) (some (.L false ((inn r rb w).map encH))) none none none none none none none none none) = .ok .nx (Wf a b (some (.d (.int (r : Int)))) w2 (some (.d (dR rb))) (some (.L false ((hp_ r rb).map encH))) (some (.L false ((SZ r rb).map D.int))) w6 (some (.d (.int w))) (some (.L false ((inn r rb w).map encH))) (some (.d (.int (sumS (inn r rb w) : Int)))) none none none none none none none none) := by
  have hl := hp_len r2 hr
  have hl2 : (inn r rb w).length ≤ (hp_ r rb).length := List.length_filter_le _ _
  have hc : evE L.T (calls L.T L.ds k) (.comp (.ix (.var 14) (.int 0)) (.nm 14) .seq [.var 8] [] [14]) k (Wf a b (some (.d (.int (r : Int)))) w2 (some (.d (dR rb))) (some (.L false ((hp_ r rb).map encH))) (some (.L false ((SZ r rb).map D.int))) w6 (some (.d (.int w))) (some (.L false ((inn r rb w).map encH))) none none none none none none none none none) = .ok (.L ((inn r rb w).map fun h => D.int (h.1 : Int))) (Wf a b (some (.d (.int (r : Int)))) w2 (some (.d (dR rb))) (some (.L false ((hp_ r rb).map encH))) (some (.L false ((SZ r rb).map D.int))) w6 (some (.d (.int w))) (some (.L false ((inn r rb w).map encH))) none none none none none none none none none) := by
    refine comp_map _ _ _ _ _ _ _ _ _ [8] (inn r rb w) encH _ rfl (by simp [stands, wipe, beqs_refl]) rfl (by show _ ≤ 16777216; omega) ?_
    intro h _
    exact ⟨[bx a b, some (.d (.int (r : Int))), w2, some (.d (dR rb)), some (.L false ((hp_ r rb).map encH)), some (.L false ((SZ r rb).map D.int)), w6, some (.d (.int w)), some (.L false ((inn r rb w).map encH)), none, none, none, none, none, some (.d (encH h)), none, none, none], rfl, rfl, .d (.int h.1), rfl, rfl⟩
  have he : ((inn r rb w).map fun h => D.int (h.1 : Int)) = (((inn r rb w).map (·.1)).map fun (s : Nat) => (s : Int)).map D.int := by
    rw [List.map_map, List.map_map]
    rfl
  rw [v_set, v_blt, v_lcons, hc, he, R.bind_ok, v_lnil, R.bind_ok, R.bind_ok]
  show R.bind (oko (blt .sum [.L _]) _) _ = _
  rw [sum_ints, nat_sum]
  rfl
theorem innNe (C : Calls) (w9 w10 w11 w12 w13 : Option W) : evE L.T C (.cmp .ne (.var 8) (.lst [])) k (Wf a b (some (.d (.int (r : Int)))) w2 (some (.d (dR rb))) (some (.L false ((hp_ r rb).map encH))) (some (.L false ((SZ r rb).map D.int))) w6 (some (.d (.int w))) (some (.L false ((inn r rb w).map encH))) w9 w10 w11 w12 w13 none none none none) = .ok (.d (.bl (!decide (inn r rb w = [])))) (Wf a b (some (.d (.int (r : Int)))) w2 (some (.d (dR rb))) (some (.L false ((hp_ r rb).map encH))) (some (.L false ((SZ r rb).map D.int))) w6 (some (.d (.int w))) (some (.L false ((inn r rb w).map encH))) w9 w10 w11 w12 w13 none none none none) := by
  have e : eqO (.L ((inn r rb w).map encH)) (.L []) = some (decide (inn r rb w = [])) := by
    have l : lim (.lst ((inn r rb w).map encH)) limit = true := lim_lst (n := 59) fun x hx => by
      obtain ⟨p, _, rfl⟩ := List.mem_map.mp hx
      rfl
    show (if (lim (.lst ((inn r rb w).map encH)) limit && lim (.lst []) limit) = true then some (eqb (.lst ((inn r rb w).map encH)) (.lst [])) else none) = _
    rw [l]
    cases inn r rb w <;> rfl
  show okb ((eqO (.L ((inn r rb w).map encH)) (.L [])).map (!·)) _ = _
  rw [e]
  rfl
theorem q14 : evS L.T (calls L.T L.ds k) (.set 10 (.ite (.cmp .ne (.var 8) (.lst [])) (.ix (.ix (.var 8) (.neg (.int 1))) (.int 0)) (.int 0))) k (Wf a b (some (.d (.int (r : Int)))) w2 (some (.d (dR rb))) (some (.L false ((hp_ r rb).map encH))) (some (.L false ((SZ r rb).map D.int))) w6 (some (.d (.int w))) (some (.L false ((inn r rb w).map encH))) (some (.d (.int (sumS (inn r rb w) : Int)))) none none none none none none none none) = .ok .nx (Wf a b (some (.d (.int (r : Int)))) w2 (some (.d (dR rb))) (some (.L false ((hp_ r rb).map encH))) (some (.L false ((SZ r rb).map D.int))) w6 (some (.d (.int w))) (some (.L false ((inn r rb w).map encH))) (some (.d (.int (sumS (inn r rb w) : Int)))) (some (.d (.int (lastS (inn r rb w) : Int)))) none none none none none none none) := by
  have ne := innNe k a b r r2 rb hr w2 w6 w (calls L.T L.ds k) (some (.d (.int (sumS (inn r rb w) : Int)))) none none none none
  rw [v_set, v_ite, ne]
  rcases last_cases (inn r rb w) with z | ⟨A, x, z⟩
  · have hl : lastS (inn r rb w) = 0 := by
      unfold lastS
      rw [z]
      rfl
    rw [hl, decide_eq_true z]
    rfl
  · have hl : lastS (inn r rb w) = x.1 := by
      unfold lastS
      rw [z, List.getLast?_append]
      rfl
    rw [hl, decide_eq_false (by rw [z]; simp)]
    have hix : index (.L ((inn r rb w).map encH)) (.d (.int (-1))) = some (encH x) := by
      rw [index_L, z, List.map_append]
      exact at_last _ _
    have v : evE L.T (calls L.T L.ds k) (.ix (.ix (.var 8) (.neg (.int 1))) (.int 0)) k (Wf a b (some (.d (.int (r : Int)))) w2 (some (.d (dR rb))) (some (.L false ((hp_ r rb).map encH))) (some (.L false ((SZ r rb).map D.int))) w6 (some (.d (.int w))) (some (.L false ((inn r rb w).map encH))) (some (.d (.int (sumS (inn r rb w) : Int)))) none none none none none none none none) = .ok (.d (.int (x.1 : Int))) (Wf a b (some (.d (.int (r : Int)))) w2 (some (.d (dR rb))) (some (.L false ((hp_ r rb).map encH))) (some (.L false ((SZ r rb).map D.int))) w6 (some (.d (.int w))) (some (.L false ((inn r rb w).map encH))) (some (.d (.int (sumS (inn r rb w) : Int)))) none none none none none none none none) := by
      have v0 : evE L.T (calls L.T L.ds k) (.ix (.var 8) (.neg (.int 1))) k (Wf a b (some (.d (.int (r : Int)))) w2 (some (.d (dR rb))) (some (.L false ((hp_ r rb).map encH))) (some (.L false ((SZ r rb).map D.int))) w6 (some (.d (.int w))) (some (.L false ((inn r rb w).map encH))) (some (.d (.int (sumS (inn r rb w) : Int)))) none none none none none none none none) = .ok (.d (encH x)) (Wf a b (some (.d (.int (r : Int)))) w2 (some (.d (dR rb))) (some (.L false ((hp_ r rb).map encH))) (some (.L false ((SZ r rb).map D.int))) w6 (some (.d (.int w))) (some (.L false ((inn r rb w).map encH))) (some (.d (.int (sumS (inn r rb w) : Int)))) none none none none none none none none) := by
        show okd (index (.L ((inn r rb w).map encH)) (.d (.int (-1)))) _ = _
        rw [hix]
        rfl
      rw [v_ix, v0]
      rfl
    show R.bind (evE L.T _ (.ix (.ix (.var 8) (.neg (.int 1))) (.int 0)) k _) _ = _
    rw [v]
    rfl
theorem q15 (hk : 10 ≤ k) (r5 : r ≤ 5) (w0 : 0 ≤ w) (w1 : w ≤ 200) : evS L.T (calls L.T L.ds k) (.set 11 (.call 6 [.var 1, .var 3, .var 7])) k (Wf a b (some (.d (.int (r : Int)))) w2 (some (.d (dR rb))) (some (.L false ((hp_ r rb).map encH))) (some (.L false ((SZ r rb).map D.int))) w6 (some (.d (.int w))) (some (.L false ((inn r rb w).map encH))) (some (.d (.int (sumS (inn r rb w) : Int)))) (some (.d (.int (lastS (inn r rb w) : Int)))) none none none none none none none) = .ok .nx (Wf a b (some (.d (.int (r : Int)))) w2 (some (.d (dR rb))) (some (.L false ((hp_ r rb).map encH))) (some (.L false ((SZ r rb).map D.int))) w6 (some (.d (.int w))) (some (.L false ((inn r rb w).map encH))) (some (.d (.int (sumS (inn r rb w) : Int)))) (some (.d (.int (lastS (inn r rb w) : Int)))) (some (.d (.tup [.int (lw r rb w).1, .int (lw r rb w).2]))) none none none none none none) := by
  have e6 := t6 r r2 (by omega) rb hr w w0 w1 k (by omega)
  simp only [List.map_cons, List.map_nil] at e6
  rw [v_set, v_call]
  show R.bind (R.bind (R.ok [O.d (.int r), O.d (dR rb), O.d (.int w)] _) _) _ = _
  rw [R.bind_ok, e6]
  rfl
theorem q16 (w0 : 0 ≤ w) : evS L.T (calls L.T L.ds k) (.set 12 (.blt .sum [.sl (.var 3) (.blt .max2 [.int 0, .bin .sub (.blt .len [.var 3]) (.var 7)]) .abs])) k (Wf a b (some (.d (.int (r : Int)))) w2 (some (.d (dR rb))) (some (.L false ((hp_ r rb).map encH))) (some (.L false ((SZ r rb).map D.int))) w6 (some (.d (.int w))) (some (.L false ((inn r rb w).map encH))) (some (.d (.int (sumS (inn r rb w) : Int)))) (some (.d (.int (lastS (inn r rb w) : Int)))) (some (.d (.tup [.int (lw r rb w).1, .int (lw r rb w).2]))) none none none none none none) = .ok .nx (Wf a b (some (.d (.int (r : Int)))) w2 (some (.d (dR rb))) (some (.L false ((hp_ r rb).map encH))) (some (.L false ((SZ r rb).map D.int))) w6 (some (.d (.int w))) (some (.L false ((inn r rb w).map encH))) (some (.d (.int (sumS (inn r rb w) : Int)))) (some (.d (.int (lastS (inn r rb w) : Int)))) (some (.d (.tup [.int (lw r rb w).1, .int (lw r rb w).2]))) (some (.d (.int (manyW r rb w : Int)))) none none none none none) := by
  have hlen := hr.len
  have hmx : blt .max2 [.d (.int 0), .d (.int (((rb.map D.int).length : Int) - w))] = some (.d (.int ((rb.length - w.toNat : Nat) : Int))) := by
    show some (O.d (.int (if ((rb.map D.int).length : Int) - w > 0 then ((rb.map D.int).length : Int) - w else 0))) = _
    rw [List.length_map]
    congr 3
    split <;> omega
  have v1 : evE L.T (calls L.T L.ds k) (.blt .max2 [.int 0, .bin .sub (.blt .len [.var 3]) (.var 7)]) k (Wf a b (some (.d (.int (r : Int)))) w2 (some (.d (dR rb))) (some (.L false ((hp_ r rb).map encH))) (some (.L false ((SZ r rb).map D.int))) w6 (some (.d (.int w))) (some (.L false ((inn r rb w).map encH))) (some (.d (.int (sumS (inn r rb w) : Int)))) (some (.d (.int (lastS (inn r rb w) : Int)))) (some (.d (.tup [.int (lw r rb w).1, .int (lw r rb w).2]))) none none none none none none) = .ok (.d (.int ((rb.length - w.toNat : Nat) : Int))) (Wf a b (some (.d (.int (r : Int)))) w2 (some (.d (dR rb))) (some (.L false ((hp_ r rb).map encH))) (some (.L false ((SZ r rb).map D.int))) w6 (some (.d (.int w))) (some (.L false ((inn r rb w).map encH))) (some (.d (.int (sumS (inn r rb w) : Int)))) (some (.d (.int (lastS (inn r rb w) : Int)))) (some (.d (.tup [.int (lw r rb w).1, .int (lw r rb w).2]))) none none none none none none) := by
    show oko (blt .max2 [.d (.int 0), .d (.int (((rb.map D.int).length : Int) - w))]) _ = _
    rw [hmx]
    rfl
  have v2 : evE L.T (calls L.T L.ds k) (.sl (.var 3) (.blt .max2 [.int 0, .bin .sub (.blt .len [.var 3]) (.var 7)]) .abs) k (Wf a b (some (.d (.int (r : Int)))) w2 (some (.d (dR rb))) (some (.L false ((hp_ r rb).map encH))) (some (.L false ((SZ r rb).map D.int))) w6 (some (.d (.int w))) (some (.L false ((inn r rb w).map encH))) (some (.d (.int (sumS (inn r rb w) : Int)))) (some (.d (.int (lastS (inn r rb w) : Int)))) (some (.d (.tup [.int (lw r rb w).1, .int (lw r rb w).2]))) none none none none none none) = .ok (.d (.tup ((rb.drop (rb.length - w.toNat)).map D.int))) (Wf a b (some (.d (.int (r : Int)))) w2 (some (.d (dR rb))) (some (.L false ((hp_ r rb).map encH))) (some (.L false ((SZ r rb).map D.int))) w6 (some (.d (.int w))) (some (.L false ((inn r rb w).map encH))) (some (.d (.int (sumS (inn r rb w) : Int)))) (some (.d (.int (lastS (inn r rb w) : Int)))) (some (.d (.tup [.int (lw r rb w).1, .int (lw r rb w).2]))) none none none none none none) := by
    rw [v_sl, v_var]
    show R.bind (R.ok (O.d (dR rb)) _) _ = _
    rw [R.bind_ok, if_neg (by decide), v1, asI_d, R.bind_ok, if_pos (show isAbs E.abs = true from rfl), R.bind_ok, rs_d, slice_drop _ _ (by rw [List.length_map]; omega), List.map_drop]
    rfl
  have v3 : evE L.T (calls L.T L.ds k) (.blt .sum [.sl (.var 3) (.blt .max2 [.int 0, .bin .sub (.blt .len [.var 3]) (.var 7)]) .abs]) k (Wf a b (some (.d (.int (r : Int)))) w2 (some (.d (dR rb))) (some (.L false ((hp_ r rb).map encH))) (some (.L false ((SZ r rb).map D.int))) w6 (some (.d (.int w))) (some (.L false ((inn r rb w).map encH))) (some (.d (.int (sumS (inn r rb w) : Int)))) (some (.d (.int (lastS (inn r rb w) : Int)))) (some (.d (.tup [.int (lw r rb w).1, .int (lw r rb w).2]))) none none none none none none) = .ok (.d (.int (manyW r rb w : Int))) (Wf a b (some (.d (.int (r : Int)))) w2 (some (.d (dR rb))) (some (.L false ((hp_ r rb).map encH))) (some (.L false ((SZ r rb).map D.int))) w6 (some (.d (.int w))) (some (.L false ((inn r rb w).map encH))) (some (.d (.int (sumS (inn r rb w) : Int)))) (some (.d (.int (lastS (inn r rb w) : Int)))) (some (.d (.tup [.int (lw r rb w).1, .int (lw r rb w).2]))) none none none none none none) := by
    rw [v_blt, v_lcons, v2, R.bind_ok, v_lnil, R.bind_ok, R.bind_ok]
    show oko ((intsOf ((rb.drop (rb.length - w.toNat)).map D.int)).map fun ns => O.d (.int ns.sum)) _ = _
    rw [intsOf_ints, ← many_drop r hr w w0]
    rfl
  rw [v_set, v3]
  rfl
theorem q17 : evS L.T (calls L.T L.ds k) (.ite (.orL [.req true (.var 11) (.ite (.cmp .ne (.var 8) (.lst [])) (.tup [.bin .add (.bin .sub (.var 9) (.var 10)) (.int 1), .var 9]) (.tup [.int 0, .int 0])), .not_ (.chain .le .le (.ix (.var 11) (.int 0)) (.var 12) (.ix (.var 11) (.int 1)))])
   [.ret (.bl false)]
   []) k (Wf a b (some (.d (.int (r : Int)))) w2 (some (.d (dR rb))) (some (.L false ((hp_ r rb).map encH))) (some (.L false ((SZ r rb).map D.int))) w6 (some (.d (.int w))) (some (.L false ((inn r rb w).map encH))) (some (.d (.int (sumS (inn r rb w) : Int)))) (some (.d (.int (lastS (inn r rb w) : Int)))) (some (.d (.tup [.int (lw r rb w).1, .int (lw r rb w).2]))) (some (.d (.int (manyW r rb w : Int)))) none none none none none) = .ok .nx (Wf a b (some (.d (.int (r : Int)))) w2 (some (.d (dR rb))) (some (.L false ((hp_ r rb).map encH))) (some (.L false ((SZ r rb).map D.int))) w6 (some (.d (.int w))) (some (.L false ((inn r rb w).map encH))) (some (.d (.int (sumS (inn r rb w) : Int)))) (some (.d (.int (lastS (inn r rb w) : Int)))) (some (.d (.tup [.int (lw r rb w).1, .int (lw r rb w).2]))) (some (.d (.int (manyW r rb w : Int)))) none none none none none) := by
  have wk := winW r2 hr w
  have ml := manyW_le r2 hr w
  have il := inn_small r2 hr w
  have ne := innNe k a b r r2 rb hr w2 w6 w (calls L.T L.ds k) (some (.d (.int (sumS (inn r rb w) : Int)))) (some (.d (.int (lastS (inn r rb w) : Int)))) (some (.d (.tup [.int (lw r rb w).1, .int (lw r rb w).2]))) (some (.d (.int (manyW r rb w : Int)))) none
  have ea : evE L.T (calls L.T L.ds k) (.var 11) k (Wf a b (some (.d (.int (r : Int)))) w2 (some (.d (dR rb))) (some (.L false ((hp_ r rb).map encH))) (some (.L false ((SZ r rb).map D.int))) w6 (some (.d (.int w))) (some (.L false ((inn r rb w).map encH))) (some (.d (.int (sumS (inn r rb w) : Int)))) (some (.d (.int (lastS (inn r rb w) : Int)))) (some (.d (.tup [.int (lw r rb w).1, .int (lw r rb w).2]))) (some (.d (.int (manyW r rb w : Int)))) none none none none none) = .ok (.d (.tup [.int (lw r rb w).1, .int (lw r rb w).2])) (Wf a b (some (.d (.int (r : Int)))) w2 (some (.d (dR rb))) (some (.L false ((hp_ r rb).map encH))) (some (.L false ((SZ r rb).map D.int))) w6 (some (.d (.int w))) (some (.L false ((inn r rb w).map encH))) (some (.d (.int (sumS (inn r rb w) : Int)))) (some (.d (.int (lastS (inn r rb w) : Int)))) (some (.d (.tup [.int (lw r rb w).1, .int (lw r rb w).2]))) (some (.d (.int (manyW r rb w : Int)))) none none none none none) := rfl
  have eb : evE L.T (calls L.T L.ds k) (.ite (.cmp .ne (.var 8) (.lst [])) (.tup [.bin .add (.bin .sub (.var 9) (.var 10)) (.int 1), .var 9]) (.tup [.int 0, .int 0])) k (Wf a b (some (.d (.int (r : Int)))) w2 (some (.d (dR rb))) (some (.L false ((hp_ r rb).map encH))) (some (.L false ((SZ r rb).map D.int))) w6 (some (.d (.int w))) (some (.L false ((inn r rb w).map encH))) (some (.d (.int (sumS (inn r rb w) : Int)))) (some (.d (.int (lastS (inn r rb w) : Int)))) (some (.d (.tup [.int (lw r rb w).1, .int (lw r rb w).2]))) (some (.d (.int (manyW r rb w : Int)))) none none none none none) = .ok (.d (.tup [.int (lw r rb w).1, .int (lw r rb w).2])) (Wf a b (some (.d (.int (r : Int)))) w2 (some (.d (dR rb))) (some (.L false ((hp_ r rb).map encH))) (some (.L false ((SZ r rb).map D.int))) w6 (some (.d (.int w))) (some (.L false ((inn r rb w).map encH))) (some (.d (.int (sumS (inn r rb w) : Int)))) (some (.d (.int (lastS (inn r rb w) : Int)))) (some (.d (.tup [.int (lw r rb w).1, .int (lw r rb w).2]))) (some (.d (.int (manyW r rb w : Int)))) none none none none none) := by
    rw [v_ite, ne]
    by_cases z : inn r rb w = []
    · rw [(wk.no z).1, decide_eq_true z]
      rfl
    · rw [(wk.yes z).1, decide_eq_false z]
      rfl
  have bd : -1000 ≤ (lw r rb w).1 ∧ (lw r rb w).1 ≤ 1000 ∧ -1000 ≤ (lw r rb w).2 ∧ (lw r rb w).2 ≤ 1000 ∧ (lw r rb w).1 ≤ (manyW r rb w : Int) ∧ (manyW r rb w : Int) ≤ (lw r rb w).2 := by
    by_cases z : inn r rb w = []
    · obtain ⟨z1, z2⟩ := wk.no z
      rw [z1, z2]
      simp
    · obtain ⟨z1, z2, z3, z4, _⟩ := wk.yes z
      rw [z1]
      simp only
      omega
  have hs : shw (.tup [.int (lw r rb w).1, .int (lw r rb w).2]) = true := by
    unfold shw
    simp only [smal, smals, wgt, wgts, Bool.and_eq_true, decide_eq_true_eq, Bool.and_true]
    refine ⟨rfl, ?_, rfl⟩
    omega
  have c1 := req_ok (ne := true) ea eb hs
  have c2 : evE L.T (calls L.T L.ds k) (.not_ (.chain .le .le (.ix (.var 11) (.int 0)) (.var 12) (.ix (.var 11) (.int 1)))) k (Wf a b (some (.d (.int (r : Int)))) w2 (some (.d (dR rb))) (some (.L false ((hp_ r rb).map encH))) (some (.L false ((SZ r rb).map D.int))) w6 (some (.d (.int w))) (some (.L false ((inn r rb w).map encH))) (some (.d (.int (sumS (inn r rb w) : Int)))) (some (.d (.int (lastS (inn r rb w) : Int)))) (some (.d (.tup [.int (lw r rb w).1, .int (lw r rb w).2]))) (some (.d (.int (manyW r rb w : Int)))) none none none none none) = .ok (.d (.bl false)) (Wf a b (some (.d (.int (r : Int)))) w2 (some (.d (dR rb))) (some (.L false ((hp_ r rb).map encH))) (some (.L false ((SZ r rb).map D.int))) w6 (some (.d (.int w))) (some (.L false ((inn r rb w).map encH))) (some (.d (.int (sumS (inn r rb w) : Int)))) (some (.d (.int (lastS (inn r rb w) : Int)))) (some (.d (.tup [.int (lw r rb w).1, .int (lw r rb w).2]))) (some (.d (.int (manyW r rb w : Int)))) none none none none none) := by
    have i0 : evE L.T (calls L.T L.ds k) (.ix (.var 11) (.int 0)) k (Wf a b (some (.d (.int (r : Int)))) w2 (some (.d (dR rb))) (some (.L false ((hp_ r rb).map encH))) (some (.L false ((SZ r rb).map D.int))) w6 (some (.d (.int w))) (some (.L false ((inn r rb w).map encH))) (some (.d (.int (sumS (inn r rb w) : Int)))) (some (.d (.int (lastS (inn r rb w) : Int)))) (some (.d (.tup [.int (lw r rb w).1, .int (lw r rb w).2]))) (some (.d (.int (manyW r rb w : Int)))) none none none none none) = .ok (.d (.int (lw r rb w).1)) (Wf a b (some (.d (.int (r : Int)))) w2 (some (.d (dR rb))) (some (.L false ((hp_ r rb).map encH))) (some (.L false ((SZ r rb).map D.int))) w6 (some (.d (.int w))) (some (.L false ((inn r rb w).map encH))) (some (.d (.int (sumS (inn r rb w) : Int)))) (some (.d (.int (lastS (inn r rb w) : Int)))) (some (.d (.tup [.int (lw r rb w).1, .int (lw r rb w).2]))) (some (.d (.int (manyW r rb w : Int)))) none none none none none) := rfl
    have i1 : evE L.T (calls L.T L.ds k) (.ix (.var 11) (.int 1)) k (Wf a b (some (.d (.int (r : Int)))) w2 (some (.d (dR rb))) (some (.L false ((hp_ r rb).map encH))) (some (.L false ((SZ r rb).map D.int))) w6 (some (.d (.int w))) (some (.L false ((inn r rb w).map encH))) (some (.d (.int (sumS (inn r rb w) : Int)))) (some (.d (.int (lastS (inn r rb w) : Int)))) (some (.d (.tup [.int (lw r rb w).1, .int (lw r rb w).2]))) (some (.d (.int (manyW r rb w : Int)))) none none none none none) = .ok (.d (.int (lw r rb w).2)) (Wf a b (some (.d (.int (r : Int)))) w2 (some (.d (dR rb))) (some (.L false ((hp_ r rb).map encH))) (some (.L false ((SZ r rb).map D.int))) w6 (some (.d (.int w))) (some (.L false ((inn r rb w).map encH))) (some (.d (.int (sumS (inn r rb w) : Int)))) (some (.d (.int (lastS (inn r rb w) : Int)))) (some (.d (.tup [.int (lw r rb w).1, .int (lw r rb w).2]))) (some (.d (.int (manyW r rb w : Int)))) none none none none none) := rfl
    have v12 : evE L.T (calls L.T L.ds k) (.var 12) k (Wf a b (some (.d (.int (r : Int)))) w2 (some (.d (dR rb))) (some (.L false ((hp_ r rb).map encH))) (some (.L false ((SZ r rb).map D.int))) w6 (some (.d (.int w))) (some (.L false ((inn r rb w).map encH))) (some (.d (.int (sumS (inn r rb w) : Int)))) (some (.d (.int (lastS (inn r rb w) : Int)))) (some (.d (.tup [.int (lw r rb w).1, .int (lw r rb w).2]))) (some (.d (.int (manyW r rb w : Int)))) none none none none none) = .ok (.d (.int (manyW r rb w : Int))) (Wf a b (some (.d (.int (r : Int)))) w2 (some (.d (dR rb))) (some (.L false ((hp_ r rb).map encH))) (some (.L false ((SZ r rb).map D.int))) w6 (some (.d (.int w))) (some (.L false ((inn r rb w).map encH))) (some (.d (.int (sumS (inn r rb w) : Int)))) (some (.d (.int (lastS (inn r rb w) : Int)))) (some (.d (.tup [.int (lw r rb w).1, .int (lw r rb w).2]))) (some (.d (.int (manyW r rb w : Int)))) none none none none none) := rfl
    rw [v_not, v_chain, i0, R.bind_ok, v12, R.bind_ok, rs_d, rs_d, cmp_le_i, decide_eq_true (by omega), R.opt_some, if_pos rfl, i1, R.bind_ok, rs_d, rs_d, cmp_le_i, decide_eq_true (by omega)]
    rfl
  rw [v_if, v_or, v_ao2, c1]
  show ifB (asT (onB true (R.ok (O.d (.bl false)) _) _)) _ _ = _
  rw [onB_b, if_neg (by decide), v_ao1, c2]
  rfl
theorem q18 : evS L.T (calls L.T L.ds k) (.set 13 (.blt .abs [.bin .sub (.bin .sub (.var 9) (.bin .fdiv (.var 10) (.int 2))) (.var 12)])) k (Wf a b (some (.d (.int (r : Int)))) w2 (some (.d (dR rb))) (some (.L false ((hp_ r rb).map encH))) (some (.L false ((SZ r rb).map D.int))) w6 (some (.d (.int w))) (some (.L false ((inn r rb w).map encH))) (some (.d (.int (sumS (inn r rb w) : Int)))) (some (.d (.int (lastS (inn r rb w) : Int)))) (some (.d (.tup [.int (lw r rb w).1, .int (lw r rb w).2]))) (some (.d (.int (manyW r rb w : Int)))) none none none none none) = .ok .nx (Wf a b (some (.d (.int (r : Int)))) w2 (some (.d (dR rb))) (some (.L false ((hp_ r rb).map encH))) (some (.L false ((SZ r rb).map D.int))) w6 (some (.d (.int w))) (some (.L false ((inn r rb w).map encH))) (some (.d (.int (sumS (inn r rb w) : Int)))) (some (.d (.int (lastS (inn r rb w) : Int)))) (some (.d (.tup [.int (lw r rb w).1, .int (lw r rb w).2]))) (some (.d (.int (manyW r rb w : Int)))) (some (.d (.int (offW r rb w)))) none none none none) := by
  have ho : evE L.T (calls L.T L.ds k) (.bin .fdiv (.var 10) (.int 2)) k (Wf a b (some (.d (.int (r : Int)))) w2 (some (.d (dR rb))) (some (.L false ((hp_ r rb).map encH))) (some (.L false ((SZ r rb).map D.int))) w6 (some (.d (.int w))) (some (.L false ((inn r rb w).map encH))) (some (.d (.int (sumS (inn r rb w) : Int)))) (some (.d (.int (lastS (inn r rb w) : Int)))) (some (.d (.tup [.int (lw r rb w).1, .int (lw r rb w).2]))) (some (.d (.int (manyW r rb w : Int)))) none none none none none) = .ok (.d (.int ((lastS (inn r rb w) : Int) / 2))) (Wf a b (some (.d (.int (r : Int)))) w2 (some (.d (dR rb))) (some (.L false ((hp_ r rb).map encH))) (some (.L false ((SZ r rb).map D.int))) w6 (some (.d (.int w))) (some (.L false ((inn r rb w).map encH))) (some (.d (.int (sumS (inn r rb w) : Int)))) (some (.d (.int (lastS (inn r rb w) : Int)))) (some (.d (.tup [.int (lw r rb w).1, .int (lw r rb w).2]))) (some (.d (.int (manyW r rb w : Int)))) none none none none none) := by
    show oko (bin .fdiv (.d (.int _)) (.d (.int 2))) _ = _
    rw [bin_fdiv_i _ _ (by omega) (by omega)]
    rfl
  have v9 : evE L.T (calls L.T L.ds k) (.var 9) k (Wf a b (some (.d (.int (r : Int)))) w2 (some (.d (dR rb))) (some (.L false ((hp_ r rb).map encH))) (some (.L false ((SZ r rb).map D.int))) w6 (some (.d (.int w))) (some (.L false ((inn r rb w).map encH))) (some (.d (.int (sumS (inn r rb w) : Int)))) (some (.d (.int (lastS (inn r rb w) : Int)))) (some (.d (.tup [.int (lw r rb w).1, .int (lw r rb w).2]))) (some (.d (.int (manyW r rb w : Int)))) none none none none none) = .ok (.d (.int (sumS (inn r rb w) : Int))) (Wf a b (some (.d (.int (r : Int)))) w2 (some (.d (dR rb))) (some (.L false ((hp_ r rb).map encH))) (some (.L false ((SZ r rb).map D.int))) w6 (some (.d (.int w))) (some (.L false ((inn r rb w).map encH))) (some (.d (.int (sumS (inn r rb w) : Int)))) (some (.d (.int (lastS (inn r rb w) : Int)))) (some (.d (.tup [.int (lw r rb w).1, .int (lw r rb w).2]))) (some (.d (.int (manyW r rb w : Int)))) none none none none none) := rfl
  rw [v_set, v_blt, v_lcons, v_bin, v_bin, v9, R.bind_ok, ho]
  rfl
theorem q19 (r5 : r ≤ 5) : ∃ ρ', evS L.T (calls L.T L.ds k) (.ret (.orL [.cmp .eq (.var 8) (.lst []), .andL [.cmp .le (.var 13) (.bin .fdiv (.var 10) (.int 2)), .orL [.cmp .lt (.var 10) (.int 2), .cmp .lt (.bin .mul (.var 13) (.bin .sub (.var 1) (.int 1))) (.var 12)]]])) k (Wf a b (some (.d (.int (r : Int)))) w2 (some (.d (dR rb))) (some (.L false ((hp_ r rb).map encH))) (some (.L false ((SZ r rb).map D.int))) w6 (some (.d (.int w))) (some (.L false ((inn r rb w).map encH))) (some (.d (.int (sumS (inn r rb w) : Int)))) (some (.d (.int (lastS (inn r rb w) : Int)))) (some (.d (.tup [.int (lw r rb w).1, .int (lw r rb w).2]))) (some (.d (.int (manyW r rb w : Int)))) (some (.d (.int (offW r rb w)))) none none none none) = .ok (.ret (.d (.bl true))) (bx a b :: ρ') := by
  have wk := winW r2 hr w
  have c0 : evE L.T (calls L.T L.ds k) (.cmp .eq (.var 8) (.lst [])) k (Wf a b (some (.d (.int (r : Int)))) w2 (some (.d (dR rb))) (some (.L false ((hp_ r rb).map encH))) (some (.L false ((SZ r rb).map D.int))) w6 (some (.d (.int w))) (some (.L false ((inn r rb w).map encH))) (some (.d (.int (sumS (inn r rb w) : Int)))) (some (.d (.int (lastS (inn r rb w) : Int)))) (some (.d (.tup [.int (lw r rb w).1, .int (lw r rb w).2]))) (some (.d (.int (manyW r rb w : Int)))) (some (.d (.int (offW r rb w)))) none none none none) = .ok (.d (.bl (decide (inn r rb w = [])))) (Wf a b (some (.d (.int (r : Int)))) w2 (some (.d (dR rb))) (some (.L false ((hp_ r rb).map encH))) (some (.L false ((SZ r rb).map D.int))) w6 (some (.d (.int w))) (some (.L false ((inn r rb w).map encH))) (some (.d (.int (sumS (inn r rb w) : Int)))) (some (.d (.int (lastS (inn r rb w) : Int)))) (some (.d (.tup [.int (lw r rb w).1, .int (lw r rb w).2]))) (some (.d (.int (manyW r rb w : Int)))) (some (.d (.int (offW r rb w)))) none none none none) := by
    have e : eqO (.L ((inn r rb w).map encH)) (.L []) = some (decide (inn r rb w = [])) := by
      have l : lim (.lst ((inn r rb w).map encH)) limit = true := lim_lst (n := 59) fun x hx => by
        obtain ⟨p, _, rfl⟩ := List.mem_map.mp hx
        rfl
      show (if (lim (.lst ((inn r rb w).map encH)) limit && lim (.lst []) limit) = true then some (eqb (.lst ((inn r rb w).map encH)) (.lst [])) else none) = _
      rw [l]
      cases inn r rb w <;> rfl
    show okb (eqO (.L ((inn r rb w).map encH)) (.L [])) _ = _
    rw [e]
    rfl
  refine ⟨[some (.d (.int (r : Int))), w2, some (.d (dR rb)), some (.L false ((hp_ r rb).map encH)), some (.L false ((SZ r rb).map D.int)), w6, some (.d (.int w)), some (.L false ((inn r rb w).map encH)), some (.d (.int (sumS (inn r rb w) : Int))), some (.d (.int (lastS (inn r rb w) : Int))), some (.d (.tup [.int (lw r rb w).1, .int (lw r rb w).2])), some (.d (.int (manyW r rb w : Int))), some (.d (.int (offW r rb w))), none, none, none, none], ?_⟩
  rw [v_ret, v_or, v_ao2, c0, onB_b]
  by_cases z : inn r rb w = []
  · rw [decide_eq_true z, if_pos (by decide)]
    rfl
  · obtain ⟨_, z1, z2, z3, z4⟩ := wk.yes z
    have hoff : offW r rb w ≤ (lastS (inn r rb w) : Int) / 2 ∧ (lastS (inn r rb w) = 1 ∨ offW r rb w * ((r : Int) - 1) < (manyW r rb w : Int)) := by
      unfold offW
      generalize lastS (inn r rb w) = o at *
      generalize sumS (inn r rb w) = S at *
      generalize manyW r rb w = M at *
      rcases z4 with rfl | ⟨h4, h5⟩
      · refine ⟨?_, .inl rfl⟩
        split <;> omega
      · have hR : (0 : Int) ≤ (r : Int) - 1 := by omega
        have h6 : ((o : Int) - 1) * ((r : Int) - 1) < M := by
          have : (((r - 1) * (o - 1) : Nat) : Int) < (M : Int) := by exact_mod_cast h4
          rw [Int.natCast_mul, Int.natCast_sub (by omega), Int.natCast_sub (by omega)] at this
          rw [Int.mul_comm]
          exact this
        generalize hd : ((S : Int) - (o : Int) / 2 - (M : Int)) = d at *
        have l1 : d ≤ (o : Int) / 2 := by omega
        have l2 : -d ≤ (o : Int) / 2 := by omega
        have l3 : (if d < 0 then -d else d) ≤ (o : Int) / 2 := by split <;> omega
        refine ⟨l3, .inr ?_⟩
        have := Int.mul_le_mul_of_nonneg_right (show (if d < 0 then -d else d) ≤ (o : Int) - 1 by omega) hR
        omega
    have ho : evE L.T (calls L.T L.ds k) (.bin .fdiv (.var 10) (.int 2)) k (Wf a b (some (.d (.int (r : Int)))) w2 (some (.d (dR rb))) (some (.L false ((hp_ r rb).map encH))) (some (.L false ((SZ r rb).map D.int))) w6 (some (.d (.int w))) (some (.L false ((inn r rb w).map encH))) (some (.d (.int (sumS (inn r rb w) : Int)))) (some (.d (.int (lastS (inn r rb w) : Int)))) (some (.d (.tup [.int (lw r rb w).1, .int (lw r rb w).2]))) (some (.d (.int (manyW r rb w : Int)))) (some (.d (.int (offW r rb w)))) none none none none) = .ok (.d (.int ((lastS (inn r rb w) : Int) / 2))) (Wf a b (some (.d (.int (r : Int)))) w2 (some (.d (dR rb))) (some (.L false ((hp_ r rb).map encH))) (some (.L false ((SZ r rb).map D.int))) w6 (some (.d (.int w))) (some (.L false ((inn r rb w).map encH))) (some (.d (.int (sumS (inn r rb w) : Int)))) (some (.d (.int (lastS (inn r rb w) : Int)))) (some (.d (.tup [.int (lw r rb w).1, .int (lw r rb w).2]))) (some (.d (.int (manyW r rb w : Int)))) (some (.d (.int (offW r rb w)))) none none none none) := by
      show oko (bin .fdiv (.d (.int _)) (.d (.int 2))) _ = _
      rw [bin_fdiv_i _ _ (by omega) (by omega)]
      rfl
    have c1 : evE L.T (calls L.T L.ds k) (.cmp .le (.var 13) (.bin .fdiv (.var 10) (.int 2))) k (Wf a b (some (.d (.int (r : Int)))) w2 (some (.d (dR rb))) (some (.L false ((hp_ r rb).map encH))) (some (.L false ((SZ r rb).map D.int))) w6 (some (.d (.int w))) (some (.L false ((inn r rb w).map encH))) (some (.d (.int (sumS (inn r rb w) : Int)))) (some (.d (.int (lastS (inn r rb w) : Int)))) (some (.d (.tup [.int (lw r rb w).1, .int (lw r rb w).2]))) (some (.d (.int (manyW r rb w : Int)))) (some (.d (.int (offW r rb w)))) none none none none) = .ok (.d (.bl true)) (Wf a b (some (.d (.int (r : Int)))) w2 (some (.d (dR rb))) (some (.L false ((hp_ r rb).map encH))) (some (.L false ((SZ r rb).map D.int))) w6 (some (.d (.int w))) (some (.L false ((inn r rb w).map encH))) (some (.d (.int (sumS (inn r rb w) : Int)))) (some (.d (.int (lastS (inn r rb w) : Int)))) (some (.d (.tup [.int (lw r rb w).1, .int (lw r rb w).2]))) (some (.d (.int (manyW r rb w : Int)))) (some (.d (.int (offW r rb w)))) none none none none) := by
      have v13 : evE L.T (calls L.T L.ds k) (.var 13) k (Wf a b (some (.d (.int (r : Int)))) w2 (some (.d (dR rb))) (some (.L false ((hp_ r rb).map encH))) (some (.L false ((SZ r rb).map D.int))) w6 (some (.d (.int w))) (some (.L false ((inn r rb w).map encH))) (some (.d (.int (sumS (inn r rb w) : Int)))) (some (.d (.int (lastS (inn r rb w) : Int)))) (some (.d (.tup [.int (lw r rb w).1, .int (lw r rb w).2]))) (some (.d (.int (manyW r rb w : Int)))) (some (.d (.int (offW r rb w)))) none none none none) = .ok (.d (.int (offW r rb w))) (Wf a b (some (.d (.int (r : Int)))) w2 (some (.d (dR rb))) (some (.L false ((hp_ r rb).map encH))) (some (.L false ((SZ r rb).map D.int))) w6 (some (.d (.int w))) (some (.L false ((inn r rb w).map encH))) (some (.d (.int (sumS (inn r rb w) : Int)))) (some (.d (.int (lastS (inn r rb w) : Int)))) (some (.d (.tup [.int (lw r rb w).1, .int (lw r rb w).2]))) (some (.d (.int (manyW r rb w : Int)))) (some (.d (.int (offW r rb w)))) none none none none) := rfl
      rw [v_cmp, v13, R.bind_ok, ho, R.bind_ok, rs_d, rs_d, cmp_le_i, decide_eq_true hoff.1]
      rfl
    have c2 : evE L.T (calls L.T L.ds k) (.cmp .lt (.var 10) (.int 2)) k (Wf a b (some (.d (.int (r : Int)))) w2 (some (.d (dR rb))) (some (.L false ((hp_ r rb).map encH))) (some (.L false ((SZ r rb).map D.int))) w6 (some (.d (.int w))) (some (.L false ((inn r rb w).map encH))) (some (.d (.int (sumS (inn r rb w) : Int)))) (some (.d (.int (lastS (inn r rb w) : Int)))) (some (.d (.tup [.int (lw r rb w).1, .int (lw r rb w).2]))) (some (.d (.int (manyW r rb w : Int)))) (some (.d (.int (offW r rb w)))) none none none none) = .ok (.d (.bl (decide ((lastS (inn r rb w) : Int) < 2)))) (Wf a b (some (.d (.int (r : Int)))) w2 (some (.d (dR rb))) (some (.L false ((hp_ r rb).map encH))) (some (.L false ((SZ r rb).map D.int))) w6 (some (.d (.int w))) (some (.L false ((inn r rb w).map encH))) (some (.d (.int (sumS (inn r rb w) : Int)))) (some (.d (.int (lastS (inn r rb w) : Int)))) (some (.d (.tup [.int (lw r rb w).1, .int (lw r rb w).2]))) (some (.d (.int (manyW r rb w : Int)))) (some (.d (.int (offW r rb w)))) none none none none) := rfl
    rw [decide_eq_false z, if_neg (by decide), v_ao1, v_and, v_ao2, c1, onB_b, if_neg (by decide), v_ao1, v_or, v_ao2, c2, onB_b]
    by_cases g : (lastS (inn r rb w) : Int) < 2
    · rw [decide_eq_true g, if_pos (by decide)]
      rfl
    · rw [decide_eq_false g, if_neg (by decide), v_ao1]
      have h2 := hoff.2.resolve_left (by omega)
      have c3 : evE L.T (calls L.T L.ds k) (.cmp .lt (.bin .mul (.var 13) (.bin .sub (.var 1) (.int 1))) (.var 12)) k (Wf a b (some (.d (.int (r : Int)))) w2 (some (.d (dR rb))) (some (.L false ((hp_ r rb).map encH))) (some (.L false ((SZ r rb).map D.int))) w6 (some (.d (.int w))) (some (.L false ((inn r rb w).map encH))) (some (.d (.int (sumS (inn r rb w) : Int)))) (some (.d (.int (lastS (inn r rb w) : Int)))) (some (.d (.tup [.int (lw r rb w).1, .int (lw r rb w).2]))) (some (.d (.int (manyW r rb w : Int)))) (some (.d (.int (offW r rb w)))) none none none none) = .ok (.d (.bl true)) (Wf a b (some (.d (.int (r : Int)))) w2 (some (.d (dR rb))) (some (.L false ((hp_ r rb).map encH))) (some (.L false ((SZ r rb).map D.int))) w6 (some (.d (.int w))) (some (.L false ((inn r rb w).map encH))) (some (.d (.int (sumS (inn r rb w) : Int)))) (some (.d (.int (lastS (inn r rb w) : Int)))) (some (.d (.tup [.int (lw r rb w).1, .int (lw r rb w).2]))) (some (.d (.int (manyW r rb w : Int)))) (some (.d (.int (offW r rb w)))) none none none none) := by
        have v13 : evE L.T (calls L.T L.ds k) (.var 13) k (Wf a b (some (.d (.int (r : Int)))) w2 (some (.d (dR rb))) (some (.L false ((hp_ r rb).map encH))) (some (.L false ((SZ r rb).map D.int))) w6 (some (.d (.int w))) (some (.L false ((inn r rb w).map encH))) (some (.d (.int (sumS (inn r rb w) : Int)))) (some (.d (.int (lastS (inn r rb w) : Int)))) (some (.d (.tup [.int (lw r rb w).1, .int (lw r rb w).2]))) (some (.d (.int (manyW r rb w : Int)))) (some (.d (.int (offW r rb w)))) none none none none) = .ok (.d (.int (offW r rb w))) (Wf a b (some (.d (.int (r : Int)))) w2 (some (.d (dR rb))) (some (.L false ((hp_ r rb).map encH))) (some (.L false ((SZ r rb).map D.int))) w6 (some (.d (.int w))) (some (.L false ((inn r rb w).map encH))) (some (.d (.int (sumS (inn r rb w) : Int)))) (some (.d (.int (lastS (inn r rb w) : Int)))) (some (.d (.tup [.int (lw r rb w).1, .int (lw r rb w).2]))) (some (.d (.int (manyW r rb w : Int)))) (some (.d (.int (offW r rb w)))) none none none none) := rfl
        have vr : evE L.T (calls L.T L.ds k) (.bin .sub (.var 1) (.int 1)) k (Wf a b (some (.d (.int (r : Int)))) w2 (some (.d (dR rb))) (some (.L false ((hp_ r rb).map encH))) (some (.L false ((SZ r rb).map D.int))) w6 (some (.d (.int w))) (some (.L false ((inn r rb w).map encH))) (some (.d (.int (sumS (inn r rb w) : Int)))) (some (.d (.int (lastS (inn r rb w) : Int)))) (some (.d (.tup [.int (lw r rb w).1, .int (lw r rb w).2]))) (some (.d (.int (manyW r rb w : Int)))) (some (.d (.int (offW r rb w)))) none none none none) = .ok (.d (.int ((r : Int) - 1))) (Wf a b (some (.d (.int (r : Int)))) w2 (some (.d (dR rb))) (some (.L false ((hp_ r rb).map encH))) (some (.L false ((SZ r rb).map D.int))) w6 (some (.d (.int w))) (some (.L false ((inn r rb w).map encH))) (some (.d (.int (sumS (inn r rb w) : Int)))) (some (.d (.int (lastS (inn r rb w) : Int)))) (some (.d (.tup [.int (lw r rb w).1, .int (lw r rb w).2]))) (some (.d (.int (manyW r rb w : Int)))) (some (.d (.int (offW r rb w)))) none none none none) := rfl
        have v12 : evE L.T (calls L.T L.ds k) (.var 12) k (Wf a b (some (.d (.int (r : Int)))) w2 (some (.d (dR rb))) (some (.L false ((hp_ r rb).map encH))) (some (.L false ((SZ r rb).map D.int))) w6 (some (.d (.int w))) (some (.L false ((inn r rb w).map encH))) (some (.d (.int (sumS (inn r rb w) : Int)))) (some (.d (.int (lastS (inn r rb w) : Int)))) (some (.d (.tup [.int (lw r rb w).1, .int (lw r rb w).2]))) (some (.d (.int (manyW r rb w : Int)))) (some (.d (.int (offW r rb w)))) none none none none) = .ok (.d (.int (manyW r rb w : Int))) (Wf a b (some (.d (.int (r : Int)))) w2 (some (.d (dR rb))) (some (.L false ((hp_ r rb).map encH))) (some (.L false ((SZ r rb).map D.int))) w6 (some (.d (.int w))) (some (.L false ((inn r rb w).map encH))) (some (.d (.int (sumS (inn r rb w) : Int)))) (some (.d (.int (lastS (inn r rb w) : Int)))) (some (.d (.tup [.int (lw r rb w).1, .int (lw r rb w).2]))) (some (.d (.int (manyW r rb w : Int)))) (some (.d (.int (offW r rb w)))) none none none none) := rfl
        have hsm : (sml (offW r rb w) || sml ((r : Int) - 1)) = true := by
          have : sml ((r : Int) - 1) = true := by simp [sml]; omega
          rw [this, Bool.or_true]
        rw [v_cmp, v_bin, v13, R.bind_ok, vr, R.bind_ok, rs_d, rs_d, bin_mul_i _ _ hsm, oko_some, R.bind_ok, v12, R.bind_ok, rs_d, rs_d, cmp_lt_i, decide_eq_true h2]
        rfl
      rw [c3]
      rfl
end
end Ev.K65
/-! P65r: the windows (4): the def. -/
namespace Ev.K65
/-- a def that is given the box, and tells true -/
theorem box_call (k f : Nat) (d : Def) (hd : L.ds[f]? = some d) (hp : d.np = 1) (a b a' b' : Int) (ρ' : Ev)
    (h : evB L.T (calls L.T L.ds k) d.body k (bx a b :: List.replicate d.nl none) = .ok (.ret (.d (.bl true))) (bx a' b' :: ρ')) (j : Nat) (p : Bool) (ρ : Ev) (hj : ρ[j]? = some (some (.L p [.int a, .int b]))) :
    callF (calls L.T L.ds (k + 1)) (k + 1) f [.bor j] ρ = .ok (.d (.bl true)) (ρ.set j (some (.L p [.int a', .int b']))) :=
  callF_gen L.T L.ds k f d hd _ [some (.L true [.int a, .int b])] [some (.L true [.int a', .int b'])] ρ (bx a' b' :: ρ') _ _ (by simp [handL, hj]) rfl (by simp [hp]) h rfl (by simp [handB, hj])
theorem t16 (k : Nat) (hk : 10 ≤ k) (a b : Int) (ha : 0 ≤ a) (hb : 0 ≤ b) : ∃ (a' b' : Int) (ρ' : Ev), 0 ≤ a' ∧ 0 ≤ b' ∧ evB L.T (calls L.T L.ds k) d16.body k (bx a b :: List.replicate d16.nl none) = .ok (.ret (.d (.bl true))) (bx a' b' :: ρ') := by
  obtain ⟨a1, b1, r, ha1, hb1, r2, r5, e1⟩ := w1 k hk a b ha hb
  obtain ⟨a2, b2, dn, ha2, hb2, d1, d3, e2⟩ := w2 k hk a1 b1 ha1 hb1 r
  obtain ⟨a3, b3, rb, ha3, hb3, hr, hl, e3⟩ := w3 k hk a2 b2 ha2 hb2 r dn d1 d3
  have e4 := w4 k hk a3 b3 r r2 r5 rb hr (some (.d (.int dn)))
  have e5 := w5 k hk a3 b3 r r2 r5 rb hr (some (.d (.int dn)))
  have e6 := q6 k a3 b3 r r2 rb hr (some (.d (.int dn)))
  have e7 := q7 k a3 b3 r r2 rb hr (some (.d (.int dn)))
  have e8 := q8 k a3 b3 r r2 rb hr (some (.d (.int dn)))
  have e9 := q9 k a3 b3 r rb (some (.d (.int dn)))
  obtain ⟨w6, e10⟩ := q10 k a3 b3 r r2 rb hr (some (.d (.int dn)))
  obtain ⟨a4, b4, w, ha4, hb4, w0, w1, e11⟩ := q11 k a3 b3 r r2 rb hr (some (.d (.int dn))) w6 hk ha3 hb3
  have e12 := q12 k a4 b4 r r2 rb hr (some (.d (.int dn))) w6 w
  have e13 := q13 k a4 b4 r r2 rb hr (some (.d (.int dn))) w6 w
  have e14 := q14 k a4 b4 r r2 rb hr (some (.d (.int dn))) w6 w
  have e15 := q15 k a4 b4 r r2 rb hr (some (.d (.int dn))) w6 w hk r5 w0 (by omega)
  have e16 := q16 k a4 b4 r r2 rb hr (some (.d (.int dn))) w6 w w0
  have e17 := q17 k a4 b4 r r2 rb hr (some (.d (.int dn))) w6 w
  have e18 := q18 k a4 b4 r r2 rb hr (some (.d (.int dn))) w6 w
  obtain ⟨ρ', e19⟩ := q19 k a4 b4 r r2 rb hr (some (.d (.int dn))) w6 w r5
  refine ⟨a4, b4, ρ', ha4, hb4, ?_⟩
  exact (evB_nx e1 _).trans ((evB_nx e2 _).trans ((evB_nx e3 _).trans ((evB_nx e4 _).trans ((evB_nx e5 _).trans ((evB_nx e6 _).trans ((evB_nx e7 _).trans ((evB_nx e8 _).trans ((evB_nx e9 _).trans ((evB_nx e10 _).trans ((evB_nx e11 _).trans ((evB_nx e12 _).trans ((evB_nx e13 _).trans ((evB_nx e14 _).trans ((evB_nx e15 _).trans ((evB_nx e16 _).trans ((evB_nx e17 _).trans ((evB_nx e18 _).trans (evB_fl e19 _))))))))))))))))))
end Ev.K65
/-! P65s: the spans (1): drawn. -/
namespace Ev.K65
theorem fold_no (ps : List (Int × Int)) (M : Int) : ∀ (ts : List Int) (found : List (Int × Int)), (∀ t ∈ ts, (cov ps t : Int) ≠ M) → ts.foldl (stepT ps M) found = found
  | [], _, _ => rfl
  | t :: ts, found, h => by
    rw [List.foldl_cons, stepT, step_no M found _ (h t (by simp))]
    exact fold_no ps M ts found fun x hx => h x (List.mem_cons_of_mem _ hx)
theorem runs_times {ps : List (Int × Int)} (h : Sp ps) : (rg (-80) 120).foldl (stepT ps (mostP ps)) [] = runs ps := by
  obtain ⟨w, _⟩ := whole h
  have mo := most_ok h
  have l := w.lo
  have u := w.hi
  have c := w.lt
  rw [rg_append (mid := w.c) (by omega) (by omega), rg_append (lo := w.c) (mid := w.e) (by omega) (by omega), List.foldl_append, List.foldl_append]
  rw [fold_no ps (mostP ps) (rg (-80) w.c) [] (fun t ht => by
    have := w.off t (.inl ((rg_mem _ _ _).mp ht).2)
    have := mo.pos
    omega)]
  rw [fold_no ps (mostP ps) (rg w.e 120) _ (fun t ht => by
    have := w.off t (.inr ((rg_mem _ _ _).mp ht).1)
    have := mo.pos
    omega)]
  exact (w.fold _ _).symm
def good (ps : List (Int × Int)) (G : Int) : List Int := (rg (-80) 120).filter fun t => decide (G ≤ (cov ps t : Int))
theorem good_mem (ps : List (Int × Int)) (G t : Int) : t ∈ good ps G ↔ (-80 ≤ t ∧ t < 120) ∧ G ≤ (cov ps t : Int) := by
  unfold good
  rw [List.mem_filter, rg_mem]
  simp
theorem good_in {ps : List (Int × Int)} (h : Sp ps) {G : Int} : ∀ q ∈ goodP ps G, q.1 ∈ good ps G ∧ q.2.1 ∈ good ps G ∧ q.1 ≤ q.2.1 := by
  intro q hq
  obtain ⟨w, _⟩ := whole h
  have l := w.lo
  have u := w.hi
  obtain ⟨h1, h2⟩ := List.mem_filter.mp hq
  simp only [decide_eq_true_eq] at h2
  obtain ⟨a1, a2, a3, a4⟩ := w.ok.inn q h1
  have e1 := a4 q.1 (Int.le_refl _) a2
  have e2 := a4 q.2.1 a2 (Int.le_refl _)
  rw [good_mem, good_mem]
  omega
theorem good_out {ps : List (Int × Int)} (h : Sp ps) {G : Int} (g1 : 1 ≤ G) : ∀ t ∈ good ps G, ∃ q ∈ goodP ps G, q.1 ≤ t ∧ t ≤ q.2.1 := by
  intro t ht
  obtain ⟨w, _⟩ := whole h
  obtain ⟨_, h2⟩ := (good_mem ps G t).mp ht
  by_cases g : w.c ≤ t ∧ t < w.e
  · obtain ⟨q, hq, a1, a2⟩ := w.ok.all t g.1 g.2
    have e := (w.ok.inn q hq).2.2.2 t a1 a2
    exact ⟨q, List.mem_filter.mpr ⟨hq, by simp only [decide_eq_true_eq]; omega⟩, a1, a2⟩
  · have := w.off t (by omega)
    omega
theorem goodP_asc {ps : List (Int × Int)} (h : Sp ps) (G : Int) : (goodP ps G).Pairwise fun q q' => q.2.1 < q'.1 := by
  obtain ⟨w, _⟩ := whole h
  exact w.ok.asc.sublist List.filter_sublist
/-- no good time, or the good pieces' ends are the least and the greatest -/
theorem good_ends {ps : List (Int × Int)} (h : Sp ps) {G : Int} (g1 : 1 ≤ G) : (goodP ps G = [] ∧ good ps G = []) ∨ ∃ a b, (goodP ps G).head? = some a ∧ (goodP ps G).getLast? = some b ∧ a.1 ∈ good ps G ∧ b.2.1 ∈ good ps G ∧ ∀ t ∈ good ps G, a.1 ≤ t ∧ t ≤ b.2.1 := by
  have hin := good_in h (G := G)
  have hout := good_out h g1
  have asc := goodP_asc h G
  generalize goodP ps G = gp at *
  cases gp with
  | nil =>
    refine .inl ⟨rfl, ?_⟩
    cases hg : good ps G with
    | nil => rfl
    | cons t ts =>
      rw [hg] at hout
      obtain ⟨q, hq, _⟩ := hout t (by simp)
      cases hq
  | cons a as =>
    refine .inr ?_
    obtain ⟨A, b, e⟩ := (last_cases (a :: as)).resolve_left (by simp)
    refine ⟨a, b, rfl, by rw [e, List.getLast?_append]; rfl, (hin a (by simp)).1, (hin b (by rw [e]; simp)).2.1, fun t ht => ?_⟩
    obtain ⟨q, hq, q1, q2⟩ := hout t ht
    constructor
    · rcases List.mem_cons.mp hq with rfl | hq
      · exact q1
      · have := (List.pairwise_cons.mp asc).1 q hq
        have := (hin a (by simp)).2.2
        omega
    · rw [e] at hq asc
      rcases List.mem_append.mp hq with hq | hq
      · have := (List.pairwise_append.mp asc).2.2 q hq b (by simp)
        have := (hin b (by rw [e]; simp)).2.2
        omega
      · rw [List.mem_singleton] at hq
        rw [← hq]
        exact q2
def wrongN (ps : List (Int × Int)) (t : Int) : Nat := (ps.filter fun p => !(decide (p.1 ≤ t) && decide (t ≤ p.2))).length
theorem filt_two {α : Type} (p : α → Bool) : ∀ l : List α, (l.filter p).length + (l.filter fun x => !p x).length = l.length
  | [] => rfl
  | x :: xs => by
    have ih := filt_two p xs
    cases h : p x <;> simp [List.filter_cons, h] <;> omega
theorem wrong_cov (ps : List (Int × Int)) (t : Int) : cov ps t + wrongN ps t = ps.length := filt_two _ ps
/-- two by two is all -/
theorem lows_max : ∀ (ps : List (Int × Int)), ps ≠ [] → ∃ p ∈ ps, ∀ q ∈ ps, q.1 ≤ p.1
  | [], h => absurd rfl h
  | [p], _ => ⟨p, by simp, fun q hq => by rw [List.mem_singleton] at hq; rw [hq]; exact Int.le_refl _⟩
  | a :: b :: ps, _ => by
    obtain ⟨p, hp, h⟩ := lows_max (b :: ps) (by simp)
    by_cases g : a.1 ≤ p.1
    · refine ⟨p, List.mem_cons_of_mem _ hp, fun q hq => ?_⟩
      rcases List.mem_cons.mp hq with rfl | hq
      · exact g
      · exact h q hq
    · refine ⟨a, by simp, fun q hq => ?_⟩
      rcases List.mem_cons.mp hq with rfl | hq
      · exact Int.le_refl _
      · have := h q hq
        omega
theorem cov_le (ps : List (Int × Int)) (t : Int) : cov ps t ≤ ps.length := List.length_filter_le _ _
theorem cov_all (ps : List (Int × Int)) (t : Int) : cov ps t = ps.length ↔ ∀ p ∈ ps, p.1 ≤ t ∧ t ≤ p.2 := by
  unfold cov
  rw [List.length_filter_eq_length_iff]
  simp
theorem helly {ps : List (Int × Int)} (h : Sp ps) : (∀ p ∈ ps, ∀ q ∈ ps, p.1 ≤ q.2) ↔ mostP ps = (ps.length : Int) := by
  have mo := most_ok h
  have hp := h.pos
  constructor
  · intro g
    obtain ⟨p, hp, hm⟩ := lows_max ps (by intro e; rw [e] at hp; simp at hp)
    have hc := (cov_all ps p.1).mpr fun q hq => ⟨hm q hq, g p hp q hq⟩
    have a1 := mo.cov p.1
    obtain ⟨t, _, _, e⟩ := mo.at_
    have := cov_le ps t
    omega
  · intro g p hp q hq
    obtain ⟨t, _, _, e⟩ := mo.at_
    have hc := (cov_all ps t).mp (by omega)
    have := hc p hp
    have := hc q hq
    omega
def twoL (ps : List (Int × Int)) : List (Int × Int) := ps.filter fun p => !decide ((ps.filter fun q => decide (q.2 < p.1)) = [])
theorem two_most {ps : List (Int × Int)} (h : Sp ps) : twoL ps = [] ↔ mostP ps = (ps.length : Int) := by
  rw [← helly h]
  unfold twoL
  rw [List.filter_eq_nil_iff]
  simp only [Bool.not_eq_true', decide_eq_false_iff_not, Classical.not_not, List.filter_eq_nil_iff, decide_eq_true_eq]
  constructor
  · intro g p hp q hq
    have := g p hp q hq
    omega
  · intro g p hp q hq
    have := g p hp q hq
    omega

abbrev Vf (a b : Int) (w1 w2 w3 w4 w5 w6 w7 w8 w9 w10 w11 w12 w13 w14 w15 w16 w17 w18 w19 : Option W) : Ev := [bx a b, w1, w2, w3, w4, w5, w6, w7, w8, w9, w10, w11, w12, w13, w14, w15, w16, w17, w18, w19]
def aS : List S := [.set 12 (.bin .sub (.call 13 [.var 0, .int 20]) (.int 10)),
    .ex (.app 1 (.tup [.var 12, .bin .add (.var 12) (.call 13 [.var 0, .int 10])]))]
def SpW (p : Int × Int) : Prop := -10 ≤ p.1 ∧ p.1 ≤ p.2 ∧ p.2 ≤ 18
section
variable (k : Nat) (hk : 10 ≤ k)
include hk
theorem aSturn (a b : Int) (ha : 0 ≤ a) (hb : 0 ≤ b) (ps : List (Int × Int)) (hl : ps.length ≤ 100) (w2 : Option W) (o12 : Option D) : ∃ (a' b' : Int) (p : Int × Int), 0 ≤ a' ∧ 0 ≤ b' ∧ SpW p ∧
    evB L.T (calls L.T L.ds k) aS k (Vf a b (some (.L false (ps.map encP))) w2 none none none none none none none none none (dw o12) none none none none none none none) = .ok .nx (Vf a' b' (some (.L false ((ps ++ [p]).map encP))) w2 none none none none none none none none none (some (.d (.int p.1))) none none none none none none none) := by
  obtain ⟨a1, b1, n, x1, x2, x3, x4, e1⟩ := draw_w a b 20 ha hb (by omega) (by omega)
  have e1 := e1 k k 0 true (Vf a b (some (.L false (ps.map encP))) w2 none none none none none none none none none (dw o12) none none none none none none none) (.int 20) (by omega) (Nat.le_refl _) rfl rfl
  have e1 : evE L.T (calls L.T L.ds k) (.call 13 [.var 0, .int 20]) k (Vf a b (some (.L false (ps.map encP))) w2 none none none none none none none none none (dw o12) none none none none none none none) = .ok (.d (.int n)) (Vf a1 b1 (some (.L false (ps.map encP))) w2 none none none none none none none none none (dw o12) none none none none none none none) := e1
  obtain ⟨a2, b2, n2, y1, y2, y3, y4, e2⟩ := draw_w a1 b1 10 x1 x2 (by omega) (by omega)
  have e2 := e2 k k 0 true (Vf a1 b1 (some (.L false (ps.map encP))) w2 none none none none none none none none none (some (.d (.int (n - 10)))) none none none none none none none) (.int 10) (by omega) (Nat.le_refl _) rfl rfl
  have e2 : evE L.T (calls L.T L.ds k) (.call 13 [.var 0, .int 10]) k (Vf a1 b1 (some (.L false (ps.map encP))) w2 none none none none none none none none none (some (.d (.int (n - 10)))) none none none none none none none) = .ok (.d (.int n2)) (Vf a2 b2 (some (.L false (ps.map encP))) w2 none none none none none none none none none (some (.d (.int (n - 10)))) none none none none none none none) := e2
  refine ⟨a2, b2, (n - 10, n - 10 + n2), y1, y2, ⟨by show -10 ≤ n - 10; omega, by show n - 10 ≤ n - 10 + n2; omega, by show n - 10 + n2 ≤ 18; omega⟩, ?_⟩
  have s1 : evS L.T (calls L.T L.ds k) (.set 12 (.bin .sub (.call 13 [.var 0, .int 20]) (.int 10))) k (Vf a b (some (.L false (ps.map encP))) w2 none none none none none none none none none (dw o12) none none none none none none none) = .ok .nx (Vf a1 b1 (some (.L false (ps.map encP))) w2 none none none none none none none none none (some (.d (.int (n - 10)))) none none none none none none none) := by
    rw [v_set, v_bin, e1, R.bind_ok, v_int, R.bind_ok, rs_d, rs_d, bin_sub_i, oko_some, R.bind_ok, assign_d, store_dw _ 12 o12 _ rfl]
    rfl
  have s2 : evS L.T (calls L.T L.ds k) (.ex (.app 1 (.tup [.var 12, .bin .add (.var 12) (.call 13 [.var 0, .int 10])]))) k (Vf a1 b1 (some (.L false (ps.map encP))) w2 none none none none none none none none none (some (.d (.int (n - 10)))) none none none none none none none) = .ok .nx (Vf a2 b2 (some (.L false ((ps ++ [(n - 10, n - 10 + n2)]).map encP))) w2 none none none none none none none none none (some (.d (.int (n - 10)))) none none none none none none none) := by
    have v12 : evE L.T (calls L.T L.ds k) (.var 12) k (Vf a1 b1 (some (.L false (ps.map encP))) w2 none none none none none none none none none (some (.d (.int (n - 10)))) none none none none none none none) = .ok (.d (.int (n - 10))) (Vf a1 b1 (some (.L false (ps.map encP))) w2 none none none none none none none none none (some (.d (.int (n - 10)))) none none none none none none none) := rfl
    have tp : evE L.T (calls L.T L.ds k) (.tup [.var 12, .bin .add (.var 12) (.call 13 [.var 0, .int 10])]) k (Vf a1 b1 (some (.L false (ps.map encP))) w2 none none none none none none none none none (some (.d (.int (n - 10)))) none none none none none none none) = .ok (.d (encP (n - 10, n - 10 + n2))) (Vf a2 b2 (some (.L false (ps.map encP))) w2 none none none none none none none none none (some (.d (.int (n - 10)))) none none none none none none none) := by
      rw [v_tup, v_lcons, v12, R.bind_ok, v_lcons, v_bin, v12, R.bind_ok, e2]
      rfl
    have hc : (ps.map encP).length < cap := by rw [List.length_map]; show _ < 16777216; omega
    have me : (ps ++ [(n - 10, n - 10 + n2)]).map encP = ps.map encP ++ [encP (n - 10, n - 10 + n2)] := by rw [List.map_append]; rfl
    rw [v_ex, v_app]
    show R.bind (R.bind (evE L.T (calls L.T L.ds k) (.tup [.var 12, .bin .add (.var 12) (.call 13 [.var 0, .int 10])]) k (Vf a1 b1 (some (.L false (ps.map encP))) w2 none none none none none none none none none (some (.d (.int (n - 10)))) none none none none none none none)) _) _ = _
    rw [tp, R.bind_ok, keep_d, R.opt_some]
    show (R.bind (if (ps.map encP).length < cap then R.ok (O.d .non) _ else R.stuck) _) = _
    rw [if_pos hc, me]
    rfl
  unfold aS
  rw [evB_nx s1, evB_nx s2]
  rfl
theorem aSloop (ρ0 : Ev) : ∀ (xs : List D) (a b : Int) (ps : List (Int × Int)) (o2 o12 : Option D), 0 ≤ a → 0 ≤ b → ps.length + xs.length ≤ 90 → (∀ p ∈ ps, SpW p) → ∃ (a' b' : Int) (qs : List (Int × Int)) (o2' o12' : Option D), 0 ≤ a' ∧ 0 ≤ b' ∧ (∀ p ∈ qs, SpW p) ∧ qs.length = ps.length + xs.length ∧
    forL [] ρ0 (.nm 2) (evB L.T (calls L.T L.ds k) aS k) xs (Vf a b (some (.L false (ps.map encP))) (dw o2) none none none none none none none none none (dw o12) none none none none none none none) = .ok .nx (Vf a' b' (some (.L false (qs.map encP))) (dw o2') none none none none none none none none none (dw o12') none none none none none none none)
  | [], a, b, ps, o2, o12, ha, hb, hl, hp => ⟨a, b, ps, o2, o12, ha, hb, hp, rfl, rfl⟩
  | x :: xs, a, b, ps, o2, o12, ha, hb, hl, hp => by
    rw [List.length_cons] at hl
    obtain ⟨a1, b1, p, x1, x2, x3, e1⟩ := aSturn k hk a b ha hb ps (by omega) (some (.d x)) o12
    obtain ⟨a2, b2, qs, q2, q12, y1, y2, y3, y4, e2⟩ := aSloop ρ0 xs a1 b1 (ps ++ [p]) (some x) (some (.int p.1)) x1 x2 (by simp; omega) (fun q hq => by
      rcases List.mem_append.mp hq with hq | hq
      · exact hp q hq
      · rw [List.mem_singleton] at hq
        rw [hq]; exact x3)
    refine ⟨a2, b2, qs, q2, q12, y1, y2, y3, by rw [y4, List.length_append, List.length_singleton, List.length_cons]; omega, ?_⟩
    have hbd : bindT (.nm 2) x (Vf a b (some (.L false (ps.map encP))) (dw o2) none none none none none none none none none (dw o12) none none none none none none none) = some (Vf a b (some (.L false (ps.map encP))) (some (.d x)) none none none none none none none none none (dw o12) none none none none none none none) := by
      show store _ 2 _ = _
      rw [store_dw _ 2 o2 _ rfl]
      rfl
    show (if stands ρ0 _ [] = true then R.opt (bindT _ x _) _ else _) = _
    rw [if_pos (show stands ρ0 _ [] = true from rfl), hbd, R.opt_some, e1, R.bind_ok]
    exact e2
theorem a1 (a b : Int) (ha : 0 ≤ a) (hb : 0 ≤ b) : ∃ (a' b' : Int) (ps : List (Int × Int)) (o2 o12 : Option D), 0 ≤ a' ∧ 0 ≤ b' ∧ Sp ps ∧ (∀ p ∈ ps, SpW p) ∧ ps.length ≤ 8 ∧ evS L.T (calls L.T L.ds k) (.for_ (.nm 2) .rng [.bin .add (.int 1) (.call 13 [.var 0, .int 8])] aS) k (Vf a b (some (.L false (([] : List (Int × Int)).map encP))) none none none none none none none none none none none none none none none none none none) = .ok .nx (Vf a' b' (some (.L false (ps.map encP))) (dw o2) none none none none none none none none none (dw o12) none none none none none none none) := by
  obtain ⟨a1, b1, n, x1, x2, x3, x4, e1⟩ := draw_w a b 8 ha hb (by omega) (by omega)
  have e1 := e1 k k 0 true (Vf a b (some (.L false (([] : List (Int × Int)).map encP))) none none none none none none none none none none none none none none none none none none) (.int 8) (by omega) (Nat.le_refl _) rfl rfl
  have e1 : evE L.T (calls L.T L.ds k) (.call 13 [.var 0, .int 8]) k (Vf a b (some (.L false (([] : List (Int × Int)).map encP))) none none none none none none none none none none none none none none none none none none) = .ok (.d (.int n)) (Vf a1 b1 (some (.L false (([] : List (Int × Int)).map encP))) none none none none none none none none none none none none none none none none none none) := e1
  obtain ⟨a2, b2, qs, q2, q12, y1, y2, y3, y4, e2⟩ := aSloop k hk (Vf a1 b1 (some (.L false (([] : List (Int × Int)).map encP))) none none none none none none none none none none none none none none none none none none) (upTo 0 (1 + n)) a1 b1 [] none none x1 x2 (by rw [upTo_len]; simp; omega) (fun p hp => by cases hp)
  rw [upTo_len, List.length_nil] at y4
  refine ⟨a2, b2, qs, q2, q12, y1, y2, ⟨by omega, by omega, fun p hp => ?_, fun p hp => (y3 p hp).2.1⟩, y3, by omega, ?_⟩
  · obtain ⟨z1, z2, z3⟩ := y3 p hp
    omega
  · rw [v_for, v_lcons, v_bin, v_int, R.bind_ok, e1, R.bind_ok, rs_d, rs_d, bin_add_i, oko_some, R.bind_ok, v_lnil, R.bind_ok, iter_rng1 _ _ (inR_sm _ (by omega) (by omega)), R.bind_ok]
    exact e2
end
/-! ### times, in plain lists -/
theorem cov_out {ps : List (Int × Int)} (h : ∀ p ∈ ps, SpW p) (t : Int) (ht : t < -10 ∨ 18 < t) : cov ps t = 0 := cov_zero ps t fun p hp => by
  obtain ⟨h1, h2, h3⟩ := h p hp
  omega
theorem runs_W {ps : List (Int × Int)} (hs : Sp ps) (h : ∀ p ∈ ps, SpW p) : (rg (-12) 25).foldl (stepT ps (mostP ps)) [] = runs ps := by
  have mo := most_ok hs
  rw [← runs_times hs, rg_append (lo := -80) (mid := -12) (hi := 120) (by omega) (by omega), rg_append (lo := -12) (mid := 25) (hi := 120) (by omega) (by omega), List.foldl_append, List.foldl_append]
  rw [fold_no ps (mostP ps) (rg (-80) (-12)) [] (fun t ht => by
    have := cov_out h t (.inl (by have := (rg_mem _ _ _).mp ht; omega))
    have := mo.pos
    omega)]
  rw [fold_no ps (mostP ps) (rg 25 120) _ (fun t ht => by
    have := cov_out h t (.inr (by have := (rg_mem _ _ _).mp ht; omega))
    have := mo.pos
    omega)]
def goodW (ps : List (Int × Int)) (G : Int) : List Int := (rg (-12) 25).filter fun t => decide (G ≤ (cov ps t : Int))
theorem goodW_mem {ps : List (Int × Int)} (h : ∀ p ∈ ps, SpW p) {G : Int} (g1 : 1 ≤ G) (t : Int) : t ∈ goodW ps G ↔ t ∈ good ps G := by
  rw [good_mem]
  unfold goodW
  rw [List.mem_filter, rg_mem, decide_eq_true_eq]
  constructor
  · rintro ⟨h1, h2⟩
    exact ⟨by omega, h2⟩
  · rintro ⟨h1, h2⟩
    refine ⟨?_, h2⟩
    by_cases c : t < -10 ∨ 18 < t
    · have := cov_out h t c
      omega
    · omega
theorem asc_head : ∀ (l : List Int) (x : Int), l.Pairwise (· < ·) → x ∈ l → (∀ t ∈ l, x ≤ t) → l.head? = some x
  | [], _, _, h, _ => by cases h
  | y :: l, x, hp, hx, hm => by
    have h1 := hm y (by simp)
    rcases List.mem_cons.mp hx with rfl | hx
    · rfl
    · have := (List.pairwise_cons.mp hp).1 x hx
      omega
theorem asc_last (l : List Int) (x : Int) (hp : l.Pairwise (· < ·)) (hx : x ∈ l) (hm : ∀ t ∈ l, t ≤ x) : l.getLast? = some x := by
  rcases last_cases l with rfl | ⟨A, y, rfl⟩
  · cases hx
  · rw [List.getLast?_append]
    have h1 := hm y (by simp)
    rcases List.mem_append.mp hx with hx | hx
    · have := (List.pairwise_append.mp hp).2.2 x hx y (by simp)
      omega
    · rw [List.mem_singleton] at hx
      rw [hx]
      rfl
theorem goodW_asc (ps : List (Int × Int)) (G : Int) : (goodW ps G).Pairwise (· < ·) := (rg_asc _ _).sublist List.filter_sublist
/-- no good time, or the ends are told -/
theorem goodW_ends {ps : List (Int × Int)} (hs : Sp ps) (h : ∀ p ∈ ps, SpW p) {G : Int} (g1 : 1 ≤ G) : (sureD (goodP ps G) = .non ∧ goodW ps G = []) ∨ ∃ a b : Int, sureD (goodP ps G) = .tup [.int a, .int b] ∧ (goodW ps G).head? = some a ∧ (goodW ps G).getLast? = some b ∧ -12 ≤ a ∧ a < 25 ∧ -12 ≤ b ∧ b < 25 ∧ ∀ t ∈ goodW ps G, a ≤ t ∧ t ≤ b := by
  rcases good_ends hs g1 with ⟨h1, h2⟩ | ⟨x, y, h1, h2, h3, h4, h5⟩
  · refine .inl ⟨by rw [h1]; rfl, ?_⟩
    rw [List.eq_nil_iff_forall_not_mem]
    intro t ht
    have := (goodW_mem h g1 t).mp ht
    rw [h2] at this
    cases this
  · have m1 := (goodW_mem h g1 x.1).mpr h3
    have m2 := (goodW_mem h g1 y.2.1).mpr h4
    have b1 := (rg_mem _ _ _).mp (List.mem_filter.mp m1).1
    have b2 := (rg_mem _ _ _).mp (List.mem_filter.mp m2).1
    refine .inr ⟨x.1, y.2.1, by unfold sureD; rw [h1, h2], asc_head _ _ (goodW_asc ps G) m1 fun t ht => (h5 t ((goodW_mem h g1 t).mp ht)).1, asc_last _ _ (goodW_asc ps G) m2 fun t ht => (h5 t ((goodW_mem h g1 t).mp ht)).2, b1.1, b1.2, b2.1, b2.2, fun t ht => h5 t ((goodW_mem h g1 t).mp ht)⟩
end Ev.K65
/-! P65t: the spans (2): counts. -/
namespace Ev
/-- a comprehension whose source changes a slot -/
theorem comp_enc1 {α : Type} (T : Top) (C : Calls) (n : Nat) (ρ0 ρ : Ev) (elt : E) (tg : Tg) (k : Ik) (es ifs : List E) (own ws : List Nat) (as : List α) (enc : α → D) (p : α → Bool) (g : α → D)
    (he : iterF k (evL T C es n ρ0) = .ok (as.map enc, ws) ρ) (hs : stands ρ (wipe ρ own) ws = true) (hb : back ρ (wipe ρ own) own = ρ) (hc : as.length ≤ cap)
    (h : ∀ x ∈ as, ∃ ρ2, bindT tg (enc x) (wipe ρ own) = some ρ2 ∧ wipe ρ2 own = wipe ρ own ∧ evTs T C ifs n ρ2 = .ok (p x) ρ2 ∧ (p x = true → ∃ o, evE T C elt n ρ2 = .ok o ρ2 ∧ keep ρ2 o = some (g x, ρ2))) :
    evE T C (.comp elt tg k es ifs own) n ρ0 = .ok (.L ((as.filter p).map g)) ρ := by
  rw [v_comp, he, R.bind_ok]
  unfold compEnd
  have e := walk_enc own ρ ws tg (evTs T C ifs n) (evE T C elt n) enc (fun x => if p x = true then [g x] else []) (wipe ρ own) hs as [] (fun x hx => by
    obtain ⟨ρ2, h1, h2, h3, h4⟩ := h x hx
    refine ⟨ρ2, h1, h2, ?_⟩
    by_cases c : p x = true
    · obtain ⟨o, h5, h6⟩ := h4 c
      exact .inr ⟨by rw [h3, c], o, g x, h5, h6, by rw [if_pos c]⟩
    · exact .inl ⟨by rw [h3]; simp at c; rw [c], by rw [if_neg c]⟩) (by simpa using hc)
  have f : (as.flatMap fun x => if p x = true then [g x] else []) = (as.filter p).map g := by
    clear e h hc he
    induction as with
    | nil => rfl
    | cons x xs ih => by_cases c : p x = true <;> simp [c, List.filter_cons, ih]
  rw [e, f]
  simp [hs, hb]
namespace K65
/-! ### the dict of counts -/
abbrev kvI (f : Int → Int) (t : Int) : D × D := (.int t, .int (f t))
theorem kv_any (f : Int → Int) (ts : List Int) (x : Int) : ((ts.map (kvI f)).any fun p => eqb p.1 (.int x)) = decide (x ∈ ts) := by
  induction ts with
  | nil => simp
  | cons k ks ih =>
    rw [List.map_cons, List.any_cons, ih, Bool.eq_iff_iff]
    simp only [eqb, Bool.or_eq_true, beq_iff_eq, decide_eq_true_eq, List.mem_cons]
    constructor
    · rintro (h | h)
      · exact .inl h.symm
      · exact .inr h
    · rintro (h | h)
      · exact .inl h.symm
      · exact .inr h
theorem dict_new (f : Int → Int) : ∀ (ts acc : List Int), (acc ++ ts).Nodup → dictFrom (acc.map (kvI f)) (ts.map (kvI f)) = (acc ++ ts).map (kvI f)
  | [], acc, _ => by simp [dictFrom]
  | t :: ts, acc, h => by
    have hn : t ∉ acc := fun z => by
      have := (List.nodup_append.mp h).2.2 t z t (by simp)
      exact this rfl
    have hp : putK (.int t) (.int (f t)) (acc.map (kvI f)) = (acc ++ [t]).map (kvI f) := by
      unfold putK
      rw [kv_any, if_neg (by simpa using hn), List.map_append]
      rfl
    rw [List.map_cons]
    show dictFrom (putK (.int t) (.int (f t)) (acc.map (kvI f))) (ts.map (kvI f)) = _
    rw [hp, dict_new f ts (acc ++ [t]) (by simpa using h)]
    simp
theorem find_kv (f : Int → Int) : ∀ (ts : List Int) (t : Int), t ∈ ts → findK (.int t) (ts.map (kvI f)) = some (.int (f t))
  | [], t, h => by cases h
  | k :: ks, t, h => by
    rw [List.map_cons, findK]
    by_cases e : k = t
    · subst e
      rw [if_pos (by simp [eqb])]
    · rw [if_neg (by simpa [eqb] using e)]
      exact find_kv f ks t (by
        rcases List.mem_cons.mp h with h | h
        · exact absurd h.symm e
        · exact h)
theorem pairs_kv (f : Int → Int) : ∀ ts : List Int, pairsOf (ts.map fun t => D.tup [.int t, .int (f t)]) = some (ts.map (kvI f))
  | [] => rfl
  | t :: ts => by
    show (pairsOf (ts.map fun t => D.tup [.int t, .int (f t)])).map _ = _
    rw [pairs_kv f ts]
    rfl
theorem rg_nodup (lo hi : Int) : (rg lo hi).Nodup := (rg_asc lo hi).imp fun h => by omega
theorem dict_rg (f : Int → Int) (lo hi : Int) : blt .dict [.L ((rg lo hi).map fun t => D.tup [.int t, .int (f t)])] = some (.M false ((rg lo hi).map (kvI f))) := by
  show ((some ((rg lo hi).map fun t => D.tup [.int t, .int (f t)])).bind fun xs => (pairsOf xs).bind fun ps => if (ps.all fun p => keyOk p.1) = true then some (O.M false (dictFrom [] ps)) else none) = _
  rw [Option.bind_some, pairs_kv, Option.bind_some]
  have ha : (((rg lo hi).map (kvI f)).all fun p => keyOk p.1) = true := by
    rw [List.all_eq_true]
    intro p hp
    obtain ⟨t, _, rfl⟩ := List.mem_map.mp hp
    rfl
  rw [if_pos ha]
  have := dict_new f (rg lo hi) [] (by simpa using rg_nodup lo hi)
  rw [List.nil_append] at this
  have this : dictFrom [] ((rg lo hi).map (kvI f)) = (rg lo hi).map (kvI f) := this
  rw [this]
abbrev ckW (ps : List (Int × Int)) : List (D × D) := (rg (-12) 25).map (kvI fun t => (cov ps t : Int))
section
variable (k : Nat) (a b : Int) (ps : List (Int × Int)) (hs : Sp ps) (hw : ∀ p ∈ ps, SpW p) (w2 w12 : Option W)
theorem a2 : evS L.T (calls L.T L.ds k) (.set 1 (.blt .tuple [.var 1])) k (Vf a b (some (.L false (ps.map encP))) w2 none none none none none none none none none w12 none none none none none none none) = .ok .nx (Vf a b (some (.d (dS ps))) w2 none none none none none none none none none w12 none none none none none none none) := rfl
theorem a3 : evS L.T (calls L.T L.ds k) (.set 3 (.blt .len [.var 1])) k (Vf a b (some (.d (dS ps))) w2 none none none none none none none none none w12 none none none none none none none) = .ok .nx (Vf a b (some (.d (dS ps))) w2 (some (.d (.int (ps.length : Int)))) none none none none none none none none w12 none none none none none none none) := by
  show R.ok Fl.nx (Vf a b (some (.d (dS ps))) w2 (some (.d (.int ((ps.map encP).length : Int)))) none none none none none none none none w12 none none none none none none none) = _
  rw [List.length_map]
theorem rg_cap (lo hi : Int) (h : hi - lo ≤ 1000) : (rg lo hi).length ≤ cap := by
  unfold rg
  rw [List.length_map, List.length_range]
  show _ ≤ 16777216
  omega
include hs
theorem a4 : evS L.T (calls L.T L.ds k) (.set 4 (.blt .dict [.comp (.tup [.var 14, .blt .len [.comp (.int 1) (.tp [.nm 12, .nm 15]) .seq [.var 1] [.chain .le .le (.var 12) (.var 14) (.var 15)] [12, 15]]]) (.nm 14) .rng [.neg (.int 12), .int 25] [] [14]])) k (Vf a b (some (.d (dS ps))) w2 (some (.d (.int (ps.length : Int)))) none none none none none none none none w12 none none none none none none none) = .ok .nx (Vf a b (some (.d (dS ps))) w2 (some (.d (.int (ps.length : Int)))) (some (.M false false (ckW ps))) none none none none none none none w12 none none none none none none none) := by
  have hlen := hs.len
  have hc : evE L.T (calls L.T L.ds k) (.comp (.tup [.var 14, .blt .len [.comp (.int 1) (.tp [.nm 12, .nm 15]) .seq [.var 1] [.chain .le .le (.var 12) (.var 14) (.var 15)] [12, 15]]]) (.nm 14) .rng [.neg (.int 12), .int 25] [] [14]) k (Vf a b (some (.d (dS ps))) w2 (some (.d (.int (ps.length : Int)))) none none none none none none none none w12 none none none none none none none) = .ok (.L ((rg (-12) 25).map fun t => .tup [.int t, .int (cov ps t : Int)])) (Vf a b (some (.d (dS ps))) w2 (some (.d (.int (ps.length : Int)))) none none none none none none none none w12 none none none none none none none) := by
    refine comp_map _ _ _ _ _ _ _ _ _ [] (rg (-12) 25) D.int _ ?_ rfl rfl (rg_cap _ _ (by omega)) ?_
    · rw [← rg_upTo]
      exact iter_rng _ _ _ (by decide)
    · intro t _
      refine ⟨[bx a b, some (.d (dS ps)), w2, some (.d (.int (ps.length : Int))), none, none, none, none, none, none, none, none, w12, none, some (.d (.int t)), none, none, none, none, none], rfl, rfl, .d (.tup [.int t, .int (cov ps t : Int)]), ?_, rfl⟩
      have hin : evE L.T (calls L.T L.ds k) (.comp (.int 1) (.tp [.nm 12, .nm 15]) .seq [.var 1] [.chain .le .le (.var 12) (.var 14) (.var 15)] [12, 15]) k [bx a b, some (.d (dS ps)), w2, some (.d (.int (ps.length : Int))), none, none, none, none, none, none, none, none, w12, none, some (.d (.int t)), none, none, none, none, none]
          = .ok (.L ((ps.filter fun p => decide (p.1 ≤ t) && decide (t ≤ p.2)).map fun _ => .int 1)) [bx a b, some (.d (dS ps)), w2, some (.d (.int (ps.length : Int))), none, none, none, none, none, none, none, none, w12, none, some (.d (.int t)), none, none, none, none, none] := by
        refine comp_enc _ _ _ _ _ _ _ _ _ _ [] ps encP _ (fun _ => .int 1) rfl rfl rfl (by show _ ≤ 16777216; omega) ?_
        intro p _
        refine ⟨[bx a b, some (.d (dS ps)), w2, some (.d (.int (ps.length : Int))), none, none, none, none, none, none, none, none, some (.d (.int p.1)), none, some (.d (.int t)), some (.d (.int p.2)), none, none, none, none], rfl, rfl, ?_, fun _ => ⟨.d (.int 1), rfl, rfl⟩⟩
        by_cases g : p.1 ≤ t
        · simp [varS, g, ifB_end]
        · simp [varS, g, ifB_end]
      have hl : blt .len [.L ((ps.filter fun p => decide (p.1 ≤ t) && decide (t ≤ p.2)).map fun _ => D.int 1)] = some (.d (.int (cov ps t : Int))) := by
        rw [len_L, List.length_map]; rfl
      have v : evE L.T (calls L.T L.ds k) (.blt .len [.comp (.int 1) (.tp [.nm 12, .nm 15]) .seq [.var 1] [.chain .le .le (.var 12) (.var 14) (.var 15)] [12, 15]]) k [bx a b, some (.d (dS ps)), w2, some (.d (.int (ps.length : Int))), none, none, none, none, none, none, none, none, w12, none, some (.d (.int t)), none, none, none, none, none] = .ok (.d (.int (cov ps t : Int))) [bx a b, some (.d (dS ps)), w2, some (.d (.int (ps.length : Int))), none, none, none, none, none, none, none, none, w12, none, some (.d (.int t)), none, none, none, none, none] := by
        rw [v_blt, v_lcons, hin, R.bind_ok, v_lnil, R.bind_ok, R.bind_ok]
        show oko (blt .len [.L _]) _ = _
        rw [hl]
        rfl
      rw [v_tup, v_lcons, v_var]
      show R.bind (R.bind (R.ok (O.d (.int t)) _) _) _ = _
      rw [R.bind_ok, v_lcons, v]
      rfl
  rw [v_set, v_blt, v_lcons, hc, R.bind_ok, v_lnil, R.bind_ok, R.bind_ok]
  show R.bind (oko (blt .dict [.L _]) _) _ = _
  rw [dict_rg fun t => (cov ps t : Int)]
  rfl
omit hs in
theorem ixW (C : Calls) (n : Nat) (t : Int) (ht : t ∈ rg (-12) 25) (u5 u6 u7 u8 u9 u10 u11 u13 u15 u16 u17 u18 u19 : Option W) : evE L.T C (.ix (.var 4) (.var 14)) n (Vf a b (some (.d (dS ps))) w2 (some (.d (.int (ps.length : Int)))) (some (.Z (ckW ps))) u5 u6 u7 u8 u9 u10 u11 w12 u13 (some (.d (.int t))) u15 u16 u17 u18 u19) = .ok (.d (.int (cov ps t : Int))) (Vf a b (some (.d (dS ps))) w2 (some (.d (.int (ps.length : Int)))) (some (.Z (ckW ps))) u5 u6 u7 u8 u9 u10 u11 w12 u13 (some (.d (.int t))) u15 u16 u17 u18 u19) := by
  show okd (index (.Z (ckW ps)) (.d (.int t))) _ = _
  have e : index (.Z (ckW ps)) (.d (.int t)) = some (.int (cov ps t : Int)) := find_kv (fun t => (cov ps t : Int)) (rg (-12) 25) t ht
  rw [e]
  rfl
omit hs in
theorem keysW (ρ : Ev) : iterF .seq (.ok [.Z (ckW ps)] ρ) = .ok ((rg (-12) 25).map D.int, []) ρ := by
  have e : (ckW ps).map (·.1) = (rg (-12) 25).map D.int := by
    rw [ckW, List.map_map]
    rfl
  show R.bind (R.ok [O.Z (ckW ps)] ρ) _ = _
  rw [R.bind_ok]
  show R.opt (some ((ckW ps).map (·.1))) _ = _
  rw [e]
  rfl
include hw
theorem a5 : evS L.T (calls L.T L.ds k) (.set 5 (.blt .max [.comp (.ix (.var 4) (.var 14)) (.nm 14) .seq [.frz 4] [] [14]])) k (Vf a b (some (.d (dS ps))) w2 (some (.d (.int (ps.length : Int)))) (some (.M false false (ckW ps))) none none none none none none none w12 none none none none none none none) = .ok .nx (Vf a b (some (.d (dS ps))) w2 (some (.d (.int (ps.length : Int)))) (some (.Z (ckW ps))) (some (.d (.int (mostP ps)))) none none none none none none w12 none none none none none none none) := by
  have mo := most_ok hs
  have hc : evE L.T (calls L.T L.ds k) (.comp (.ix (.var 4) (.var 14)) (.nm 14) .seq [.frz 4] [] [14]) k (Vf a b (some (.d (dS ps))) w2 (some (.d (.int (ps.length : Int)))) (some (.M false false (ckW ps))) none none none none none none none w12 none none none none none none none) = .ok (.L (((rg (-12) 25).filter fun _ => true).map fun t => .int (cov ps t : Int))) (Vf a b (some (.d (dS ps))) w2 (some (.d (.int (ps.length : Int)))) (some (.Z (ckW ps))) none none none none none none none w12 none none none none none none none) := by
    refine comp_enc1 _ _ _ _ _ _ _ _ _ _ _ [] (rg (-12) 25) D.int _ _ ?_ rfl rfl (rg_cap _ _ (by omega)) ?_
    · exact keysW ps _
    · intro t ht
      exact ⟨[bx a b, some (.d (dS ps)), w2, some (.d (.int (ps.length : Int))), some (.Z (ckW ps)), none, none, none, none, none, none, none, w12, none, some (.d (.int t)), none, none, none, none, none], rfl, rfl, rfl, fun _ => ⟨.d (.int (cov ps t : Int)), ixW a b ps w2 w12 _ _ t ht none none none none none none none none none none none none none, rfl⟩⟩
  rw [List.filter_eq_self.mpr (fun _ _ => rfl)] at hc
  have e : ((rg (-12) 25).map fun t => D.int (cov ps t : Int)) = ((rg (-12) 25).map fun t => (cov ps t : Int)).map D.int := by rw [List.map_map]; rfl
  have hx : blt .max [.L ((rg (-12) 25).map fun t => D.int (cov ps t : Int))] = some (.d (.int (mostP ps))) := by
    rw [e]
    obtain ⟨t, t1, t2, t3⟩ := mo.at_
    refine max_is _ _ ?_ fun x hx => ?_
    · rw [← t3]
      refine List.mem_map_of_mem (f := fun t => (cov ps t : Int)) ((rg_mem _ _ _).mpr ?_)
      by_cases c : t < -10 ∨ 18 < t
      · have := cov_out hw t c
        have := mo.pos
        omega
      · omega
    · obtain ⟨t, _, rfl⟩ := List.mem_map.mp hx
      exact mo.cov t
  rw [v_set, v_blt, v_lcons, hc, R.bind_ok, v_lnil, R.bind_ok, R.bind_ok]
  show R.bind (oko (blt .max [.L _]) _) _ = _
  rw [hx]
  rfl
omit hs hw in
theorem a6 : evS L.T (calls L.T L.ds k) (.par [13, 14] [.lst [], .neg (.int 12)]) k (Vf a b (some (.d (dS ps))) w2 (some (.d (.int (ps.length : Int)))) (some (.Z (ckW ps))) (some (.d (.int (mostP ps)))) none none none none none none w12 none none none none none none none) = .ok .nx (Vf a b (some (.d (dS ps))) w2 (some (.d (.int (ps.length : Int)))) (some (.Z (ckW ps))) (some (.d (.int (mostP ps)))) none none none none none none w12 (some (.L false (([] : List (Int × Int)).map encP))) (some (.d (.int (-12)))) none none none none none) := rfl
end
end K65
end Ev
/-! P65u: the spans (3): parts. -/
namespace Ev.K65
/-- the clocks that have a time -/
def clk (ps : List (Int × Int)) (t : Int) : List Int := (ps.zipIdx.filter fun q => decide (q.1.1 ≤ t) && decide (t ≤ q.1.2)).map fun q => (q.2 : Int)
theorem zflt_len {α : Type} (p : α → Bool) : ∀ (l : List α) (n : Nat), ((l.zipIdx n).filter fun q => p q.1).length = (l.filter p).length
  | [], _ => rfl
  | x :: l, n => by
    simp only [List.zipIdx_cons, List.filter_cons]
    cases p x <;> simp [zflt_len p l (n + 1)]
theorem clk_cov (ps : List (Int × Int)) (t : Int) : (clk ps t).length = cov ps t := by
  unfold clk cov
  rw [List.length_map]
  exact zflt_len (fun p : Int × Int => decide (p.1 ≤ t) && decide (t ≤ p.2)) ps 0
def joinP (M : Int) (parts : List (Int × Int)) : List (Int × Int) := parts.foldl (fun acc p => stepP M acc (p.1, p.2, M)) []
theorem join_add (M : Int) (parts : List (Int × Int)) (p : Int × Int) : joinP M (parts ++ [p]) = stepP M (joinP M parts) (p.1, p.2, M) := by
  unfold joinP
  rw [List.foldl_append]
  rfl
/-- a stretch of times with the same clocks is one part -/
theorem part_add (ps : List (Int × Int)) (M t e : Int) (parts : List (Int × Int)) (h : joinP M parts = (rg (-12) t).foldl (stepT ps M) []) (h0 : -12 ≤ t) (he : t ≤ e) (hc : (cov ps t : Int) = M) (hx : ∀ x, t < x → x ≤ e → clk ps x = clk ps t) : joinP M (parts ++ [(t, e)]) = (rg (-12) (e + 1)).foldl (stepT ps M) [] := by
  rw [join_add, h, rg_append (lo := -12) (mid := t) (hi := e + 1) h0 (by omega), List.foldl_append]
  have f := fold_piece ps M t M ((rg (-12) t).foldl (stepT ps M) []) (e - t).toNat fun x h1 h2 => by
    by_cases g : x = t
    · rw [g]; exact hc
    · have := congrArg List.length (hx x (by omega) (by omega))
      rw [clk_cov, clk_cov] at this
      omega
  rw [show t + ((e - t).toNat : Int) = e by omega] at f
  rw [f]
theorem part_no (ps : List (Int × Int)) (M t : Int) (parts : List (Int × Int)) (h : joinP M parts = (rg (-12) t).foldl (stepT ps M) []) (h0 : -12 ≤ t) (hc : (cov ps t : Int) ≠ M) : joinP M parts = (rg (-12) (t + 1)).foldl (stepT ps M) [] := by
  rw [rg_snoc h0, List.foldl_append, ← h]
  exact (step_no M _ _ hc).symm
def nT : E := .andL [.cmp .lt (.bin .add (.var 16) (.int 1)) (.int 25), .cmp .eq (.comp (.var 2) (.nm 2) .rng [.var 3] [.chain .le .le (.ix (.ix (.var 1) (.var 2)) (.int 0)) (.bin .add (.var 16) (.int 1)) (.ix (.ix (.var 1) (.var 2)) (.int 1))] [2]) (.var 17)]
def nB : List S := [.set 16 (.bin .add (.var 16) (.int 1))]
def oB : List S := [.ite (.cmp .eq (.ix (.var 4) (.var 14)) (.var 5))
     [.set 16 (.var 14),
      .set 17 (.comp (.var 2) (.nm 2) .rng [.var 3] [.chain .le .le (.ix (.ix (.var 1) (.var 2)) (.int 0)) (.var 14) (.ix (.ix (.var 1) (.var 2)) (.int 1))] [2]),
      .while_ nT nB,
      .ex (.app 13 (.tup [.var 14, .var 16])),
      .set 14 (.var 16)]
     [],
    .set 14 (.bin .add (.var 14) (.int 1))]
section
variable (k : Nat) (a b : Int) (ps : List (Int × Int)) (hs : Sp ps) (w2 w12 : Option W) (M : Int)
theorem cs1 (hs : Sp ps) (t : Int) (w13 w16 w17 : Option W) : evE L.T (calls L.T L.ds k) (.comp (.var 2) (.nm 2) .rng [.var 3] [.chain .le .le (.ix (.ix (.var 1) (.var 2)) (.int 0)) (.var 14) (.ix (.ix (.var 1) (.var 2)) (.int 1))] [2]) k (Vf a b (some (.d (dS ps))) w2 (some (.d (.int (ps.length : Int)))) (some (.Z (ckW ps))) (some (.d (.int M))) none none none none none none w12 w13 (some (.d (.int t))) none w16 w17 none none) = .ok (.L ((clk ps t).map D.int)) (Vf a b (some (.d (dS ps))) w2 (some (.d (.int (ps.length : Int)))) (some (.Z (ckW ps))) (some (.d (.int M))) none none none none none none w12 w13 (some (.d (.int t))) none w16 w17 none none) := by
  have hlen := hs.len
  have e0 : ((clk ps t).map D.int) = (ps.zipIdx.filter fun q => decide (q.1.1 ≤ t) && decide (t ≤ q.1.2)).map fun q => D.int (q.2 : Int) := by
    unfold clk
    rw [List.map_map]
    rfl
  rw [e0]
  refine comp_enc _ _ _ _ _ _ _ _ _ _ [] ps.zipIdx (fun q => .int q.2) _ (fun q => .int q.2) ?_ rfl rfl (by rw [List.length_zipIdx]; show _ ≤ 16777216; omega) ?_
  · have e2 : evL L.T (calls L.T L.ds k) [.var 3] k (Vf a b (some (.d (dS ps))) w2 (some (.d (.int (ps.length : Int)))) (some (.Z (ckW ps))) (some (.d (.int M))) none none none none none none w12 w13 (some (.d (.int t))) none w16 w17 none none) = .ok [.d (.int (ps.length : Int))] (Vf a b (some (.d (dS ps))) w2 (some (.d (.int (ps.length : Int)))) (some (.Z (ckW ps))) (some (.d (.int M))) none none none none none none w12 w13 (some (.d (.int t))) none w16 w17 none none) := rfl
    rw [e2, iter_rng1 _ _ (inR_sm _ (by omega) (by omega)), upTo_nat]
    have e3 := zip_snd ps 0
    rw [List.range_eq_range', ← e3, List.map_map]
    rfl
  · intro q hq
    obtain ⟨hi, ex⟩ := mem_zip hq
    refine ⟨[bx a b, some (.d (dS ps)), some (.d (.int q.2)), some (.d (.int (ps.length : Int))), some (.Z (ckW ps)), some (.d (.int M)), none, none, none, none, none, none, w12, w13, some (.d (.int t)), none, w16, w17, none, none], rfl, rfl, ?_, fun _ => ⟨.d (.int q.2), rfl, rfl⟩⟩
    have h0 : evE L.T (calls L.T L.ds k) (.ix (.var 1) (.var 2)) k [bx a b, some (.d (dS ps)), some (.d (.int q.2)), some (.d (.int (ps.length : Int))), some (.Z (ckW ps)), some (.d (.int M)), none, none, none, none, none, none, w12, w13, some (.d (.int t)), none, w16, w17, none, none] = .ok (.d (encP q.1)) [bx a b, some (.d (dS ps)), some (.d (.int q.2)), some (.d (.int (ps.length : Int))), some (.Z (ckW ps)), some (.d (.int M)), none, none, none, none, none, none, w12, w13, some (.d (.int t)), none, w16, w17, none, none] := by
      show okd (at_ (ps.map encP) (q.2 : Int)) _ = _
      rw [at_nat, List.getElem?_map, List.getElem?_eq_getElem hi, ex]
      rfl
    have hX : evE L.T (calls L.T L.ds k) (.var 14) k [bx a b, some (.d (dS ps)), some (.d (.int q.2)), some (.d (.int (ps.length : Int))), some (.Z (ckW ps)), some (.d (.int M)), none, none, none, none, none, none, w12, w13, some (.d (.int t)), none, w16, w17, none, none] = .ok (.d (.int t)) [bx a b, some (.d (dS ps)), some (.d (.int q.2)), some (.d (.int (ps.length : Int))), some (.Z (ckW ps)), some (.d (.int M)), none, none, none, none, none, none, w12, w13, some (.d (.int t)), none, w16, w17, none, none] := rfl
    have i0 : evE L.T (calls L.T L.ds k) (.ix (.ix (.var 1) (.var 2)) (.int 0)) k [bx a b, some (.d (dS ps)), some (.d (.int q.2)), some (.d (.int (ps.length : Int))), some (.Z (ckW ps)), some (.d (.int M)), none, none, none, none, none, none, w12, w13, some (.d (.int t)), none, w16, w17, none, none] = .ok (.d (.int q.1.1)) [bx a b, some (.d (dS ps)), some (.d (.int q.2)), some (.d (.int (ps.length : Int))), some (.Z (ckW ps)), some (.d (.int M)), none, none, none, none, none, none, w12, w13, some (.d (.int t)), none, w16, w17, none, none] := by
      rw [v_ix, h0]
      rfl
    have i1 : evE L.T (calls L.T L.ds k) (.ix (.ix (.var 1) (.var 2)) (.int 1)) k [bx a b, some (.d (dS ps)), some (.d (.int q.2)), some (.d (.int (ps.length : Int))), some (.Z (ckW ps)), some (.d (.int M)), none, none, none, none, none, none, w12, w13, some (.d (.int t)), none, w16, w17, none, none] = .ok (.d (.int q.1.2)) [bx a b, some (.d (dS ps)), some (.d (.int q.2)), some (.d (.int (ps.length : Int))), some (.Z (ckW ps)), some (.d (.int M)), none, none, none, none, none, none, w12, w13, some (.d (.int t)), none, w16, w17, none, none] := by
      rw [v_ix, h0]
      rfl
    rw [v_tcons, v_chain, i0, R.bind_ok, hX, R.bind_ok, rs_d, rs_d, cmp_le_i, R.opt_some]
    by_cases g : q.1.1 ≤ t
    · rw [decide_eq_true g, if_pos rfl, i1, R.bind_ok, rs_d, rs_d, cmp_le_i, Bool.true_and]
      exact ifB_end _ _ _ _ _
    · rw [decide_eq_false g, if_neg (by decide), Bool.false_and]
      rfl
theorem cs2 (hs : Sp ps) (t e : Int) (w13 w17 : Option W) : evE L.T (calls L.T L.ds k) (.comp (.var 2) (.nm 2) .rng [.var 3] [.chain .le .le (.ix (.ix (.var 1) (.var 2)) (.int 0)) (.bin .add (.var 16) (.int 1)) (.ix (.ix (.var 1) (.var 2)) (.int 1))] [2]) k (Vf a b (some (.d (dS ps))) w2 (some (.d (.int (ps.length : Int)))) (some (.Z (ckW ps))) (some (.d (.int M))) none none none none none none w12 w13 (some (.d (.int t))) none (some (.d (.int e))) w17 none none) = .ok (.L ((clk ps (e + 1)).map D.int)) (Vf a b (some (.d (dS ps))) w2 (some (.d (.int (ps.length : Int)))) (some (.Z (ckW ps))) (some (.d (.int M))) none none none none none none w12 w13 (some (.d (.int t))) none (some (.d (.int e))) w17 none none) := by
  have hlen := hs.len
  have e0 : ((clk ps (e + 1)).map D.int) = (ps.zipIdx.filter fun q => decide (q.1.1 ≤ (e + 1)) && decide ((e + 1) ≤ q.1.2)).map fun q => D.int (q.2 : Int) := by
    unfold clk
    rw [List.map_map]
    rfl
  rw [e0]
  refine comp_enc _ _ _ _ _ _ _ _ _ _ [] ps.zipIdx (fun q => .int q.2) _ (fun q => .int q.2) ?_ rfl rfl (by rw [List.length_zipIdx]; show _ ≤ 16777216; omega) ?_
  · have e2 : evL L.T (calls L.T L.ds k) [.var 3] k (Vf a b (some (.d (dS ps))) w2 (some (.d (.int (ps.length : Int)))) (some (.Z (ckW ps))) (some (.d (.int M))) none none none none none none w12 w13 (some (.d (.int t))) none (some (.d (.int e))) w17 none none) = .ok [.d (.int (ps.length : Int))] (Vf a b (some (.d (dS ps))) w2 (some (.d (.int (ps.length : Int)))) (some (.Z (ckW ps))) (some (.d (.int M))) none none none none none none w12 w13 (some (.d (.int t))) none (some (.d (.int e))) w17 none none) := rfl
    rw [e2, iter_rng1 _ _ (inR_sm _ (by omega) (by omega)), upTo_nat]
    have e3 := zip_snd ps 0
    rw [List.range_eq_range', ← e3, List.map_map]
    rfl
  · intro q hq
    obtain ⟨hi, ex⟩ := mem_zip hq
    refine ⟨[bx a b, some (.d (dS ps)), some (.d (.int q.2)), some (.d (.int (ps.length : Int))), some (.Z (ckW ps)), some (.d (.int M)), none, none, none, none, none, none, w12, w13, some (.d (.int t)), none, some (.d (.int e)), w17, none, none], rfl, rfl, ?_, fun _ => ⟨.d (.int q.2), rfl, rfl⟩⟩
    have h0 : evE L.T (calls L.T L.ds k) (.ix (.var 1) (.var 2)) k [bx a b, some (.d (dS ps)), some (.d (.int q.2)), some (.d (.int (ps.length : Int))), some (.Z (ckW ps)), some (.d (.int M)), none, none, none, none, none, none, w12, w13, some (.d (.int t)), none, some (.d (.int e)), w17, none, none] = .ok (.d (encP q.1)) [bx a b, some (.d (dS ps)), some (.d (.int q.2)), some (.d (.int (ps.length : Int))), some (.Z (ckW ps)), some (.d (.int M)), none, none, none, none, none, none, w12, w13, some (.d (.int t)), none, some (.d (.int e)), w17, none, none] := by
      show okd (at_ (ps.map encP) (q.2 : Int)) _ = _
      rw [at_nat, List.getElem?_map, List.getElem?_eq_getElem hi, ex]
      rfl
    have hX : evE L.T (calls L.T L.ds k) (.bin .add (.var 16) (.int 1)) k [bx a b, some (.d (dS ps)), some (.d (.int q.2)), some (.d (.int (ps.length : Int))), some (.Z (ckW ps)), some (.d (.int M)), none, none, none, none, none, none, w12, w13, some (.d (.int t)), none, some (.d (.int e)), w17, none, none] = .ok (.d (.int (e + 1))) [bx a b, some (.d (dS ps)), some (.d (.int q.2)), some (.d (.int (ps.length : Int))), some (.Z (ckW ps)), some (.d (.int M)), none, none, none, none, none, none, w12, w13, some (.d (.int t)), none, some (.d (.int e)), w17, none, none] := rfl
    have i0 : evE L.T (calls L.T L.ds k) (.ix (.ix (.var 1) (.var 2)) (.int 0)) k [bx a b, some (.d (dS ps)), some (.d (.int q.2)), some (.d (.int (ps.length : Int))), some (.Z (ckW ps)), some (.d (.int M)), none, none, none, none, none, none, w12, w13, some (.d (.int t)), none, some (.d (.int e)), w17, none, none] = .ok (.d (.int q.1.1)) [bx a b, some (.d (dS ps)), some (.d (.int q.2)), some (.d (.int (ps.length : Int))), some (.Z (ckW ps)), some (.d (.int M)), none, none, none, none, none, none, w12, w13, some (.d (.int t)), none, some (.d (.int e)), w17, none, none] := by
      rw [v_ix, h0]
      rfl
    have i1 : evE L.T (calls L.T L.ds k) (.ix (.ix (.var 1) (.var 2)) (.int 1)) k [bx a b, some (.d (dS ps)), some (.d (.int q.2)), some (.d (.int (ps.length : Int))), some (.Z (ckW ps)), some (.d (.int M)), none, none, none, none, none, none, w12, w13, some (.d (.int t)), none, some (.d (.int e)), w17, none, none] = .ok (.d (.int q.1.2)) [bx a b, some (.d (dS ps)), some (.d (.int q.2)), some (.d (.int (ps.length : Int))), some (.Z (ckW ps)), some (.d (.int M)), none, none, none, none, none, none, w12, w13, some (.d (.int t)), none, some (.d (.int e)), w17, none, none] := by
      rw [v_ix, h0]
      rfl
    rw [v_tcons, v_chain, i0, R.bind_ok, hX, R.bind_ok, rs_d, rs_d, cmp_le_i, R.opt_some]
    by_cases g : q.1.1 ≤ (e + 1)
    · rw [decide_eq_true g, if_pos rfl, i1, R.bind_ok, rs_d, rs_d, cmp_le_i, Bool.true_and]
      exact ifB_end _ _ _ _ _
    · rw [decide_eq_false g, if_neg (by decide), Bool.false_and]
      rfl
theorem ntest (hs : Sp ps) (t e : Int) (w13 : Option W) : asT (evE L.T (calls L.T L.ds k) nT k (Vf a b (some (.d (dS ps))) w2 (some (.d (.int (ps.length : Int)))) (some (.Z (ckW ps))) (some (.d (.int M))) none none none none none none w12 w13 (some (.d (.int t))) none (some (.d (.int e))) (some (.L false ((clk ps t).map D.int))) none none)) = .ok (decide (e + 1 < 25) && decide (clk ps (e + 1) = clk ps t)) (Vf a b (some (.d (dS ps))) w2 (some (.d (.int (ps.length : Int)))) (some (.Z (ckW ps))) (some (.d (.int M))) none none none none none none w12 w13 (some (.d (.int t))) none (some (.d (.int e))) (some (.L false ((clk ps t).map D.int))) none none) := by
  have c1 : evE L.T (calls L.T L.ds k) (.cmp .lt (.bin .add (.var 16) (.int 1)) (.int 25)) k (Vf a b (some (.d (dS ps))) w2 (some (.d (.int (ps.length : Int)))) (some (.Z (ckW ps))) (some (.d (.int M))) none none none none none none w12 w13 (some (.d (.int t))) none (some (.d (.int e))) (some (.L false ((clk ps t).map D.int))) none none) = .ok (.d (.bl (decide (e + 1 < 25)))) (Vf a b (some (.d (dS ps))) w2 (some (.d (.int (ps.length : Int)))) (some (.Z (ckW ps))) (some (.d (.int M))) none none none none none none w12 w13 (some (.d (.int t))) none (some (.d (.int e))) (some (.L false ((clk ps t).map D.int))) none none) := rfl
  have c2 : evE L.T (calls L.T L.ds k) (.cmp .eq (.comp (.var 2) (.nm 2) .rng [.var 3] [.chain .le .le (.ix (.ix (.var 1) (.var 2)) (.int 0)) (.bin .add (.var 16) (.int 1)) (.ix (.ix (.var 1) (.var 2)) (.int 1))] [2]) (.var 17)) k (Vf a b (some (.d (dS ps))) w2 (some (.d (.int (ps.length : Int)))) (some (.Z (ckW ps))) (some (.d (.int M))) none none none none none none w12 w13 (some (.d (.int t))) none (some (.d (.int e))) (some (.L false ((clk ps t).map D.int))) none none) = .ok (.d (.bl (decide (clk ps (e + 1) = clk ps t)))) (Vf a b (some (.d (dS ps))) w2 (some (.d (.int (ps.length : Int)))) (some (.Z (ckW ps))) (some (.d (.int M))) none none none none none none w12 w13 (some (.d (.int t))) none (some (.d (.int e))) (some (.L false ((clk ps t).map D.int))) none none) := by
    have h2 := cs2 k a b ps w2 w12 M hs t e w13 (some (.L false ((clk ps t).map D.int)))
    rw [v_cmp, h2, R.bind_ok]
    show okb (eqO (.L ((clk ps (e + 1)).map D.int)) (.L ((clk ps t).map D.int))) _ = _
    rw [eqO_ints]
    rfl
  unfold nT
  rw [v_and, v_ao2, c1, onB_b]
  by_cases g : e + 1 < 25
  · rw [decide_eq_true g, if_neg (by decide), v_ao1, c2, Bool.true_and]
    rfl
  · rw [decide_eq_false g, if_pos (by decide), Bool.false_and]
    rfl
theorem nloop (hs : Sp ps) (t : Int) (w13 : Option W) : ∀ (d : Nat) (e : Int) (fuel : Nat), e + d = 24 → d + 1 ≤ fuel → ∃ e', e ≤ e' ∧ e' < 25 ∧ (∀ x, e < x → x ≤ e' → clk ps x = clk ps t) ∧
    whileL (fun ρ => asT (evE L.T (calls L.T L.ds k) nT k ρ)) (evB L.T (calls L.T L.ds k) nB k) fuel (Vf a b (some (.d (dS ps))) w2 (some (.d (.int (ps.length : Int)))) (some (.Z (ckW ps))) (some (.d (.int M))) none none none none none none w12 w13 (some (.d (.int t))) none (some (.d (.int e))) (some (.L false ((clk ps t).map D.int))) none none) = .ok .nx (Vf a b (some (.d (dS ps))) w2 (some (.d (.int (ps.length : Int)))) (some (.Z (ckW ps))) (some (.d (.int M))) none none none none none none w12 w13 (some (.d (.int t))) none (some (.d (.int e'))) (some (.L false ((clk ps t).map D.int))) none none)
  | 0, e, fuel, he, hf => by
    obtain ⟨fuel, rfl⟩ : ∃ f, fuel = f + 1 := ⟨fuel - 1, by omega⟩
    refine ⟨e, Int.le_refl _, by omega, fun x h1 h2 => by omega, ?_⟩
    rw [whileL_s, ntest k a b ps w2 w12 M hs t e w13, decide_eq_false (by omega), Bool.false_and, ifB_f]
  | d + 1, e, fuel, he, hf => by
    obtain ⟨fuel, rfl⟩ : ∃ f, fuel = f + 1 := ⟨fuel - 1, by omega⟩
    rw [whileL_s, ntest k a b ps w2 w12 M hs t e w13, decide_eq_true (by omega), Bool.true_and]
    by_cases g : clk ps (e + 1) = clk ps t
    · obtain ⟨e', h1, h2, h3, h4⟩ := nloop hs t w13 d (e + 1) fuel (by omega) (by omega)
      have hb : evB L.T (calls L.T L.ds k) nB k (Vf a b (some (.d (dS ps))) w2 (some (.d (.int (ps.length : Int)))) (some (.Z (ckW ps))) (some (.d (.int M))) none none none none none none w12 w13 (some (.d (.int t))) none (some (.d (.int e))) (some (.L false ((clk ps t).map D.int))) none none) = .ok .nx (Vf a b (some (.d (dS ps))) w2 (some (.d (.int (ps.length : Int)))) (some (.Z (ckW ps))) (some (.d (.int M))) none none none none none none w12 w13 (some (.d (.int t))) none (some (.d (.int (e + 1)))) (some (.L false ((clk ps t).map D.int))) none none) := rfl
      refine ⟨e', by omega, h2, fun x q1 q2 => ?_, ?_⟩
      · by_cases z : x = e + 1
        · rw [z]; exact g
        · exact h3 x (by omega) q2
      · rw [decide_eq_true g, ifB_t, hb, R.bind_ok]
        exact h4
    · refine ⟨e, Int.le_refl _, by omega, fun x h1 h2 => by omega, ?_⟩
      rw [decide_eq_false g, ifB_f]
theorem oturn (hs : Sp ps) (t : Int) (h0 : -12 ≤ t) (h1 : t < 25) (parts : List (Int × Int)) (hl : parts.length ≤ 1000) (hj : joinP M parts = (rg (-12) t).foldl (stepT ps M) []) (o16 : Option D) (o17 : Option (List D)) : ∃ (t' : Int) (parts' : List (Int × Int)) (o16' : Option D) (o17' : Option (List D)), t < t' ∧ t' ≤ 25 ∧ parts'.length ≤ parts.length + 1 ∧ joinP M parts' = (rg (-12) t').foldl (stepT ps M) [] ∧
    evB L.T (calls L.T L.ds k) oB k (Vf a b (some (.d (dS ps))) w2 (some (.d (.int (ps.length : Int)))) (some (.Z (ckW ps))) (some (.d (.int M))) none none none none none none w12 (some (.L false (parts.map encP))) (some (.d (.int t))) none (dw o16) (Ev.lw o17) none none) = .ok .nx (Vf a b (some (.d (dS ps))) w2 (some (.d (.int (ps.length : Int)))) (some (.Z (ckW ps))) (some (.d (.int M))) none none none none none none w12 (some (.L false (parts'.map encP))) (some (.d (.int t'))) none (dw o16') (Ev.lw o17') none none) := by
  have hix := ixW a b ps w2 w12 (calls L.T L.ds k) k t ((rg_mem _ _ _).mpr ⟨h0, h1⟩) (some (.d (.int M))) none none none none none none (some (.L false (parts.map encP))) none (dw o16) (Ev.lw o17) none none
  have t1 : asT (evE L.T (calls L.T L.ds k) (.cmp .eq (.ix (.var 4) (.var 14)) (.var 5)) k (Vf a b (some (.d (dS ps))) w2 (some (.d (.int (ps.length : Int)))) (some (.Z (ckW ps))) (some (.d (.int M))) none none none none none none w12 (some (.L false (parts.map encP))) (some (.d (.int t))) none (dw o16) (Ev.lw o17) none none)) = .ok ((cov ps t : Int) == M) (Vf a b (some (.d (dS ps))) w2 (some (.d (.int (ps.length : Int)))) (some (.Z (ckW ps))) (some (.d (.int M))) none none none none none none w12 (some (.L false (parts.map encP))) (some (.d (.int t))) none (dw o16) (Ev.lw o17) none none) := by
    rw [v_cmp, hix, R.bind_ok]
    show asT (okb (cmp .eq (.d (.int (cov ps t : Int))) (.d (.int M))) _) = _
    rw [cmp_eq_d, same_ii]
    rfl
  unfold oB
  by_cases hm : (cov ps t : Int) = M
  · obtain ⟨e', q1, q2, q3, q4⟩ := nloop k a b ps w2 w12 M hs t (some (.L false (parts.map encP))) (24 - t).toNat t big (by omega) (by have hb : big = 1048576 := rfl; omega)
    have s1 : evS L.T (calls L.T L.ds k) (.set 16 (.var 14)) k (Vf a b (some (.d (dS ps))) w2 (some (.d (.int (ps.length : Int)))) (some (.Z (ckW ps))) (some (.d (.int M))) none none none none none none w12 (some (.L false (parts.map encP))) (some (.d (.int t))) none (dw o16) (Ev.lw o17) none none) = .ok .nx (Vf a b (some (.d (dS ps))) w2 (some (.d (.int (ps.length : Int)))) (some (.Z (ckW ps))) (some (.d (.int M))) none none none none none none w12 (some (.L false (parts.map encP))) (some (.d (.int t))) none (some (.d (.int t))) (Ev.lw o17) none none) := by
      rw [v_set, v_var]
      show nxt (assign _ 16 (.d (.int t))) = _
      rw [assign_d, store_dw _ 16 o16 _ rfl]
      rfl
    have s2 : evS L.T (calls L.T L.ds k) (.set 17 (.comp (.var 2) (.nm 2) .rng [.var 3] [.chain .le .le (.ix (.ix (.var 1) (.var 2)) (.int 0)) (.var 14) (.ix (.ix (.var 1) (.var 2)) (.int 1))] [2])) k (Vf a b (some (.d (dS ps))) w2 (some (.d (.int (ps.length : Int)))) (some (.Z (ckW ps))) (some (.d (.int M))) none none none none none none w12 (some (.L false (parts.map encP))) (some (.d (.int t))) none (some (.d (.int t))) (Ev.lw o17) none none) = .ok .nx (Vf a b (some (.d (dS ps))) w2 (some (.d (.int (ps.length : Int)))) (some (.Z (ckW ps))) (some (.d (.int M))) none none none none none none w12 (some (.L false (parts.map encP))) (some (.d (.int t))) none (some (.d (.int t))) (some (.L false ((clk ps t).map D.int))) none none) := by
      rw [v_set, cs1 k a b ps w2 w12 M hs t (some (.L false (parts.map encP))) (some (.d (.int t))) (Ev.lw o17), R.bind_ok, assign_L, store_lw _ 17 o17 _ rfl]
      rfl
    have s3 : evS L.T (calls L.T L.ds k) (.while_ nT nB) k (Vf a b (some (.d (dS ps))) w2 (some (.d (.int (ps.length : Int)))) (some (.Z (ckW ps))) (some (.d (.int M))) none none none none none none w12 (some (.L false (parts.map encP))) (some (.d (.int t))) none (some (.d (.int t))) (some (.L false ((clk ps t).map D.int))) none none) = .ok .nx (Vf a b (some (.d (dS ps))) w2 (some (.d (.int (ps.length : Int)))) (some (.Z (ckW ps))) (some (.d (.int M))) none none none none none none w12 (some (.L false (parts.map encP))) (some (.d (.int t))) none (some (.d (.int e'))) (some (.L false ((clk ps t).map D.int))) none none) := by
      rw [v_while]
      exact q4
    have s4 : evS L.T (calls L.T L.ds k) (.ex (.app 13 (.tup [.var 14, .var 16]))) k (Vf a b (some (.d (dS ps))) w2 (some (.d (.int (ps.length : Int)))) (some (.Z (ckW ps))) (some (.d (.int M))) none none none none none none w12 (some (.L false (parts.map encP))) (some (.d (.int t))) none (some (.d (.int e'))) (some (.L false ((clk ps t).map D.int))) none none) = .ok .nx (Vf a b (some (.d (dS ps))) w2 (some (.d (.int (ps.length : Int)))) (some (.Z (ckW ps))) (some (.d (.int M))) none none none none none none w12 (some (.L false ((parts ++ [(t, e')]).map encP))) (some (.d (.int t))) none (some (.d (.int e'))) (some (.L false ((clk ps t).map D.int))) none none) := by
      have hc : (parts.map encP).length < cap := by rw [List.length_map]; show _ < 16777216; omega
      have me : (parts ++ [(t, e')]).map encP = parts.map encP ++ [encP (t, e')] := by rw [List.map_append]; rfl
      rw [v_ex]
      show (R.bind (if (parts.map encP).length < cap then R.ok (O.d .non) _ else R.stuck) _) = _
      rw [if_pos hc, me]
      rfl
    have s5 : evS L.T (calls L.T L.ds k) (.set 14 (.var 16)) k (Vf a b (some (.d (dS ps))) w2 (some (.d (.int (ps.length : Int)))) (some (.Z (ckW ps))) (some (.d (.int M))) none none none none none none w12 (some (.L false ((parts ++ [(t, e')]).map encP))) (some (.d (.int t))) none (some (.d (.int e'))) (some (.L false ((clk ps t).map D.int))) none none) = .ok .nx (Vf a b (some (.d (dS ps))) w2 (some (.d (.int (ps.length : Int)))) (some (.Z (ckW ps))) (some (.d (.int M))) none none none none none none w12 (some (.L false ((parts ++ [(t, e')]).map encP))) (some (.d (.int e'))) none (some (.d (.int e'))) (some (.L false ((clk ps t).map D.int))) none none) := rfl
    refine ⟨e' + 1, parts ++ [(t, e')], some (.int e'), some ((clk ps t).map D.int), by omega, by omega, by simp, part_add ps M t e' parts hj h0 (by omega) hm q3, ?_⟩
    rw [v_bcons, v_if, t1, show ((cov ps t : Int) == M) = true by simpa using hm, ifB_t, evB_nx s1, evB_nx s2, evB_nx s3, evB_nx s4, evB_nx s5]
    rfl
  · refine ⟨t + 1, parts, o16, o17, by omega, by omega, by omega, part_no ps M t parts hj h0 hm, ?_⟩
    rw [v_bcons, v_if, t1, show ((cov ps t : Int) == M) = false by simpa using hm, ifB_f]
    rfl
theorem oloop (hs : Sp ps) : ∀ (n : Nat) (t : Int) (fuel : Nat) (parts : List (Int × Int)) (o16 : Option D) (o17 : Option (List D)), (25 - t).toNat ≤ n → n + 1 ≤ fuel → -12 ≤ t → t ≤ 25 → parts.length + n ≤ 900 → joinP M parts = (rg (-12) t).foldl (stepT ps M) [] → ∃ (parts' : List (Int × Int)) (o16' : Option D) (o17' : Option (List D)), parts'.length ≤ 900 ∧ joinP M parts' = (rg (-12) 25).foldl (stepT ps M) [] ∧
    whileL (fun ρ => asT (evE L.T (calls L.T L.ds k) (.cmp .lt (.var 14) (.int 25)) k ρ)) (evB L.T (calls L.T L.ds k) oB k) fuel (Vf a b (some (.d (dS ps))) w2 (some (.d (.int (ps.length : Int)))) (some (.Z (ckW ps))) (some (.d (.int M))) none none none none none none w12 (some (.L false (parts.map encP))) (some (.d (.int t))) none (dw o16) (Ev.lw o17) none none) = .ok .nx (Vf a b (some (.d (dS ps))) w2 (some (.d (.int (ps.length : Int)))) (some (.Z (ckW ps))) (some (.d (.int M))) none none none none none none w12 (some (.L false (parts'.map encP))) (some (.d (.int 25))) none (dw o16') (Ev.lw o17') none none)
  | n, t, fuel, parts, o16, o17, hn, hf, h0, h1, hl, hj => by
    obtain ⟨fuel, rfl⟩ : ∃ f, fuel = f + 1 := ⟨fuel - 1, by omega⟩
    have tt : asT (evE L.T (calls L.T L.ds k) (.cmp .lt (.var 14) (.int 25)) k (Vf a b (some (.d (dS ps))) w2 (some (.d (.int (ps.length : Int)))) (some (.Z (ckW ps))) (some (.d (.int M))) none none none none none none w12 (some (.L false (parts.map encP))) (some (.d (.int t))) none (dw o16) (Ev.lw o17) none none)) = .ok (decide (t < 25)) (Vf a b (some (.d (dS ps))) w2 (some (.d (.int (ps.length : Int)))) (some (.Z (ckW ps))) (some (.d (.int M))) none none none none none none w12 (some (.L false (parts.map encP))) (some (.d (.int t))) none (dw o16) (Ev.lw o17) none none) := rfl
    rw [whileL_s, tt, ifB_b]
    by_cases g : t < 25
    · obtain ⟨t', parts', p16, p17, z1, z2, z3, z4, z5⟩ := oturn k a b ps w2 w12 M hs t h0 g parts (by omega) hj o16 o17
      obtain ⟨m, rfl⟩ : ∃ m, n = m + 1 := ⟨n - 1, by omega⟩
      obtain ⟨qs, r16, r17, y1, y2, y3⟩ := oloop hs m t' fuel parts' p16 p17 (by omega) (by omega) (by omega) z2 (by omega) z4
      refine ⟨qs, r16, r17, y1, y2, ?_⟩
      rw [if_pos (decide_eq_true g), z5, R.bind_ok]
      exact y3
    · have e : t = 25 := by omega
      subst e
      exact ⟨parts, o16, o17, by omega, hj, by rw [if_neg (by decide)]⟩
theorem a7 (hs : Sp ps) (hw : ∀ p ∈ ps, SpW p) (hM : M = mostP ps) : ∃ (parts : List (Int × Int)) (o16 : Option D) (o17 : Option (List D)), parts.length ≤ 900 ∧ joinP M parts = runs ps ∧ evS L.T (calls L.T L.ds k) (.while_ (.cmp .lt (.var 14) (.int 25)) oB) k (Vf a b (some (.d (dS ps))) w2 (some (.d (.int (ps.length : Int)))) (some (.Z (ckW ps))) (some (.d (.int M))) none none none none none none w12 (some (.L false (([] : List (Int × Int)).map encP))) (some (.d (.int (-12)))) none none none none none) = .ok .nx (Vf a b (some (.d (dS ps))) w2 (some (.d (.int (ps.length : Int)))) (some (.Z (ckW ps))) (some (.d (.int M))) none none none none none none w12 (some (.L false (parts.map encP))) (some (.d (.int 25))) none (dw o16) (Ev.lw o17) none none) := by
  obtain ⟨qs, o16, o17, y1, y2, y3⟩ := oloop k a b ps w2 w12 M hs 37 (-12) big [] none none (by decide) (by have hb : big = 1048576 := rfl; omega) (by omega) (by omega) (by simp) (by rw [rg_nil]; rfl)
  refine ⟨qs, o16, o17, y1, ?_, ?_⟩
  · rw [y2, hM]
    exact runs_W hs hw
  · rw [v_while]
    exact y3
end
end Ev.K65
/-! P65v: the spans (4): joined. -/
namespace Ev.K65
def jB : List S := [.ite (.andL [.cmp .ne (.var 6) (.lst []), .cmp .eq (.bin .add (.ix (.ix (.var 6) (.neg (.int 1))) (.int 1)) (.int 1)) (.var 12)])
     [.setIx 6 (.neg (.int 1)) (.tup [.ix (.ix (.var 6) (.neg (.int 1))) (.int 0), .var 15])]
     [.ex (.app 6 (.tup [.var 12, .var 15]))]]
theorem lim_encP (fs : List (Int × Int)) : lim (.lst (fs.map encP)) 60 = true := lim_lst fun x hx => by
  obtain ⟨p, _, rfl⟩ := List.mem_map.mp hx
  rfl
theorem eqO_nil (fs : List (Int × Int)) : eqO (.L (fs.map encP)) (.L []) = some (decide (fs = [])) := by
  show (if (lim (.lst (fs.map encP)) limit && lim (.lst []) limit) = true then some (eqb (.lst (fs.map encP)) (.lst [])) else none) = _
  rw [show lim (.lst (fs.map encP)) limit = true from lim_encP fs]
  cases fs <;> rfl
section
variable (k : Nat) (a b : Int) (ps : List (Int × Int)) (w2 w16 w17 : Option W) (M : Int) (parts : List (Int × Int))
theorem jturn (lo hi : Int) (found : List (Int × Int)) (hl : found.length ≤ 1000) : evB L.T (calls L.T L.ds k) jB k (Vf a b (some (.d (dS ps))) w2 (some (.d (.int (ps.length : Int)))) (some (.Z (ckW ps))) (some (.d (.int M))) (some (.L false (found.map encP))) none none none none none (some (.d (.int lo))) (some (.L false (parts.map encP))) (some (.d (.int 25))) (some (.d (.int hi))) w16 w17 none none) = .ok .nx (Vf a b (some (.d (dS ps))) w2 (some (.d (.int (ps.length : Int)))) (some (.Z (ckW ps))) (some (.d (.int M))) (some (.L false ((stepP M found (lo, hi, M)).map encP))) none none none none none (some (.d (.int lo))) (some (.L false (parts.map encP))) (some (.d (.int 25))) (some (.d (.int hi))) w16 w17 none none) := by
  unfold jB
  have app : ∀ fs : List (Int × Int), fs.length ≤ 1000 → evS L.T (calls L.T L.ds k) (.ex (.app 6 (.tup [.var 12, .var 15]))) k (Vf a b (some (.d (dS ps))) w2 (some (.d (.int (ps.length : Int)))) (some (.Z (ckW ps))) (some (.d (.int M))) (some (.L false (fs.map encP))) none none none none none (some (.d (.int lo))) (some (.L false (parts.map encP))) (some (.d (.int 25))) (some (.d (.int hi))) w16 w17 none none) = .ok .nx (Vf a b (some (.d (dS ps))) w2 (some (.d (.int (ps.length : Int)))) (some (.Z (ckW ps))) (some (.d (.int M))) (some (.L false ((fs ++ [(lo, hi)]).map encP))) none none none none none (some (.d (.int lo))) (some (.L false (parts.map encP))) (some (.d (.int 25))) (some (.d (.int hi))) w16 w17 none none) := fun fs hf => by
    have hc : (fs.map encP).length < cap := by rw [List.length_map]; show _ < 16777216; omega
    have me : (fs ++ [(lo, hi)]).map encP = fs.map encP ++ [encP (lo, hi)] := by rw [List.map_append]; rfl
    rw [v_ex]
    show (R.bind (if (fs.map encP).length < cap then R.ok (O.d .non) _ else R.stuck) _) = _
    rw [if_pos hc, me]
    rfl
  rcases last_cases found with rfl | ⟨A, ⟨x, y⟩, rfl⟩
  · have ha := app [] (by simp)
    have hs : stepP M [] (lo, hi, M) = [(lo, hi)] := by unfold stepP; simp
    have t2 : asT (evE L.T (calls L.T L.ds k) (.andL [.cmp .ne (.var 6) (.lst []), .cmp .eq (.bin .add (.ix (.ix (.var 6) (.neg (.int 1))) (.int 1)) (.int 1)) (.var 12)]) k (Vf a b (some (.d (dS ps))) w2 (some (.d (.int (ps.length : Int)))) (some (.Z (ckW ps))) (some (.d (.int M))) (some (.L false (([] : List (Int × Int)).map encP))) none none none none none (some (.d (.int lo))) (some (.L false (parts.map encP))) (some (.d (.int 25))) (some (.d (.int hi))) w16 w17 none none)) = .ok false (Vf a b (some (.d (dS ps))) w2 (some (.d (.int (ps.length : Int)))) (some (.Z (ckW ps))) (some (.d (.int M))) (some (.L false (([] : List (Int × Int)).map encP))) none none none none none (some (.d (.int lo))) (some (.L false (parts.map encP))) (some (.d (.int 25))) (some (.d (.int hi))) w16 w17 none none) := rfl
    rw [hs, v_bcons, v_if, t2, ifB_f, evB_nx ha]
    rfl
  · have hlast : stepP M (A ++ [(x, y)]) (lo, hi, M) = if y = lo - 1 then A ++ [(x, hi)] else A ++ [(x, y)] ++ [(lo, hi)] := by
      unfold stepP
      rw [if_pos rfl, List.getLast?_append]
      simp
    have hix : index (.L ((A ++ [(x, y)]).map encP)) (.d (.int (-1))) = some (encP (x, y)) := by
      rw [index_L, List.map_append]
      exact at_last _ _
    have ixe : evE L.T (calls L.T L.ds k) (.ix (.var 6) (.neg (.int 1))) k (Vf a b (some (.d (dS ps))) w2 (some (.d (.int (ps.length : Int)))) (some (.Z (ckW ps))) (some (.d (.int M))) (some (.L false ((A ++ [(x, y)]).map encP))) none none none none none (some (.d (.int lo))) (some (.L false (parts.map encP))) (some (.d (.int 25))) (some (.d (.int hi))) w16 w17 none none) = .ok (.d (encP (x, y))) (Vf a b (some (.d (dS ps))) w2 (some (.d (.int (ps.length : Int)))) (some (.Z (ckW ps))) (some (.d (.int M))) (some (.L false ((A ++ [(x, y)]).map encP))) none none none none none (some (.d (.int lo))) (some (.L false (parts.map encP))) (some (.d (.int 25))) (some (.d (.int hi))) w16 w17 none none) := by
      show okd (index (.L ((A ++ [(x, y)]).map encP)) (.d (.int (-1)))) _ = _
      rw [hix]
      rfl
    have t2 : asT (evE L.T (calls L.T L.ds k) (.andL [.cmp .ne (.var 6) (.lst []), .cmp .eq (.bin .add (.ix (.ix (.var 6) (.neg (.int 1))) (.int 1)) (.int 1)) (.var 12)]) k (Vf a b (some (.d (dS ps))) w2 (some (.d (.int (ps.length : Int)))) (some (.Z (ckW ps))) (some (.d (.int M))) (some (.L false ((A ++ [(x, y)]).map encP))) none none none none none (some (.d (.int lo))) (some (.L false (parts.map encP))) (some (.d (.int 25))) (some (.d (.int hi))) w16 w17 none none)) = .ok (decide (y = lo - 1)) (Vf a b (some (.d (dS ps))) w2 (some (.d (.int (ps.length : Int)))) (some (.Z (ckW ps))) (some (.d (.int M))) (some (.L false ((A ++ [(x, y)]).map encP))) none none none none none (some (.d (.int lo))) (some (.L false (parts.map encP))) (some (.d (.int 25))) (some (.d (.int hi))) w16 w17 none none) := by
      have c1 : evE L.T (calls L.T L.ds k) (.cmp .ne (.var 6) (.lst [])) k (Vf a b (some (.d (dS ps))) w2 (some (.d (.int (ps.length : Int)))) (some (.Z (ckW ps))) (some (.d (.int M))) (some (.L false ((A ++ [(x, y)]).map encP))) none none none none none (some (.d (.int lo))) (some (.L false (parts.map encP))) (some (.d (.int 25))) (some (.d (.int hi))) w16 w17 none none) = .ok (.d (.bl true)) (Vf a b (some (.d (dS ps))) w2 (some (.d (.int (ps.length : Int)))) (some (.Z (ckW ps))) (some (.d (.int M))) (some (.L false ((A ++ [(x, y)]).map encP))) none none none none none (some (.d (.int lo))) (some (.L false (parts.map encP))) (some (.d (.int 25))) (some (.d (.int hi))) w16 w17 none none) := by
        show okb ((eqO (.L ((A ++ [(x, y)]).map encP)) (.L [])).map (!·)) _ = _
        rw [eqO_nil, decide_eq_false (by simp)]
        rfl
      have v12 : evE L.T (calls L.T L.ds k) (.var 12) k (Vf a b (some (.d (dS ps))) w2 (some (.d (.int (ps.length : Int)))) (some (.Z (ckW ps))) (some (.d (.int M))) (some (.L false ((A ++ [(x, y)]).map encP))) none none none none none (some (.d (.int lo))) (some (.L false (parts.map encP))) (some (.d (.int 25))) (some (.d (.int hi))) w16 w17 none none) = .ok (.d (.int lo)) (Vf a b (some (.d (dS ps))) w2 (some (.d (.int (ps.length : Int)))) (some (.Z (ckW ps))) (some (.d (.int M))) (some (.L false ((A ++ [(x, y)]).map encP))) none none none none none (some (.d (.int lo))) (some (.L false (parts.map encP))) (some (.d (.int 25))) (some (.d (.int hi))) w16 w17 none none) := rfl
      have e : (y + 1 == lo) = decide (y = lo - 1) := by
        rw [Bool.eq_iff_iff, beq_iff_eq, decide_eq_true_eq]
        omega
      rw [v_and, v_ao2, c1, onB_b, if_neg (by decide), v_ao1, v_cmp, v_bin, v_ix, ixe, R.bind_ok, v_int, R.bind_ok, rs_d, rs_d]
      show asT (R.bind (R.bind (R.ok (O.d (.int y)) _) _) _) = _
      rw [R.bind_ok, v_int, R.bind_ok, rs_d, rs_d, bin_add_i, oko_some, R.bind_ok, v12, R.bind_ok, rs_d, rs_d, cmp_eq_d, same_ii, e]
      rfl
    rw [hlast, v_bcons, v_if, t2, ifB_b]
    by_cases g : y = lo - 1
    · rw [if_pos (decide_eq_true g), if_pos g]
      have st : evS L.T (calls L.T L.ds k) (.setIx 6 (.neg (.int 1)) (.tup [.ix (.ix (.var 6) (.neg (.int 1))) (.int 0), .var 15])) k (Vf a b (some (.d (dS ps))) w2 (some (.d (.int (ps.length : Int)))) (some (.Z (ckW ps))) (some (.d (.int M))) (some (.L false ((A ++ [(x, y)]).map encP))) none none none none none (some (.d (.int lo))) (some (.L false (parts.map encP))) (some (.d (.int 25))) (some (.d (.int hi))) w16 w17 none none) = .ok .nx (Vf a b (some (.d (dS ps))) w2 (some (.d (.int (ps.length : Int)))) (some (.Z (ckW ps))) (some (.d (.int M))) (some (.L false ((A ++ [(x, hi)]).map encP))) none none none none none (some (.d (.int lo))) (some (.L false (parts.map encP))) (some (.d (.int 25))) (some (.d (.int hi))) w16 w17 none none) := by
        have tp : evE L.T (calls L.T L.ds k) (.tup [.ix (.ix (.var 6) (.neg (.int 1))) (.int 0), .var 15]) k (Vf a b (some (.d (dS ps))) w2 (some (.d (.int (ps.length : Int)))) (some (.Z (ckW ps))) (some (.d (.int M))) (some (.L false ((A ++ [(x, y)]).map encP))) none none none none none (some (.d (.int lo))) (some (.L false (parts.map encP))) (some (.d (.int 25))) (some (.d (.int hi))) w16 w17 none none) = .ok (.d (encP (x, hi))) (Vf a b (some (.d (dS ps))) w2 (some (.d (.int (ps.length : Int)))) (some (.Z (ckW ps))) (some (.d (.int M))) (some (.L false ((A ++ [(x, y)]).map encP))) none none none none none (some (.d (.int lo))) (some (.L false (parts.map encP))) (some (.d (.int 25))) (some (.d (.int hi))) w16 w17 none none) := by
          rw [v_tup, v_lcons, v_ix, ixe]
          rfl
        rw [v_setIx, tp, R.bind_ok, keep_d, R.opt_some]
        show nxt (setAt _ 6 (.d (.int (-1))) (encP (x, hi))) = _
        rw [setAt_last _ 6 false (A.map encP) (encP (x, y)) _ (by simp)]
        have me : (A ++ [(x, hi)]).map encP = A.map encP ++ [encP (x, hi)] := by rw [List.map_append]; rfl
        show _ = R.ok Fl.nx (Vf a b (some (.d (dS ps))) w2 (some (.d (.int (ps.length : Int)))) (some (.Z (ckW ps))) (some (.d (.int M))) (some (.L false ((A ++ [(x, hi)]).map encP))) none none none none none (some (.d (.int lo))) (some (.L false (parts.map encP))) (some (.d (.int 25))) (some (.d (.int hi))) w16 w17 none none)
        rw [me]
        rfl
      rw [evB_nx st]
      rfl
    · rw [if_neg (by simpa using g), if_neg g]
      rw [evB_nx (app _ hl)]
      rfl
theorem a8 (w12 : Option W) : evS L.T (calls L.T L.ds k) (.set 6 (.lst [])) k (Vf a b (some (.d (dS ps))) w2 (some (.d (.int (ps.length : Int)))) (some (.Z (ckW ps))) (some (.d (.int M))) none none none none none none w12 (some (.L false (parts.map encP))) (some (.d (.int 25))) none w16 w17 none none) = .ok .nx (Vf a b (some (.d (dS ps))) w2 (some (.d (.int (ps.length : Int)))) (some (.Z (ckW ps))) (some (.d (.int M))) (some (.L false (([] : List (Int × Int)).map encP))) none none none none none w12 (some (.L false (parts.map encP))) (some (.d (.int 25))) none w16 w17 none none) := rfl
theorem a9 (o12 : Option D) (hl : parts.length ≤ 900) : ∃ o12' o15', evS L.T (calls L.T L.ds k) (.for_ (.tp [.nm 12, .nm 15]) .seq [.var 13] jB) k (Vf a b (some (.d (dS ps))) w2 (some (.d (.int (ps.length : Int)))) (some (.Z (ckW ps))) (some (.d (.int M))) (some (.L false (([] : List (Int × Int)).map encP))) none none none none none (dw o12) (some (.L false (parts.map encP))) (some (.d (.int 25))) none w16 w17 none none) = .ok .nx (Vf a b (some (.d (dS ps))) w2 (some (.d (.int (ps.length : Int)))) (some (.Z (ckW ps))) (some (.d (.int M))) (some (.L false ((joinP M parts).map encP))) none none none none none (dw o12') (some (.L false (parts.map encP))) (some (.d (.int 25))) (dw o15') w16 w17 none none) := by
  have gen : ∀ (qs : List (Int × Int)) (found : List (Int × Int)) (p12 p15 : Option D), found.length + qs.length ≤ 1000 → ∃ o12' o15', forL [13] (Vf a b (some (.d (dS ps))) w2 (some (.d (.int (ps.length : Int)))) (some (.Z (ckW ps))) (some (.d (.int M))) (some (.L false (([] : List (Int × Int)).map encP))) none none none none none (dw o12) (some (.L false (parts.map encP))) (some (.d (.int 25))) none w16 w17 none none) (.tp [.nm 12, .nm 15]) (evB L.T (calls L.T L.ds k) jB k) (qs.map encP) (Vf a b (some (.d (dS ps))) w2 (some (.d (.int (ps.length : Int)))) (some (.Z (ckW ps))) (some (.d (.int M))) (some (.L false (found.map encP))) none none none none none (dw p12) (some (.L false (parts.map encP))) (some (.d (.int 25))) (dw p15) w16 w17 none none) = .ok .nx (Vf a b (some (.d (dS ps))) w2 (some (.d (.int (ps.length : Int)))) (some (.Z (ckW ps))) (some (.d (.int M))) (some (.L false ((qs.foldl (fun acc p => stepP M acc (p.1, p.2, M)) found).map encP))) none none none none none (dw o12') (some (.L false (parts.map encP))) (some (.d (.int 25))) (dw o15') w16 w17 none none) := by
    intro qs
    induction qs with
    | nil => exact fun found p12 p15 _ => ⟨p12, p15, by simp [forL, stands, beqs_refl]⟩
    | cons p qs ih =>
      intro found p12 p15 h
      rw [List.length_cons] at h
      have h1 := step_len M found (p.1, p.2, M)
      obtain ⟨q12, q15, e⟩ := ih (stepP M found (p.1, p.2, M)) (some (.int p.1)) (some (.int p.2)) (by omega)
      refine ⟨q12, q15, ?_⟩
      have hs : stands (Vf a b (some (.d (dS ps))) w2 (some (.d (.int (ps.length : Int)))) (some (.Z (ckW ps))) (some (.d (.int M))) (some (.L false (([] : List (Int × Int)).map encP))) none none none none none (dw o12) (some (.L false (parts.map encP))) (some (.d (.int 25))) none w16 w17 none none) (Vf a b (some (.d (dS ps))) w2 (some (.d (.int (ps.length : Int)))) (some (.Z (ckW ps))) (some (.d (.int M))) (some (.L false (found.map encP))) none none none none none (dw p12) (some (.L false (parts.map encP))) (some (.d (.int 25))) (dw p15) w16 w17 none none) [13] = true := by simp [stands, beqs_refl]
      have hb : bindT (.tp [.nm 12, .nm 15]) (encP p) (Vf a b (some (.d (dS ps))) w2 (some (.d (.int (ps.length : Int)))) (some (.Z (ckW ps))) (some (.d (.int M))) (some (.L false (found.map encP))) none none none none none (dw p12) (some (.L false (parts.map encP))) (some (.d (.int 25))) (dw p15) w16 w17 none none) = some (Vf a b (some (.d (dS ps))) w2 (some (.d (.int (ps.length : Int)))) (some (.Z (ckW ps))) (some (.d (.int M))) (some (.L false (found.map encP))) none none none none none (some (.d (.int p.1))) (some (.L false (parts.map encP))) (some (.d (.int 25))) (some (.d (.int p.2))) w16 w17 none none) := by
        show ((store _ 12 (.d (.int p.1))).bind fun ρ => (store ρ 15 (.d (.int p.2))).bind fun ρ => some ρ) = _
        rw [store_dw _ 12 p12 _ rfl, Option.bind_some, store_dw _ 15 p15 _ rfl]
        rfl
      have ht := jturn k a b ps w2 w16 w17 M parts p.1 p.2 found (by omega)
      show (if stands _ _ [13] = true then R.opt (bindT _ (encP p) _) _ else _) = _
      rw [if_pos hs, hb, R.opt_some, ht, R.bind_ok]
      exact e
  obtain ⟨q12, q15, e⟩ := gen parts [] o12 none (by simp; omega)
  refine ⟨q12, q15, ?_⟩
  rw [v_for]
  exact e
end
end Ev.K65
/-! P65w: the spans (5): agreed, sure. -/
namespace Ev.K65
def Bnd (p : Int × Int) : Prop := -100 ≤ p.1 ∧ p.1 ≤ 200 ∧ -100 ≤ p.2 ∧ p.2 ≤ 200
theorem step_bnd (M : Int) (found : List (Int × Int)) (q : Int × Int × Int) (h : ∀ p ∈ found, Bnd p) (hq : Bnd (q.1, q.2.1)) : ∀ p ∈ stepP M found q, Bnd p := by
  intro p hp
  unfold stepP at hp
  split at hp
  · split at hp
    · rename_i z hz
      have hzm : z ∈ found := List.mem_of_getLast? hz
      split at hp
      · rcases List.mem_append.mp hp with hp | hp
        · exact h p ((List.dropLast_sublist _).subset hp)
        · rw [List.mem_singleton] at hp
          rw [hp]
          exact ⟨(h z hzm).1, (h z hzm).2.1, hq.2.2.1, hq.2.2.2⟩
      · rcases List.mem_append.mp hp with hp | hp
        · exact h p hp
        · rw [List.mem_singleton] at hp
          rw [hp]
          exact hq
    · rw [List.mem_singleton] at hp
      rw [hp]
      exact hq
  · exact h p hp
theorem fold_bnd (M : Int) : ∀ (qs : List (Int × Int × Int)) (found : List (Int × Int)), (∀ p ∈ found, Bnd p) → (∀ q ∈ qs, Bnd (q.1, q.2.1)) → ∀ p ∈ qs.foldl (stepP M) found, Bnd p
  | [], _, h, _ => h
  | q :: qs, found, h, hq => fold_bnd M qs (stepP M found q) (step_bnd M found q h (hq q (by simp))) fun x hx => hq x (List.mem_cons_of_mem _ hx)
theorem runs_bnd {ps : List (Int × Int)} (hs : Sp ps) : ∀ p ∈ runs ps, Bnd p := by
  obtain ⟨w, _⟩ := whole hs
  have l := w.lo
  have u := w.hi
  refine fold_bnd _ _ _ (fun p hp => by cases hp) fun q hq => ?_
  obtain ⟨a1, a2, a3, _⟩ := w.ok.inn q hq
  refine ⟨?_, ?_, ?_, ?_⟩ <;> simp only <;> omega
theorem runs_len {ps : List (Int × Int)} (h : Sp ps) : (runs ps).length ≤ 900 := by
  have pl := pieces_len h
  have go : ∀ (qs : List (Int × Int × Int)) (found : List (Int × Int)), (qs.foldl (stepP (mostP ps)) found).length ≤ found.length + qs.length := by
    intro qs
    induction qs with
    | nil => intro found; simp
    | cons q qs ih =>
      intro found
      have h1 := step_len (mostP ps) found q
      have h2 := ih (stepP (mostP ps) found q)
      rw [List.foldl_cons, List.length_cons]
      omega
  have := go (pieces ps) []
  rw [List.length_nil] at this
  show ((pieces ps).foldl (stepP (mostP ps)) []).length ≤ 900
  omega
abbrev agD (ps : List (Int × Int)) : D := .tup [.int (mostP ps), .tup ((runs ps).map encP)]
theorem most_small {ps : List (Int × Int)} (h : Sp ps) : 1 ≤ mostP ps ∧ mostP ps ≤ 30 := by
  have mo := most_ok h
  obtain ⟨t, _, _, e⟩ := mo.at_
  have := cov_le ps t
  have := h.len
  have := mo.pos
  omega
theorem shw_ag {ps : List (Int × Int)} (h : Sp ps) : shw (agD ps) = true := by
  have ms := most_small h
  have rl := runs_len h
  have rb := runs_bnd h
  unfold shw
  simp only [Bool.and_eq_true, decide_eq_true_eq]
  refine ⟨?_, ?_, ?_⟩
  · refine lim_tup (n := 59) fun y hy => ?_
    rcases List.mem_cons.mp hy with rfl | hy
    · rfl
    · rw [List.mem_singleton] at hy
      rw [hy]
      refine lim_tup (n := 58) fun z hz => ?_
      obtain ⟨p, _, rfl⟩ := List.mem_map.mp hz
      rfl
  · simp only [smal, smals, Bool.and_eq_true, decide_eq_true_eq, Bool.and_true]
    refine ⟨by omega, smals_of _ fun y hy => ?_⟩
    obtain ⟨p, hp, rfl⟩ := List.mem_map.mp hy
    obtain ⟨b1, b2, b3, b4⟩ := rb p hp
    simp only [smal, smals, Bool.and_eq_true, decide_eq_true_eq, Bool.and_true]
    omega
  · have := wgts_le ((runs ps).map encP) 82 fun y hy => by
      obtain ⟨p, _, rfl⟩ := List.mem_map.mp hy
      show 40 + 1 + (40 + 1 + 0) ≤ 82
      omega
    rw [List.length_map] at this
    have : (runs ps).length * (82 + 1) ≤ 900 * 83 := Nat.mul_le_mul rl (by omega)
    show 40 + 1 + (wgts ((runs ps).map encP) + 1 + 0) ≤ 1000000
    omega
theorem srt_ck (ps : List (Int × Int)) : blt .sorted [.Z (ckW ps)] = some (.L ((rg (-12) 25).map D.int)) := by
  have e : (ckW ps).map (·.1) = (rg (-12) 25).map D.int := by
    rw [ckW, List.map_map]
    rfl
  show (intsOf ((ckW ps).map (·.1))).bind (fun ns => if ns.length < 64 then some (O.L ((sortI ns).map .int)) else none) = _
  rw [e, intsOf_ints, Option.bind_some, if_pos (by unfold rg; rw [List.length_map, List.length_range]; omega)]
  have : sortI (rg (-12) 25) = rg (-12) 25 := sorted_one (sortI_perm _) (sortI_sorted _) ((rg_asc _ _).imp fun h => by omega)
  rw [this]
section
variable (k : Nat) (hk : 10 ≤ k) (a b : Int) (ps : List (Int × Int)) (hs : Sp ps) (hw : ∀ p ∈ ps, SpW p) (w2 w12 w15 w16 w17 : Option W) (parts : List (Int × Int))
include hk hs
theorem a10 : evS L.T (calls L.T L.ds k) (.ite (.req true (.call 9 [.var 1]) (.tup [.var 5, .blt .tuple [.var 6]]))
   [.ret (.bl false)]
   []) k (Vf a b (some (.d (dS ps))) w2 (some (.d (.int (ps.length : Int)))) (some (.Z (ckW ps))) (some (.d (.int (mostP ps)))) (some (.L false ((runs ps).map encP))) none none none none none w12 (some (.L false (parts.map encP))) (some (.d (.int 25))) w15 w16 w17 none none) = .ok .nx (Vf a b (some (.d (dS ps))) w2 (some (.d (.int (ps.length : Int)))) (some (.Z (ckW ps))) (some (.d (.int (mostP ps)))) (some (.L false ((runs ps).map encP))) none none none none none w12 (some (.L false (parts.map encP))) (some (.d (.int 25))) w15 w16 w17 none none) := by
  have e9 := t9 ps hs k (by omega)
  simp only [List.map_cons, List.map_nil] at e9
  have ea : evE L.T (calls L.T L.ds k) (.call 9 [.var 1]) k (Vf a b (some (.d (dS ps))) w2 (some (.d (.int (ps.length : Int)))) (some (.Z (ckW ps))) (some (.d (.int (mostP ps)))) (some (.L false ((runs ps).map encP))) none none none none none w12 (some (.L false (parts.map encP))) (some (.d (.int 25))) w15 w16 w17 none none) = .ok (.d (agD ps)) (Vf a b (some (.d (dS ps))) w2 (some (.d (.int (ps.length : Int)))) (some (.Z (ckW ps))) (some (.d (.int (mostP ps)))) (some (.L false ((runs ps).map encP))) none none none none none w12 (some (.L false (parts.map encP))) (some (.d (.int 25))) w15 w16 w17 none none) := by
    rw [v_call]
    show R.bind (R.ok [O.d (dS ps)] _) _ = _
    rw [R.bind_ok, e9]
  have eb : evE L.T (calls L.T L.ds k) (.tup [.var 5, .blt .tuple [.var 6]]) k (Vf a b (some (.d (dS ps))) w2 (some (.d (.int (ps.length : Int)))) (some (.Z (ckW ps))) (some (.d (.int (mostP ps)))) (some (.L false ((runs ps).map encP))) none none none none none w12 (some (.L false (parts.map encP))) (some (.d (.int 25))) w15 w16 w17 none none) = .ok (.d (agD ps)) (Vf a b (some (.d (dS ps))) w2 (some (.d (.int (ps.length : Int)))) (some (.Z (ckW ps))) (some (.d (.int (mostP ps)))) (some (.L false ((runs ps).map encP))) none none none none none w12 (some (.L false (parts.map encP))) (some (.d (.int 25))) w15 w16 w17 none none) := rfl
  rw [v_if, req_ok ea eb (shw_ag hs)]
  rfl
theorem a11 (ha : 0 ≤ a) (hb : 0 ≤ b) : ∃ a' b' f : Int, 0 ≤ a' ∧ 0 ≤ b' ∧ 0 ≤ f ∧ f < ps.length ∧ evS L.T (calls L.T L.ds k) (.set 7 (.call 13 [.var 0, .var 3])) k (Vf a b (some (.d (dS ps))) w2 (some (.d (.int (ps.length : Int)))) (some (.Z (ckW ps))) (some (.d (.int (mostP ps)))) (some (.L false ((runs ps).map encP))) none none none none none w12 (some (.L false (parts.map encP))) (some (.d (.int 25))) w15 w16 w17 none none) = .ok .nx (Vf a' b' (some (.d (dS ps))) w2 (some (.d (.int (ps.length : Int)))) (some (.Z (ckW ps))) (some (.d (.int (mostP ps)))) (some (.L false ((runs ps).map encP))) (some (.d (.int f))) none none none none w12 (some (.L false (parts.map encP))) (some (.d (.int 25))) w15 w16 w17 none none) := by
  have hlen := hs.len
  have hpos := hs.pos
  obtain ⟨a1, b1, n, x1, x2, x3, x4, e1⟩ := draw_w a b ps.length ha hb (by omega) (by omega)
  have e1 := e1 k k 0 true (Vf a b (some (.d (dS ps))) w2 (some (.d (.int (ps.length : Int)))) (some (.Z (ckW ps))) (some (.d (.int (mostP ps)))) (some (.L false ((runs ps).map encP))) none none none none none w12 (some (.L false (parts.map encP))) (some (.d (.int 25))) w15 w16 w17 none none) (.var 3) (by omega) (Nat.le_refl _) rfl rfl
  have e1 : evE L.T (calls L.T L.ds k) (.call 13 [.var 0, .var 3]) k (Vf a b (some (.d (dS ps))) w2 (some (.d (.int (ps.length : Int)))) (some (.Z (ckW ps))) (some (.d (.int (mostP ps)))) (some (.L false ((runs ps).map encP))) none none none none none w12 (some (.L false (parts.map encP))) (some (.d (.int 25))) w15 w16 w17 none none) = .ok (.d (.int n)) (Vf a1 b1 (some (.d (dS ps))) w2 (some (.d (.int (ps.length : Int)))) (some (.Z (ckW ps))) (some (.d (.int (mostP ps)))) (some (.L false ((runs ps).map encP))) none none none none none w12 (some (.L false (parts.map encP))) (some (.d (.int 25))) w15 w16 w17 none none) := e1
  refine ⟨a1, b1, n, x1, x2, x3, x4, ?_⟩
  rw [v_set, e1]
  rfl
omit hk hs in
theorem a12 (f : Int) : evS L.T (calls L.T L.ds k) (.set 8 (.comp (.var 14) (.nm 14) .seq [.blt .sorted [.var 4]] [.cmp .ge (.ix (.var 4) (.var 14)) (.bin .sub (.var 3) (.var 7))] [14])) k (Vf a b (some (.d (dS ps))) w2 (some (.d (.int (ps.length : Int)))) (some (.Z (ckW ps))) (some (.d (.int (mostP ps)))) (some (.L false ((runs ps).map encP))) (some (.d (.int f))) none none none none w12 (some (.L false (parts.map encP))) (some (.d (.int 25))) w15 w16 w17 none none) = .ok .nx (Vf a b (some (.d (dS ps))) w2 (some (.d (.int (ps.length : Int)))) (some (.Z (ckW ps))) (some (.d (.int (mostP ps)))) (some (.L false ((runs ps).map encP))) (some (.d (.int f))) (some (.L false ((goodW ps ((ps.length : Int) - f)).map D.int))) none none none w12 (some (.L false (parts.map encP))) (some (.d (.int 25))) w15 w16 w17 none none) := by
  have hc : evE L.T (calls L.T L.ds k) (.comp (.var 14) (.nm 14) .seq [.blt .sorted [.var 4]] [.cmp .ge (.ix (.var 4) (.var 14)) (.bin .sub (.var 3) (.var 7))] [14]) k (Vf a b (some (.d (dS ps))) w2 (some (.d (.int (ps.length : Int)))) (some (.Z (ckW ps))) (some (.d (.int (mostP ps)))) (some (.L false ((runs ps).map encP))) (some (.d (.int f))) none none none none w12 (some (.L false (parts.map encP))) (some (.d (.int 25))) w15 w16 w17 none none) = .ok (.L ((goodW ps ((ps.length : Int) - f)).map D.int)) (Vf a b (some (.d (dS ps))) w2 (some (.d (.int (ps.length : Int)))) (some (.Z (ckW ps))) (some (.d (.int (mostP ps)))) (some (.L false ((runs ps).map encP))) (some (.d (.int f))) none none none none w12 (some (.L false (parts.map encP))) (some (.d (.int 25))) w15 w16 w17 none none) := by
    refine comp_enc _ _ _ _ _ _ _ _ _ _ [] (rg (-12) 25) D.int (fun t => decide (((ps.length : Int) - f) ≤ (cov ps t : Int))) D.int ?_ rfl rfl (rg_cap _ _ (by omega)) ?_
    · have v1 : evE L.T (calls L.T L.ds k) (.blt .sorted [.var 4]) k (Vf a b (some (.d (dS ps))) w2 (some (.d (.int (ps.length : Int)))) (some (.Z (ckW ps))) (some (.d (.int (mostP ps)))) (some (.L false ((runs ps).map encP))) (some (.d (.int f))) none none none none w12 (some (.L false (parts.map encP))) (some (.d (.int 25))) w15 w16 w17 none none) = .ok (.L ((rg (-12) 25).map D.int)) (Vf a b (some (.d (dS ps))) w2 (some (.d (.int (ps.length : Int)))) (some (.Z (ckW ps))) (some (.d (.int (mostP ps)))) (some (.L false ((runs ps).map encP))) (some (.d (.int f))) none none none none w12 (some (.L false (parts.map encP))) (some (.d (.int 25))) w15 w16 w17 none none) := by
        show oko (blt .sorted [.Z (ckW ps)]) _ = _
        rw [srt_ck]
        rfl
      rw [v_lcons, v1]
      rfl
    · intro t ht
      have hix := ixW a b ps w2 w12 (calls L.T L.ds k) k t ht (some (.d (.int (mostP ps)))) (some (.L false ((runs ps).map encP))) (some (.d (.int f))) none none none none (some (.L false (parts.map encP))) w15 w16 w17 none none
      refine ⟨[bx a b, some (.d (dS ps)), w2, some (.d (.int (ps.length : Int))), some (.Z (ckW ps)), some (.d (.int (mostP ps))), some (.L false ((runs ps).map encP)), some (.d (.int f)), none, none, none, none, w12, some (.L false (parts.map encP)), some (.d (.int t)), w15, w16, w17, none, none], rfl, rfl, ?_, fun _ => ⟨.d (.int t), rfl, rfl⟩⟩
      have hx : evE L.T (calls L.T L.ds k) (.cmp .ge (.ix (.var 4) (.var 14)) (.bin .sub (.var 3) (.var 7))) k (Vf a b (some (.d (dS ps))) w2 (some (.d (.int (ps.length : Int)))) (some (.Z (ckW ps))) (some (.d (.int (mostP ps)))) (some (.L false ((runs ps).map encP))) (some (.d (.int f))) none none none none w12 (some (.L false (parts.map encP))) (some (.d (.int t))) w15 w16 w17 none none) = .ok (.d (.bl (decide (((ps.length : Int) - f) ≤ (cov ps t : Int))))) (Vf a b (some (.d (dS ps))) w2 (some (.d (.int (ps.length : Int)))) (some (.Z (ckW ps))) (some (.d (.int (mostP ps)))) (some (.L false ((runs ps).map encP))) (some (.d (.int f))) none none none none w12 (some (.L false (parts.map encP))) (some (.d (.int t))) w15 w16 w17 none none) := by
        rw [v_cmp, hix]
        rfl
      rw [v_tcons]
      refine (congrArg (fun z => ifB (asT z) _ _) hx).trans ?_
      cases decide (((ps.length : Int) - f) ≤ (cov ps t : Int)) <;> rfl
  rw [v_set, hc]
  rfl
include hw
theorem a13 (f : Int) (f0 : 0 ≤ f) (f1 : f < ps.length) : evS L.T (calls L.T L.ds k) (.ite (.req true (.call 10 [.var 1, .var 7]) (.ite (.cmp .ne (.var 8) (.lst [])) (.tup [.ix (.var 8) (.int 0), .ix (.var 8) (.neg (.int 1))]) .non))
   [.ret (.bl false)]
   []) k (Vf a b (some (.d (dS ps))) w2 (some (.d (.int (ps.length : Int)))) (some (.Z (ckW ps))) (some (.d (.int (mostP ps)))) (some (.L false ((runs ps).map encP))) (some (.d (.int f))) (some (.L false ((goodW ps ((ps.length : Int) - f)).map D.int))) none none none w12 (some (.L false (parts.map encP))) (some (.d (.int 25))) w15 w16 w17 none none) = .ok .nx (Vf a b (some (.d (dS ps))) w2 (some (.d (.int (ps.length : Int)))) (some (.Z (ckW ps))) (some (.d (.int (mostP ps)))) (some (.L false ((runs ps).map encP))) (some (.d (.int f))) (some (.L false ((goodW ps ((ps.length : Int) - f)).map D.int))) none none none w12 (some (.L false (parts.map encP))) (some (.d (.int 25))) w15 w16 w17 none none) := by
  have e10 := t10 ps hs f f0 f1 k (by omega)
  simp only [List.map_cons, List.map_nil] at e10
  have ea : evE L.T (calls L.T L.ds k) (.call 10 [.var 1, .var 7]) k (Vf a b (some (.d (dS ps))) w2 (some (.d (.int (ps.length : Int)))) (some (.Z (ckW ps))) (some (.d (.int (mostP ps)))) (some (.L false ((runs ps).map encP))) (some (.d (.int f))) (some (.L false ((goodW ps ((ps.length : Int) - f)).map D.int))) none none none w12 (some (.L false (parts.map encP))) (some (.d (.int 25))) w15 w16 w17 none none) = .ok (.d (sureD (goodP ps ((ps.length : Int) - f)))) (Vf a b (some (.d (dS ps))) w2 (some (.d (.int (ps.length : Int)))) (some (.Z (ckW ps))) (some (.d (.int (mostP ps)))) (some (.L false ((runs ps).map encP))) (some (.d (.int f))) (some (.L false ((goodW ps ((ps.length : Int) - f)).map D.int))) none none none w12 (some (.L false (parts.map encP))) (some (.d (.int 25))) w15 w16 w17 none none) := by
    rw [v_call]
    show R.bind (R.ok [O.d (dS ps), O.d (.int f)] _) _ = _
    rw [R.bind_ok, e10]
  have ge := goodW_ends hs hw (G := ((ps.length : Int) - f)) (by omega)
  have ne : evE L.T (calls L.T L.ds k) (.cmp .ne (.var 8) (.lst [])) k (Vf a b (some (.d (dS ps))) w2 (some (.d (.int (ps.length : Int)))) (some (.Z (ckW ps))) (some (.d (.int (mostP ps)))) (some (.L false ((runs ps).map encP))) (some (.d (.int f))) (some (.L false ((goodW ps ((ps.length : Int) - f)).map D.int))) none none none w12 (some (.L false (parts.map encP))) (some (.d (.int 25))) w15 w16 w17 none none) = .ok (.d (.bl (!decide (goodW ps ((ps.length : Int) - f) = [])))) (Vf a b (some (.d (dS ps))) w2 (some (.d (.int (ps.length : Int)))) (some (.Z (ckW ps))) (some (.d (.int (mostP ps)))) (some (.L false ((runs ps).map encP))) (some (.d (.int f))) (some (.L false ((goodW ps ((ps.length : Int) - f)).map D.int))) none none none w12 (some (.L false (parts.map encP))) (some (.d (.int 25))) w15 w16 w17 none none) := by
    have e := eqO_ints (goodW ps ((ps.length : Int) - f)) []
    show okb ((eqO (.L ((goodW ps ((ps.length : Int) - f)).map D.int)) (.L (([] : List Int).map D.int))).map (!·)) _ = _
    rw [e]
    rfl
  have key : evE L.T (calls L.T L.ds k) (.ite (.cmp .ne (.var 8) (.lst [])) (.tup [.ix (.var 8) (.int 0), .ix (.var 8) (.neg (.int 1))]) .non) k (Vf a b (some (.d (dS ps))) w2 (some (.d (.int (ps.length : Int)))) (some (.Z (ckW ps))) (some (.d (.int (mostP ps)))) (some (.L false ((runs ps).map encP))) (some (.d (.int f))) (some (.L false ((goodW ps ((ps.length : Int) - f)).map D.int))) none none none w12 (some (.L false (parts.map encP))) (some (.d (.int 25))) w15 w16 w17 none none) = .ok (.d (sureD (goodP ps ((ps.length : Int) - f)))) (Vf a b (some (.d (dS ps))) w2 (some (.d (.int (ps.length : Int)))) (some (.Z (ckW ps))) (some (.d (.int (mostP ps)))) (some (.L false ((runs ps).map encP))) (some (.d (.int f))) (some (.L false ((goodW ps ((ps.length : Int) - f)).map D.int))) none none none w12 (some (.L false (parts.map encP))) (some (.d (.int 25))) w15 w16 w17 none none) ∧ shw (sureD (goodP ps ((ps.length : Int) - f))) = true := by
    rw [v_ite, ne]
    rcases ge with ⟨g1, g2⟩ | ⟨x, y, g1, g2, g3, g4, g5, g6, g7, g8⟩
    · rw [g1, decide_eq_true g2]
      exact ⟨rfl, rfl⟩
    · have hn : goodW ps ((ps.length : Int) - f) ≠ [] := by
        intro e
        rw [e] at g2
        cases g2
      rw [g1, decide_eq_false hn]
      have i0 : index (.L ((goodW ps ((ps.length : Int) - f)).map D.int)) (.d (.int 0)) = some (.int x) := by
        rw [index_L, at_0, List.getElem?_map, ← List.head?_eq_getElem?, g2]
        rfl
      have i1 : index (.L ((goodW ps ((ps.length : Int) - f)).map D.int)) (.d (.int (-1))) = some (.int y) := by
        rcases last_cases (goodW ps ((ps.length : Int) - f)) with z | ⟨A, v, z⟩
        · exact absurd z hn
        · rw [z, List.getLast?_append] at g3
          have : v = y := by simpa using g3
          rw [index_L, z, List.map_append, ← this]
          exact at_last _ _
      refine ⟨?_, ?_⟩
      · have e0 : evE L.T (calls L.T L.ds k) (.ix (.var 8) (.int 0)) k (Vf a b (some (.d (dS ps))) w2 (some (.d (.int (ps.length : Int)))) (some (.Z (ckW ps))) (some (.d (.int (mostP ps)))) (some (.L false ((runs ps).map encP))) (some (.d (.int f))) (some (.L false ((goodW ps ((ps.length : Int) - f)).map D.int))) none none none w12 (some (.L false (parts.map encP))) (some (.d (.int 25))) w15 w16 w17 none none) = .ok (.d (.int x)) (Vf a b (some (.d (dS ps))) w2 (some (.d (.int (ps.length : Int)))) (some (.Z (ckW ps))) (some (.d (.int (mostP ps)))) (some (.L false ((runs ps).map encP))) (some (.d (.int f))) (some (.L false ((goodW ps ((ps.length : Int) - f)).map D.int))) none none none w12 (some (.L false (parts.map encP))) (some (.d (.int 25))) w15 w16 w17 none none) := by
          show okd (index (.L ((goodW ps ((ps.length : Int) - f)).map D.int)) (.d (.int 0))) _ = _
          rw [i0]
          rfl
        have e1 : evE L.T (calls L.T L.ds k) (.ix (.var 8) (.neg (.int 1))) k (Vf a b (some (.d (dS ps))) w2 (some (.d (.int (ps.length : Int)))) (some (.Z (ckW ps))) (some (.d (.int (mostP ps)))) (some (.L false ((runs ps).map encP))) (some (.d (.int f))) (some (.L false ((goodW ps ((ps.length : Int) - f)).map D.int))) none none none w12 (some (.L false (parts.map encP))) (some (.d (.int 25))) w15 w16 w17 none none) = .ok (.d (.int y)) (Vf a b (some (.d (dS ps))) w2 (some (.d (.int (ps.length : Int)))) (some (.Z (ckW ps))) (some (.d (.int (mostP ps)))) (some (.L false ((runs ps).map encP))) (some (.d (.int f))) (some (.L false ((goodW ps ((ps.length : Int) - f)).map D.int))) none none none w12 (some (.L false (parts.map encP))) (some (.d (.int 25))) w15 w16 w17 none none) := by
          show okd (index (.L ((goodW ps ((ps.length : Int) - f)).map D.int)) (.d (.int (-1)))) _ = _
          rw [i1]
          rfl
        show evE L.T _ (.tup [.ix (.var 8) (.int 0), .ix (.var 8) (.neg (.int 1))]) k _ = _
        rw [v_tup, v_lcons, e0, R.bind_ok, v_lcons, e1]
        rfl
      · unfold shw
        simp only [smal, smals, wgt, wgts, Bool.and_eq_true, decide_eq_true_eq, Bool.and_true]
        refine ⟨rfl, ?_, rfl⟩
        omega
  rw [v_if, req_ok ea key.1 key.2]
  rfl
end
end Ev.K65
/-! P65x: the spans (6): a true time, two by two; the law. -/
namespace Ev.K65
def meet (p q : Int × Int) : Bool := decide ((if q.1 > p.1 then q.1 else p.1) ≤ (if q.2 < p.2 then q.2 else p.2))
def allT (ps : List (Int × Int)) : Bool := ps.all fun p => ps.all fun q => meet p q
theorem allT_most {ps : List (Int × Int)} (hs : Sp ps) : allT ps = (mostP ps == (ps.length : Int)) := by
  have hh := helly hs
  rw [Bool.eq_iff_iff, beq_iff_eq, ← hh]
  unfold allT
  rw [List.all_eq_true]
  constructor
  · intro h p hp q hq
    have := h p hp
    rw [List.all_eq_true] at this
    have := of_decide_eq_true (this q hq)
    split at this <;> split at this <;> omega
  · intro h p hp
    rw [List.all_eq_true]
    intro q hq
    have h1 := h p hp q hq
    have h2 := h q hq p hp
    have h3 := hs.le p hp
    have h4 := hs.le q hq
    refine decide_eq_true ?_
    split <;> split <;> omega
section
variable (k : Nat) (hk : 10 ≤ k) (a b : Int) (ps : List (Int × Int)) (hs : Sp ps) (hw : ∀ p ∈ ps, SpW p) (w2 w7 w8 w12 w15 w16 w17 : Option W) (parts : List (Int × Int))
include hs
theorem a14 (hk : 10 ≤ k) (ha : 0 ≤ a) (hb : 0 ≤ b) : ∃ a' b' tr : Int, 0 ≤ a' ∧ 0 ≤ b' ∧ -8 ≤ tr ∧ tr ≤ 11 ∧ evS L.T (calls L.T L.ds k) (.set 9 (.bin .sub (.call 13 [.var 0, .int 20]) (.int 8))) k (Vf a b (some (.d (dS ps))) w2 (some (.d (.int (ps.length : Int)))) (some (.Z (ckW ps))) (some (.d (.int (mostP ps)))) (some (.L false ((runs ps).map encP))) w7 w8 none none none w12 (some (.L false (parts.map encP))) (some (.d (.int 25))) w15 w16 w17 none none) = .ok .nx (Vf a' b' (some (.d (dS ps))) w2 (some (.d (.int (ps.length : Int)))) (some (.Z (ckW ps))) (some (.d (.int (mostP ps)))) (some (.L false ((runs ps).map encP))) w7 w8 (some (.d (.int tr))) none none w12 (some (.L false (parts.map encP))) (some (.d (.int 25))) w15 w16 w17 none none) := by
  obtain ⟨a1, b1, n, x1, x2, x3, x4, e1⟩ := draw_w a b 20 ha hb (by omega) (by omega)
  have e1 := e1 k k 0 true (Vf a b (some (.d (dS ps))) w2 (some (.d (.int (ps.length : Int)))) (some (.Z (ckW ps))) (some (.d (.int (mostP ps)))) (some (.L false ((runs ps).map encP))) w7 w8 none none none w12 (some (.L false (parts.map encP))) (some (.d (.int 25))) w15 w16 w17 none none) (.int 20) (by omega) (Nat.le_refl _) rfl rfl
  have e1 : evE L.T (calls L.T L.ds k) (.call 13 [.var 0, .int 20]) k (Vf a b (some (.d (dS ps))) w2 (some (.d (.int (ps.length : Int)))) (some (.Z (ckW ps))) (some (.d (.int (mostP ps)))) (some (.L false ((runs ps).map encP))) w7 w8 none none none w12 (some (.L false (parts.map encP))) (some (.d (.int 25))) w15 w16 w17 none none) = .ok (.d (.int n)) (Vf a1 b1 (some (.d (dS ps))) w2 (some (.d (.int (ps.length : Int)))) (some (.Z (ckW ps))) (some (.d (.int (mostP ps)))) (some (.L false ((runs ps).map encP))) w7 w8 none none none w12 (some (.L false (parts.map encP))) (some (.d (.int 25))) w15 w16 w17 none none) := e1
  refine ⟨a1, b1, n - 8, x1, x2, by omega, by omega, ?_⟩
  rw [v_set, v_bin, e1]
  rfl
variable (tr : Int)
theorem a15 : evS L.T (calls L.T L.ds k) (.set 10 (.blt .len [.comp (.int 1) (.tp [.nm 12, .nm 15]) .seq [.var 1] [.not_ (.chain .le .le (.var 12) (.var 9) (.var 15))] [12, 15]])) k (Vf a b (some (.d (dS ps))) w2 (some (.d (.int (ps.length : Int)))) (some (.Z (ckW ps))) (some (.d (.int (mostP ps)))) (some (.L false ((runs ps).map encP))) w7 w8 (some (.d (.int tr))) none none w12 (some (.L false (parts.map encP))) (some (.d (.int 25))) w15 w16 w17 none none) = .ok .nx (Vf a b (some (.d (dS ps))) w2 (some (.d (.int (ps.length : Int)))) (some (.Z (ckW ps))) (some (.d (.int (mostP ps)))) (some (.L false ((runs ps).map encP))) w7 w8 (some (.d (.int tr))) (some (.d (.int (wrongN ps tr : Int)))) none w12 (some (.L false (parts.map encP))) (some (.d (.int 25))) w15 w16 w17 none none) := by
  have hlen := hs.len
  have hc : evE L.T (calls L.T L.ds k) (.comp (.int 1) (.tp [.nm 12, .nm 15]) .seq [.var 1] [.not_ (.chain .le .le (.var 12) (.var 9) (.var 15))] [12, 15]) k (Vf a b (some (.d (dS ps))) w2 (some (.d (.int (ps.length : Int)))) (some (.Z (ckW ps))) (some (.d (.int (mostP ps)))) (some (.L false ((runs ps).map encP))) w7 w8 (some (.d (.int tr))) none none w12 (some (.L false (parts.map encP))) (some (.d (.int 25))) w15 w16 w17 none none) = .ok (.L ((ps.filter fun p => !(decide (p.1 ≤ tr) && decide (tr ≤ p.2))).map fun _ => .int 1)) (Vf a b (some (.d (dS ps))) w2 (some (.d (.int (ps.length : Int)))) (some (.Z (ckW ps))) (some (.d (.int (mostP ps)))) (some (.L false ((runs ps).map encP))) w7 w8 (some (.d (.int tr))) none none w12 (some (.L false (parts.map encP))) (some (.d (.int 25))) w15 w16 w17 none none) := by
    refine comp_enc _ _ _ _ _ _ _ _ _ _ [] ps encP _ (fun _ => .int 1) rfl rfl rfl (by show _ ≤ 16777216; omega) ?_
    intro p _
    refine ⟨[bx a b, some (.d (dS ps)), w2, some (.d (.int (ps.length : Int))), some (.Z (ckW ps)), some (.d (.int (mostP ps))), some (.L false ((runs ps).map encP)), w7, w8, some (.d (.int tr)), none, none, some (.d (.int p.1)), some (.L false (parts.map encP)), some (.d (.int 25)), some (.d (.int p.2)), w16, w17, none, none], rfl, rfl, ?_, fun _ => ⟨.d (.int 1), rfl, rfl⟩⟩
    by_cases g : p.1 ≤ tr
    · simp [varS, g, ifB_end]
    · simp [varS, g, ifB_end]
  have hl : blt .len [.L ((ps.filter fun p => !(decide (p.1 ≤ tr) && decide (tr ≤ p.2))).map fun _ => D.int 1)] = some (.d (.int (wrongN ps tr : Int))) := by
    rw [len_L, List.length_map]; rfl
  rw [v_set, v_blt, v_lcons, hc, R.bind_ok, v_lnil, R.bind_ok, R.bind_ok]
  show R.bind (oko (blt .len [.L _]) _) _ = _
  rw [hl]
  rfl
include hw
theorem a16 (hk : 10 ≤ k) (t0 : -8 ≤ tr) (t1 : tr ≤ 11) : evS L.T (calls L.T L.ds k) (.ite (.andL [.cmp .lt (.var 10) (.var 3), .orL [.cmp .is_ (.call 10 [.var 1, .var 10]) .non, .not_ (.chain .le .le (.ix (.call 10 [.var 1, .var 10]) (.int 0)) (.var 9) (.ix (.call 10 [.var 1, .var 10]) (.int 1)))]])
   [.ret (.bl false)]
   []) k (Vf a b (some (.d (dS ps))) w2 (some (.d (.int (ps.length : Int)))) (some (.Z (ckW ps))) (some (.d (.int (mostP ps)))) (some (.L false ((runs ps).map encP))) w7 w8 (some (.d (.int tr))) (some (.d (.int (wrongN ps tr : Int)))) none w12 (some (.L false (parts.map encP))) (some (.d (.int 25))) w15 w16 w17 none none) = .ok .nx (Vf a b (some (.d (dS ps))) w2 (some (.d (.int (ps.length : Int)))) (some (.Z (ckW ps))) (some (.d (.int (mostP ps)))) (some (.L false ((runs ps).map encP))) w7 w8 (some (.d (.int tr))) (some (.d (.int (wrongN ps tr : Int)))) none w12 (some (.L false (parts.map encP))) (some (.d (.int 25))) w15 w16 w17 none none) := by
  have c0 : evE L.T (calls L.T L.ds k) (.cmp .lt (.var 10) (.var 3)) k (Vf a b (some (.d (dS ps))) w2 (some (.d (.int (ps.length : Int)))) (some (.Z (ckW ps))) (some (.d (.int (mostP ps)))) (some (.L false ((runs ps).map encP))) w7 w8 (some (.d (.int tr))) (some (.d (.int (wrongN ps tr : Int)))) none w12 (some (.L false (parts.map encP))) (some (.d (.int 25))) w15 w16 w17 none none) = .ok (.d (.bl (decide ((wrongN ps tr : Int) < (ps.length : Int))))) (Vf a b (some (.d (dS ps))) w2 (some (.d (.int (ps.length : Int)))) (some (.Z (ckW ps))) (some (.d (.int (mostP ps)))) (some (.L false ((runs ps).map encP))) w7 w8 (some (.d (.int tr))) (some (.d (.int (wrongN ps tr : Int)))) none w12 (some (.L false (parts.map encP))) (some (.d (.int 25))) w15 w16 w17 none none) := rfl
  rw [v_if, v_and, v_ao2, c0, onB_b]
  by_cases g : (wrongN ps tr : Int) < (ps.length : Int)
  · have hwc := wrong_cov ps tr
    have e10 := t10 ps hs (wrongN ps tr : Int) (by omega) g k (by omega)
    simp only [List.map_cons, List.map_nil] at e10
    have ec : evE L.T (calls L.T L.ds k) (.call 10 [.var 1, .var 10]) k (Vf a b (some (.d (dS ps))) w2 (some (.d (.int (ps.length : Int)))) (some (.Z (ckW ps))) (some (.d (.int (mostP ps)))) (some (.L false ((runs ps).map encP))) w7 w8 (some (.d (.int tr))) (some (.d (.int (wrongN ps tr : Int)))) none w12 (some (.L false (parts.map encP))) (some (.d (.int 25))) w15 w16 w17 none none) = .ok (.d (sureD (goodP ps ((ps.length : Int) - (wrongN ps tr : Int))))) (Vf a b (some (.d (dS ps))) w2 (some (.d (.int (ps.length : Int)))) (some (.Z (ckW ps))) (some (.d (.int (mostP ps)))) (some (.L false ((runs ps).map encP))) w7 w8 (some (.d (.int tr))) (some (.d (.int (wrongN ps tr : Int)))) none w12 (some (.L false (parts.map encP))) (some (.d (.int 25))) w15 w16 w17 none none) := by
      rw [v_call]
      show R.bind (R.ok [O.d (dS ps), O.d (.int (wrongN ps tr : Int))] _) _ = _
      rw [R.bind_ok, e10]
    have hg : tr ∈ goodW ps ((ps.length : Int) - (wrongN ps tr : Int)) := by
      unfold goodW
      rw [List.mem_filter, rg_mem, decide_eq_true_eq]
      omega
    rcases goodW_ends hs hw (G := (ps.length : Int) - (wrongN ps tr : Int)) (by omega) with ⟨_, g2⟩ | ⟨x, y, g1, _, _, _, _, _, _, g8⟩
    · rw [g2] at hg
      cases hg
    · obtain ⟨z1, z2⟩ := g8 tr hg
      rw [g1] at ec
      have c1 : evE L.T (calls L.T L.ds k) (.cmp .is_ (.call 10 [.var 1, .var 10]) .non) k (Vf a b (some (.d (dS ps))) w2 (some (.d (.int (ps.length : Int)))) (some (.Z (ckW ps))) (some (.d (.int (mostP ps)))) (some (.L false ((runs ps).map encP))) w7 w8 (some (.d (.int tr))) (some (.d (.int (wrongN ps tr : Int)))) none w12 (some (.L false (parts.map encP))) (some (.d (.int 25))) w15 w16 w17 none none) = .ok (.d (.bl false)) (Vf a b (some (.d (dS ps))) w2 (some (.d (.int (ps.length : Int)))) (some (.Z (ckW ps))) (some (.d (.int (mostP ps)))) (some (.L false ((runs ps).map encP))) w7 w8 (some (.d (.int tr))) (some (.d (.int (wrongN ps tr : Int)))) none w12 (some (.L false (parts.map encP))) (some (.d (.int 25))) w15 w16 w17 none none) := by
        rw [v_cmp, ec]
        rfl
      have i0 : evE L.T (calls L.T L.ds k) (.ix (.call 10 [.var 1, .var 10]) (.int 0)) k (Vf a b (some (.d (dS ps))) w2 (some (.d (.int (ps.length : Int)))) (some (.Z (ckW ps))) (some (.d (.int (mostP ps)))) (some (.L false ((runs ps).map encP))) w7 w8 (some (.d (.int tr))) (some (.d (.int (wrongN ps tr : Int)))) none w12 (some (.L false (parts.map encP))) (some (.d (.int 25))) w15 w16 w17 none none) = .ok (.d (.int x)) (Vf a b (some (.d (dS ps))) w2 (some (.d (.int (ps.length : Int)))) (some (.Z (ckW ps))) (some (.d (.int (mostP ps)))) (some (.L false ((runs ps).map encP))) w7 w8 (some (.d (.int tr))) (some (.d (.int (wrongN ps tr : Int)))) none w12 (some (.L false (parts.map encP))) (some (.d (.int 25))) w15 w16 w17 none none) := by
        rw [v_ix, ec]
        rfl
      have i1 : evE L.T (calls L.T L.ds k) (.ix (.call 10 [.var 1, .var 10]) (.int 1)) k (Vf a b (some (.d (dS ps))) w2 (some (.d (.int (ps.length : Int)))) (some (.Z (ckW ps))) (some (.d (.int (mostP ps)))) (some (.L false ((runs ps).map encP))) w7 w8 (some (.d (.int tr))) (some (.d (.int (wrongN ps tr : Int)))) none w12 (some (.L false (parts.map encP))) (some (.d (.int 25))) w15 w16 w17 none none) = .ok (.d (.int y)) (Vf a b (some (.d (dS ps))) w2 (some (.d (.int (ps.length : Int)))) (some (.Z (ckW ps))) (some (.d (.int (mostP ps)))) (some (.L false ((runs ps).map encP))) w7 w8 (some (.d (.int tr))) (some (.d (.int (wrongN ps tr : Int)))) none w12 (some (.L false (parts.map encP))) (some (.d (.int 25))) w15 w16 w17 none none) := by
        rw [v_ix, ec]
        rfl
      have v9 : evE L.T (calls L.T L.ds k) (.var 9) k (Vf a b (some (.d (dS ps))) w2 (some (.d (.int (ps.length : Int)))) (some (.Z (ckW ps))) (some (.d (.int (mostP ps)))) (some (.L false ((runs ps).map encP))) w7 w8 (some (.d (.int tr))) (some (.d (.int (wrongN ps tr : Int)))) none w12 (some (.L false (parts.map encP))) (some (.d (.int 25))) w15 w16 w17 none none) = .ok (.d (.int tr)) (Vf a b (some (.d (dS ps))) w2 (some (.d (.int (ps.length : Int)))) (some (.Z (ckW ps))) (some (.d (.int (mostP ps)))) (some (.L false ((runs ps).map encP))) w7 w8 (some (.d (.int tr))) (some (.d (.int (wrongN ps tr : Int)))) none w12 (some (.L false (parts.map encP))) (some (.d (.int 25))) w15 w16 w17 none none) := rfl
      have c2 : evE L.T (calls L.T L.ds k) (.not_ (.chain .le .le (.ix (.call 10 [.var 1, .var 10]) (.int 0)) (.var 9) (.ix (.call 10 [.var 1, .var 10]) (.int 1)))) k (Vf a b (some (.d (dS ps))) w2 (some (.d (.int (ps.length : Int)))) (some (.Z (ckW ps))) (some (.d (.int (mostP ps)))) (some (.L false ((runs ps).map encP))) w7 w8 (some (.d (.int tr))) (some (.d (.int (wrongN ps tr : Int)))) none w12 (some (.L false (parts.map encP))) (some (.d (.int 25))) w15 w16 w17 none none) = .ok (.d (.bl false)) (Vf a b (some (.d (dS ps))) w2 (some (.d (.int (ps.length : Int)))) (some (.Z (ckW ps))) (some (.d (.int (mostP ps)))) (some (.L false ((runs ps).map encP))) w7 w8 (some (.d (.int tr))) (some (.d (.int (wrongN ps tr : Int)))) none w12 (some (.L false (parts.map encP))) (some (.d (.int 25))) w15 w16 w17 none none) := by
        rw [v_not, v_chain, i0, R.bind_ok, v9, R.bind_ok, rs_d, rs_d, cmp_le_i, decide_eq_true z1, R.opt_some, if_pos rfl, i1, R.bind_ok, rs_d, rs_d, cmp_le_i, decide_eq_true z2]
        rfl
      rw [decide_eq_true g, if_neg (by decide), v_ao1, v_or, v_ao2, c1, onB_b, if_neg (by decide), v_ao1, c2]
      rfl
  · rw [decide_eq_false g, if_pos (by decide)]
    rfl
omit hw in
theorem a17 : evS L.T (calls L.T L.ds k) (.set 11 (.blt .all [.comp (.blt .all [.comp (.cmp .le (.blt .max2 [.ix (.var 18) (.int 0), .ix (.var 19) (.int 0)]) (.blt .min2 [.ix (.var 18) (.int 1), .ix (.var 19) (.int 1)])) (.nm 19) .seq [.var 1] [] [19]]) (.nm 18) .seq [.var 1] [] [18]])) k (Vf a b (some (.d (dS ps))) w2 (some (.d (.int (ps.length : Int)))) (some (.Z (ckW ps))) (some (.d (.int (mostP ps)))) (some (.L false ((runs ps).map encP))) w7 w8 (some (.d (.int tr))) (some (.d (.int (wrongN ps tr : Int)))) none w12 (some (.L false (parts.map encP))) (some (.d (.int 25))) w15 w16 w17 none none) = .ok .nx (Vf a b (some (.d (dS ps))) w2 (some (.d (.int (ps.length : Int)))) (some (.Z (ckW ps))) (some (.d (.int (mostP ps)))) (some (.L false ((runs ps).map encP))) w7 w8 (some (.d (.int tr))) (some (.d (.int (wrongN ps tr : Int)))) (some (.d (.bl (allT ps)))) w12 (some (.L false (parts.map encP))) (some (.d (.int 25))) w15 w16 w17 none none) := by
  have hlen := hs.len
  have hc : evE L.T (calls L.T L.ds k) (.comp (.blt .all [.comp (.cmp .le (.blt .max2 [.ix (.var 18) (.int 0), .ix (.var 19) (.int 0)]) (.blt .min2 [.ix (.var 18) (.int 1), .ix (.var 19) (.int 1)])) (.nm 19) .seq [.var 1] [] [19]]) (.nm 18) .seq [.var 1] [] [18]) k (Vf a b (some (.d (dS ps))) w2 (some (.d (.int (ps.length : Int)))) (some (.Z (ckW ps))) (some (.d (.int (mostP ps)))) (some (.L false ((runs ps).map encP))) w7 w8 (some (.d (.int tr))) (some (.d (.int (wrongN ps tr : Int)))) none w12 (some (.L false (parts.map encP))) (some (.d (.int 25))) w15 w16 w17 none none) = .ok (.L (ps.map fun p => D.bl (ps.all fun q => meet p q))) (Vf a b (some (.d (dS ps))) w2 (some (.d (.int (ps.length : Int)))) (some (.Z (ckW ps))) (some (.d (.int (mostP ps)))) (some (.L false ((runs ps).map encP))) w7 w8 (some (.d (.int tr))) (some (.d (.int (wrongN ps tr : Int)))) none w12 (some (.L false (parts.map encP))) (some (.d (.int 25))) w15 w16 w17 none none) := by
    refine comp_map _ _ _ _ _ _ _ _ _ [] ps encP _ rfl rfl rfl (by show _ ≤ 16777216; omega) ?_
    intro p _
    refine ⟨[bx a b, some (.d (dS ps)), w2, some (.d (.int (ps.length : Int))), some (.Z (ckW ps)), some (.d (.int (mostP ps))), some (.L false ((runs ps).map encP)), w7, w8, some (.d (.int tr)), some (.d (.int (wrongN ps tr : Int))), none, w12, some (.L false (parts.map encP)), some (.d (.int 25)), w15, w16, w17, some (.d (encP p)), none], rfl, rfl, .d (.bl (ps.all fun q => meet p q)), ?_, rfl⟩
    have hi : evE L.T (calls L.T L.ds k) (.comp (.cmp .le (.blt .max2 [.ix (.var 18) (.int 0), .ix (.var 19) (.int 0)]) (.blt .min2 [.ix (.var 18) (.int 1), .ix (.var 19) (.int 1)])) (.nm 19) .seq [.var 1] [] [19]) k [bx a b, some (.d (dS ps)), w2, some (.d (.int (ps.length : Int))), some (.Z (ckW ps)), some (.d (.int (mostP ps))), some (.L false ((runs ps).map encP)), w7, w8, some (.d (.int tr)), some (.d (.int (wrongN ps tr : Int))), none, w12, some (.L false (parts.map encP)), some (.d (.int 25)), w15, w16, w17, some (.d (encP p)), none] = .ok (.L (ps.map fun q => D.bl (meet p q))) [bx a b, some (.d (dS ps)), w2, some (.d (.int (ps.length : Int))), some (.Z (ckW ps)), some (.d (.int (mostP ps))), some (.L false ((runs ps).map encP)), w7, w8, some (.d (.int tr)), some (.d (.int (wrongN ps tr : Int))), none, w12, some (.L false (parts.map encP)), some (.d (.int 25)), w15, w16, w17, some (.d (encP p)), none] := by
      refine comp_map _ _ _ _ _ _ _ _ _ [] ps encP _ rfl rfl rfl (by show _ ≤ 16777216; omega) ?_
      intro q _
      exact ⟨[bx a b, some (.d (dS ps)), w2, some (.d (.int (ps.length : Int))), some (.Z (ckW ps)), some (.d (.int (mostP ps))), some (.L false ((runs ps).map encP)), w7, w8, some (.d (.int tr)), some (.d (.int (wrongN ps tr : Int))), none, w12, some (.L false (parts.map encP)), some (.d (.int 25)), w15, w16, w17, some (.d (encP p)), some (.d (encP q))], rfl, rfl, .d (.bl (meet p q)), rfl, rfl⟩
    have hl := all_enc ps (fun q => meet p q)
    rw [v_blt, v_lcons, hi, R.bind_ok, v_lnil, R.bind_ok, R.bind_ok]
    show oko (blt .all [.L _]) _ = _
    rw [hl]
    rfl
  have hl := all_enc ps (fun p => ps.all fun q => meet p q)
  rw [v_set, v_blt, v_lcons, hc, R.bind_ok, v_lnil, R.bind_ok, R.bind_ok]
  show R.bind (oko (blt .all [.L _]) _) _ = _
  rw [hl]
  rfl
omit hw in
theorem a18 : ∃ ρ', evS L.T (calls L.T L.ds k) (.ret (.cmp .eq (.var 11) (.cmp .eq (.var 5) (.var 3)))) k (Vf a b (some (.d (dS ps))) w2 (some (.d (.int (ps.length : Int)))) (some (.Z (ckW ps))) (some (.d (.int (mostP ps)))) (some (.L false ((runs ps).map encP))) w7 w8 (some (.d (.int tr))) (some (.d (.int (wrongN ps tr : Int)))) (some (.d (.bl (allT ps)))) w12 (some (.L false (parts.map encP))) (some (.d (.int 25))) w15 w16 w17 none none) = .ok (.ret (.d (.bl true))) (bx a b :: ρ') := by
  refine ⟨[some (.d (dS ps)), w2, some (.d (.int (ps.length : Int))), some (.Z (ckW ps)), some (.d (.int (mostP ps))), some (.L false ((runs ps).map encP)), w7, w8, some (.d (.int tr)), some (.d (.int (wrongN ps tr : Int))), some (.d (.bl (allT ps))), w12, some (.L false (parts.map encP)), some (.d (.int 25)), w15, w16, w17, none, none], ?_⟩
  have v11 : evE L.T (calls L.T L.ds k) (.var 11) k (Vf a b (some (.d (dS ps))) w2 (some (.d (.int (ps.length : Int)))) (some (.Z (ckW ps))) (some (.d (.int (mostP ps)))) (some (.L false ((runs ps).map encP))) w7 w8 (some (.d (.int tr))) (some (.d (.int (wrongN ps tr : Int)))) (some (.d (.bl (allT ps)))) w12 (some (.L false (parts.map encP))) (some (.d (.int 25))) w15 w16 w17 none none) = .ok (.d (.bl (allT ps))) (Vf a b (some (.d (dS ps))) w2 (some (.d (.int (ps.length : Int)))) (some (.Z (ckW ps))) (some (.d (.int (mostP ps)))) (some (.L false ((runs ps).map encP))) w7 w8 (some (.d (.int tr))) (some (.d (.int (wrongN ps tr : Int)))) (some (.d (.bl (allT ps)))) w12 (some (.L false (parts.map encP))) (some (.d (.int 25))) w15 w16 w17 none none) := rfl
  have v5 : evE L.T (calls L.T L.ds k) (.var 5) k (Vf a b (some (.d (dS ps))) w2 (some (.d (.int (ps.length : Int)))) (some (.Z (ckW ps))) (some (.d (.int (mostP ps)))) (some (.L false ((runs ps).map encP))) w7 w8 (some (.d (.int tr))) (some (.d (.int (wrongN ps tr : Int)))) (some (.d (.bl (allT ps)))) w12 (some (.L false (parts.map encP))) (some (.d (.int 25))) w15 w16 w17 none none) = .ok (.d (.int (mostP ps))) (Vf a b (some (.d (dS ps))) w2 (some (.d (.int (ps.length : Int)))) (some (.Z (ckW ps))) (some (.d (.int (mostP ps)))) (some (.L false ((runs ps).map encP))) w7 w8 (some (.d (.int tr))) (some (.d (.int (wrongN ps tr : Int)))) (some (.d (.bl (allT ps)))) w12 (some (.L false (parts.map encP))) (some (.d (.int 25))) w15 w16 w17 none none) := rfl
  have v3 : evE L.T (calls L.T L.ds k) (.var 3) k (Vf a b (some (.d (dS ps))) w2 (some (.d (.int (ps.length : Int)))) (some (.Z (ckW ps))) (some (.d (.int (mostP ps)))) (some (.L false ((runs ps).map encP))) w7 w8 (some (.d (.int tr))) (some (.d (.int (wrongN ps tr : Int)))) (some (.d (.bl (allT ps)))) w12 (some (.L false (parts.map encP))) (some (.d (.int 25))) w15 w16 w17 none none) = .ok (.d (.int (ps.length : Int))) (Vf a b (some (.d (dS ps))) w2 (some (.d (.int (ps.length : Int)))) (some (.Z (ckW ps))) (some (.d (.int (mostP ps)))) (some (.L false ((runs ps).map encP))) w7 w8 (some (.d (.int tr))) (some (.d (.int (wrongN ps tr : Int)))) (some (.d (.bl (allT ps)))) w12 (some (.L false (parts.map encP))) (some (.d (.int 25))) w15 w16 w17 none none) := rfl
  have c : evE L.T (calls L.T L.ds k) (.cmp .eq (.var 5) (.var 3)) k (Vf a b (some (.d (dS ps))) w2 (some (.d (.int (ps.length : Int)))) (some (.Z (ckW ps))) (some (.d (.int (mostP ps)))) (some (.L false ((runs ps).map encP))) w7 w8 (some (.d (.int tr))) (some (.d (.int (wrongN ps tr : Int)))) (some (.d (.bl (allT ps)))) w12 (some (.L false (parts.map encP))) (some (.d (.int 25))) w15 w16 w17 none none) = .ok (.d (.bl (mostP ps == (ps.length : Int)))) (Vf a b (some (.d (dS ps))) w2 (some (.d (.int (ps.length : Int)))) (some (.Z (ckW ps))) (some (.d (.int (mostP ps)))) (some (.L false ((runs ps).map encP))) w7 w8 (some (.d (.int tr))) (some (.d (.int (wrongN ps tr : Int)))) (some (.d (.bl (allT ps)))) w12 (some (.L false (parts.map encP))) (some (.d (.int 25))) w15 w16 w17 none none) := by
    rw [v_cmp, v5, R.bind_ok, v3, R.bind_ok, rs_d, rs_d, cmp_eq_d, same_ii]
    rfl
  rw [v_ret, v_cmp, v11, R.bind_ok, c, R.bind_ok, rs_d, rs_d, cmp_eq_d, allT_most hs, same_refl rfl]
  rfl
end
theorem t17 (k : Nat) (hk : 10 ≤ k) (a b : Int) (ha : 0 ≤ a) (hb : 0 ≤ b) : ∃ (a' b' : Int) (ρ' : Ev), 0 ≤ a' ∧ 0 ≤ b' ∧ evB L.T (calls L.T L.ds k) d17.body k (bx a b :: List.replicate d17.nl none) = .ok (.ret (.d (.bl true))) (bx a' b' :: ρ') := by
  have e0 : evS L.T (calls L.T L.ds k) (.set 1 (.lst [])) k (Vf a b none none none none none none none none none none none none none none none none none none none) = .ok .nx (Vf a b (some (.L false (([] : List (Int × Int)).map encP))) none none none none none none none none none none none none none none none none none none) := rfl
  obtain ⟨a1, b1, ps, o2, o12, ha1, hb1, hs, hw, h8, e1⟩ := a1 k hk a b ha hb
  have e2 := a2 k a1 b1 ps (dw o2) (dw o12)
  have e3 := a3 k a1 b1 ps (dw o2) (dw o12)
  have e4 := a4 k a1 b1 ps hs (dw o2) (dw o12)
  have e5 := a5 k a1 b1 ps hs hw (dw o2) (dw o12)
  have e6 := a6 k a1 b1 ps (dw o2) (dw o12)
  obtain ⟨parts, o16, o17, hl, hj, e7⟩ := a7 k a1 b1 ps (dw o2) (dw o12) (mostP ps) hs hw rfl
  have e8 := a8 k a1 b1 ps (dw o2) (dw o16) (Ev.lw o17) (mostP ps) parts (dw o12)
  obtain ⟨p12, p15, e9⟩ := a9 k a1 b1 ps (dw o2) (dw o16) (Ev.lw o17) (mostP ps) parts o12 hl
  rw [hj] at e9
  have e10 := a10 k hk a1 b1 ps hs (dw o2) (dw p12) (dw p15) (dw o16) (Ev.lw o17) parts
  obtain ⟨a2, b2, f, ha2, hb2, f0, f1, e11⟩ := a11 k hk a1 b1 ps hs (dw o2) (dw p12) (dw p15) (dw o16) (Ev.lw o17) parts ha1 hb1
  have e12 := a12 k a2 b2 ps (dw o2) (dw p12) (dw p15) (dw o16) (Ev.lw o17) parts f
  have e13 := a13 k hk a2 b2 ps hs hw (dw o2) (dw p12) (dw p15) (dw o16) (Ev.lw o17) parts f f0 f1
  obtain ⟨a3, b3, tr, ha3, hb3, t0, t1, e14⟩ := a14 k a2 b2 ps hs (dw o2) (some (.d (.int f))) (some (.L false ((goodW ps ((ps.length : Int) - f)).map D.int))) (dw p12) (dw p15) (dw o16) (Ev.lw o17) parts hk ha2 hb2
  have e15 := a15 k a3 b3 ps hs (dw o2) (some (.d (.int f))) (some (.L false ((goodW ps ((ps.length : Int) - f)).map D.int))) (dw p12) (dw p15) (dw o16) (Ev.lw o17) parts tr
  have e16 := a16 k a3 b3 ps hs hw (dw o2) (some (.d (.int f))) (some (.L false ((goodW ps ((ps.length : Int) - f)).map D.int))) (dw p12) (dw p15) (dw o16) (Ev.lw o17) parts tr hk t0 t1
  have e17 := a17 k a3 b3 ps hs (dw o2) (some (.d (.int f))) (some (.L false ((goodW ps ((ps.length : Int) - f)).map D.int))) (dw p12) (dw p15) (dw o16) (Ev.lw o17) parts tr
  obtain ⟨ρ', e18⟩ := a18 k a3 b3 ps hs (dw o2) (some (.d (.int f))) (some (.L false ((goodW ps ((ps.length : Int) - f)).map D.int))) (dw p12) (dw p15) (dw o16) (Ev.lw o17) parts tr
  refine ⟨a3, b3, ρ', ha3, hb3, ?_⟩
  exact (evB_nx e0 _).trans ((evB_nx e1 _).trans ((evB_nx e2 _).trans ((evB_nx e3 _).trans ((evB_nx e4 _).trans ((evB_nx e5 _).trans ((evB_nx e6 _).trans ((evB_nx e7 _).trans ((evB_nx e8 _).trans ((evB_nx e9 _).trans ((evB_nx e10 _).trans ((evB_nx e11 _).trans ((evB_nx e12 _).trans ((evB_nx e13 _).trans ((evB_nx e14 _).trans ((evB_nx e15 _).trans ((evB_nx e16 _).trans ((evB_nx e17 _).trans (evB_fl e18 _))))))))))))))))))
/-- the law -/
theorem plain (ns : List Int) (hl : ns.length ≤ 63) : ∃ r, call L.T L.ds 61 18 [some (.d (.lst (ns.map D.int)))] = .ok (.d (.bl true)) r := by
  obtain ⟨a0, b0, ha0, hb0, f0⟩ := stream_w ns
  have f0 := f0 60 (by omega)
  simp only [List.map_cons, List.map_nil] at f0
  obtain ⟨a1, b1, r1, ha1, hb1, g1⟩ := t16 59 (by omega) a0 b0 ha0 hb0
  obtain ⟨a2, b2, r2, ha2, hb2, g2⟩ := t17 59 (by omega) a1 b1 ha1 hb1
  have e1 : evS L.T (calls L.T L.ds 60) (.set 1 (.call 12 [.var 0, .int 0])) 60 [some (.d (.lst (ns.map D.int))), none] = .ok .nx [some (.d (.lst (ns.map D.int))), some (.L false [.int a0, .int b0])] := by
    rw [v_set, v_call]
    show R.bind (R.bind (R.ok [O.d (.lst (ns.map D.int)), O.d (.int 0)] _) _) _ = _
    rw [R.bind_ok, f0]
    rfl
  have c1 : evE L.T (calls L.T L.ds 60) (.call 16 [.var 1]) 60 [some (.d (.lst (ns.map D.int))), some (.L false [.int a0, .int b0])] = .ok (.d (.bl true)) [some (.d (.lst (ns.map D.int))), some (.L false [.int a1, .int b1])] := by
    rw [v_call]
    show R.bind (R.ok [O.bor 1] _) _ = _
    rw [R.bind_ok]
    exact box_call 59 16 d16 rfl rfl a0 b0 a1 b1 r1 g1 1 false _ rfl
  have c2 : evE L.T (calls L.T L.ds 60) (.call 17 [.var 1]) 60 [some (.d (.lst (ns.map D.int))), some (.L false [.int a1, .int b1])] = .ok (.d (.bl true)) [some (.d (.lst (ns.map D.int))), some (.L false [.int a2, .int b2])] := by
    rw [v_call]
    show R.bind (R.ok [O.bor 1] _) _ = _
    rw [R.bind_ok]
    exact box_call 59 17 d17 rfl rfl a1 b1 a2 b2 r2 g2 1 false _ rfl
  have e2 : evS L.T (calls L.T L.ds 60) (.ret (.andL [.call 16 [.var 1], .call 17 [.var 1]])) 60 [some (.d (.lst (ns.map D.int))), some (.L false [.int a0, .int b0])] = .ok (.ret (.d (.bl true))) [some (.d (.lst (ns.map D.int))), some (.L false [.int a2, .int b2])] := by
    rw [v_ret, v_and, v_ao2, c1, onB_b, if_neg (by decide), v_ao1, c2]
    rfl
  have e : evB L.T (calls L.T L.ds 60) d18.body 60 [some (.d (.lst (ns.map D.int))), none] = .ok (.ret (.d (.bl true))) [some (.d (.lst (ns.map D.int))), some (.L false [.int a2, .int b2])] :=
    (evB_nx e1 _).trans (evB_fl e2 _)
  have hf : fin 1 (evB L.T (calls L.T L.ds 60) d18.body 60 ([.lst (ns.map D.int)].map arg ++ List.replicate d18.nl none)) = some (.d (.bl true)) := by
    refine Eq.trans (congrArg (fin 1) e) ?_
    rfl
  obtain ⟨h1, _⟩ := runD_fin L.T (calls L.T L.ds 60) d18 60 [.lst (ns.map D.int)] (.d (.bl true)) rfl hf
  exact ⟨_, (call_succ L.T L.ds 60 18 _).trans h1⟩
end Ev.K65
namespace Ev.K65
open PySem PySem.Spec PyProof.Rows L2
/-! the head: what the top leaves -/
abbrev R : PySem.W.OpenRow := PySem.W.OpenLaw.row PySem.Challenge.rw_evertold_k65_whole_windows_and_agreed
abbrev hk : PySem.W.Hook := He.hookX 4 L.fa L.fn [] L.tf L.ex
def ob (s : PySem.W.SharedT) : He.AlX := He.obsX 4 L.fa L.fn [] L.tf L.ex (HandSHeadRun.getT s)
theorem ob_eq (s : PySem.W.SharedT) : ob s = hk.obs s.abs := He.obsX_eq (HandSHeadRun.getT_eq s)
def loose : List Str := (["EverError", "BadLog", "OutOfRange", "is_integer", "is_below", "is_between", "MOST_ROW", "MOST_HEAPS", "check_ones", "all_heaps"] : List Str) ++ (["heaps", "between_ones", "MOST_SPANS", "MOST_TIME", "check_spans", "pieces_of", "agreed", "sure_span", "_law_cell", "_law_stream"] : List Str) ++ (["_law_draw", "_law_common", "_law_heaps", "_law_windows", "_law_agreed"] : List Str)
set_option maxHeartbeats 0 in
theorem headRun (w : World) : HandSHeadRun.RunEq R (PySem.W.view R.prog [30]) hk ob 5000 loose w := by
  intro os
  kernel_rfl
end Ev.K65
open PySem PySem.W PySem.Calls PyProof.Rows in
set_option maxHeartbeats 0 in
theorem PySem.Challenge.cw_evertold_k65_whole_windows_and_agreed_holds : PySem.Challenge.rw_evertold_k65_whole_windows_and_agreed.Holds := by
  w_on; o_law
  refine HandSHeadRun.head_any (r := OpenLaw.row PySem.Challenge.rw_evertold_k65_whole_windows_and_agreed) (q := view (OpenLaw.row PySem.Challenge.rw_evertold_k65_whole_windows_and_agreed).prog [30]) (H := Ev.K65.hk) (ob := Ev.K65.ob) (M := 5000) (loose := Ev.K65.loose) (d := HandSHeadRun.topDef (OpenLaw.row PySem.Challenge.rw_evertold_k65_whole_windows_and_agreed).prog 30) (kwd := []) Ev.K65.ob_eq
    (by kernel_rfl) (fun s => by kernel_rfl) Ev.K65.headRun (by kernel_rfl) (by kernel_rfl) (by kernel_rfl) (by rfl) (by first | assumption | decide +kernel) (by decide +kernel) ⟨rfl, rfl, rfl, rfl, rfl, by decide +kernel⟩ ?hw ?hc
  case hw => w_witness2
  case hc =>
    refine Ev.walk_ofG (l := PySem.Challenge.rw_evertold_k65_whole_windows_and_agreed) (n := 63) (k := 61) (L := Ev.K65.L) rfl rfl rfl (by kernel_rfl) ⟨rfl, by decide, by decide⟩ ?F ?C
    case F =>
      intro w mg fa h Y G hmg0
      obtain ⟨K, KX, c⟩ := Y
      have hmg : mg ("law" : PySem.Str) = some (.ref fa) := by
        have e : (HandSHeadRun.topDef (OpenLaw.row PySem.Challenge.rw_evertold_k65_whole_windows_and_agreed).prog 30).name = ("law" : PySem.Str) := by kernel_rfl
        rw [← e]
        exact hmg0
      exact ⟨K, KX, Ev.law_in (L := Ev.K65.L) (n := 60) (fL := 18) (eL := Ev.K65.e18) KX G c Ev.K65.tok Ev.K65.tol Ev.K65.ok rfl rfl rfl hmg fun ns hl _ => Ev.K65.plain ns hl⟩
    case C =>
      intro w H s e s' x
      obtain ⟨_, _, _, _, _, _, _, _, _, _, _, _, z⟩ := x
      exact z
