import PyProof.Rows.All
import Wide.All
import OpenK.AllK
import Wide.FinOn
import HandS.ForMost
import HandS.ForExc
import HandS.Wide
import HandS.NoneIn
import HandS.ExcValue
import HandS.ExcCtx
import HandS.HotCalls
import HandS.Lambda
import HandS.ExcIs
import HandS.Style
import KE.DataMinMax
import KE.SortData
import KE.DataFind
import KE.DataIsa
import KE.GoesMore
import HandS.TupAny
import HandS.TupMul
import HandS.StrMore
import PyProof.CollectStr
import HandS.Head0
import HandS.Head1
import HandS.Head2
import HandS.HeadEnd
import HandS.HeadHook1
import HandS.HeadHook2
import HandS.HeadHook3
import HandS.HeadHook4
import HandS.HeadWalk
import HandS.NestedK
import PySem.Challenge.RW_ballmaps_k02_whole_lands
section
set_option Elab.async false
set_option linter.all false
set_option maxRecDepth 100000
/-! A small language over data and its evaluator (plain Lean). -/
namespace Bm
open PySem

abbrev D := PyData

/-- a text by its code points -/
def st (l : List Nat) : Str := ⟨l.toArray⟩
def toL (s : Str) : List Nat := s.cps.toList
@[simp] theorem toL_st (l : List Nat) : toL (st l) = l := by simp [toL, st]
@[simp] theorem st_toL (s : Str) : st (toL s) = s := by cases s; simp [toL, st]
theorem st_inj {a b : List Nat} (h : st a = st b) : a = b := by
  have := congrArg toL h
  simpa using this
abbrev dS (l : List Nat) : D := .str (st l)
abbrev dI (n : Nat) : D := .int (n : Int)

/-- what a name's place holds -/
inductive Slot where
  | un
  | sh (d : D)
  | own (l : List D)
  | dicT (kvs : List (D × D))
  | dicK (kvs : List (D × D))
abbrev Env := List Slot

inductive R (α : Type) where
  | ok (a : α)
  | exc (c : Nat)
  | stuck

@[inline] def R.bind {α β : Type} (x : R α) (f : α → R β) : R β :=
  match x with
  | .ok a => f a
  | .exc c => .exc c
  | .stuck => .stuck
@[simp] theorem R.ok_bind {α β : Type} (a : α) (f : α → R β) : R.bind (.ok a) f = f a := rfl
@[simp] theorem R.exc_bind {α β : Type} (c : Nat) (f : α → R β) : R.bind (.exc c) f = .exc c := rfl
@[simp] theorem R.stuck_bind {α β : Type} (f : α → R β) : R.bind .stuck f = .stuck := rfl
def R.opt {α : Type} : Option α → R α
  | some a => .ok a
  | none => .stuck
@[simp] theorem R.opt_some {α : Type} (a : α) : R.opt (some a) = .ok a := rfl
@[simp] theorem R.opt_none {α : Type} : R.opt (none : Option α) = .stuck := rfl

inductive Op where
  | add | sub | mul | fdiv | mod | pow | neg | not
  | eq | ne | lt | le | gt | ge | isN | notN | isin | notin
  | item | slice | rev
  | len | sorted | min1 | max2 | min2 | sum | all | any
  | isint | isbool | isstr | istup
  | tuple | list | int
  | join | find | find2 | count | sindex | lindex | replace | split
  | mkt | mkl

inductive ItK where
  | seq | range1 | range2 | enum

inductive Tg where
  | name (i : Nat)
  | tup (is : List Nat)
  | lst (is : List Nat)

inductive E where
  | var (i : Nat)
  | lit (d : D)
  | nil
  | cons (a b : E)
  | op (o : Op) (a : E)
  | call (f : Nat) (a : E)
  | callIO (f i : Nat) (a : E)
  | and (a b : E)
  | or (a b : E)
  | ife (c a b : E)
  | chain (o1 o2 : Op) (a b c : E)
  | it (k : ItK) (a : E)
  | lc (own : List Nat) (tg : Tg) (src cond elt : E)
  | peek (a : E)
  | oitem (i : Nat) (a : E)
  | dIn (i : Nat) (a : E)
  | told (a : E)
  | meth (o : Op) (a b : E)
  | slcL (a lo : E)
  | slcH (a hi : E)
  | slcB (a lo hi : E)

inductive S where
  | skip
  | seq (a b : S)
  | asg (tg : Tg) (e : E)
  | asgM (i mode : Nat) (e : E)
  | par (is : List (Nat × Nat)) (e : E)
  | append (i : Nat) (e : E)
  | store (i : Nat) (k e : E)
  | sto2 (i k1 k2 : Nat) (e : E)
  | dput (i : Nat) (k e : E)
  | expr (e : E)
  | ret (e : E)
  | ifs (c : E) (a b : S)
  | for_ (tg : Tg) (src : E) (b : S)
  | while_ (n : Nat) (c : E) (b : S)
  | raise (c : Nat)

/-! ### operations on data -/
def lim : Nat := 1000000

/-- an index, negative ones from the end -/
def ixOf (n : Nat) (i : Int) : Option Nat :=
  if 0 ≤ i then (if i.toNat < n then some i.toNat else none) else (if (-i).toNat ≤ n then some (n - (-i).toNat) else none)
/-- a slice's bound, clamped -/
def clamp (n : Nat) (dflt : Nat) : D → Option Nat
  | .none => some dflt
  | .int i => some (if 0 ≤ i then min i.toNat n else n - (-i).toNat)
  | _ => none
def cut {α : Type} (l : List α) (lo hi : Nat) : List α := (l.take hi).drop lo
def allBool : List D → Option (List Bool)
  | [] => some []
  | .bool b :: r => (allBool r).map (b :: ·)
  | _ :: _ => none
def allInt : List D → Option (List Int)
  | [] => some []
  | .int b :: r => (allInt r).map (b :: ·)
  | _ :: _ => none
def allStr : List D → Option (List (List Nat))
  | [] => some []
  | .str b :: r => (allStr r).map (toL b :: ·)
  | _ :: _ => none
/-- the first place of a sign -/
def posOf (c : Nat) : List Nat → Option Nat
  | [] => none
  | a :: r => if a = c then some 0 else (posOf c r).map (· + 1)
def posFrom (c : Nat) (l : List Nat) (k : Nat) : Option Nat := (posOf c (l.drop k)).map (· + k)
def posInt : Option Nat → Int
  | some k => k
  | none => -1
/-- a text of one sign -/
def sign1 (s : Str) : Option Nat := match toL s with
  | [c] => some c
  | _ => none
def joinL (sep : List Nat) : List (List Nat) → List Nat
  | [] => []
  | [x] => x
  | x :: r => x ++ sep ++ joinL sep r
def chars (l : List Nat) : List D := l.map fun c => dS [c]
def ins (le : D → D → Bool) (x : D) : List D → List D
  | [] => [x]
  | y :: r => if le x y then x :: y :: r else y :: ins le x r
def isort (le : D → D → Bool) : List D → List D
  | [] => []
  | x :: r => ins le x (isort le r)
/-- x <= y for alike data -/
def dle (x y : D) : Bool := !PySem.W.dataLt y x
def alikeAs (x : D) : List D → Bool
  | [] => true
  | y :: r => PySem.W.alike x y && PySem.W.alike y x && alikeAs x r
def allAlike : List D → Bool
  | [] => true
  | x :: r => PySem.W.alike x x && alikeAs x r && allAlike r
def sortable (l : List D) : Bool := (l.all fun d => match d with | .tuple (_ :: _) => true | _ => false) || l.all fun d => match d with | .none => false | .tuple _ => false | .dict _ => false | _ => true
def enumFrom : Nat → List D → List D
  | _, [] => []
  | n, x :: r => .tuple [.int n, x] :: enumFrom (n + 1) r
def rangeFrom (i : Int) : Nat → List D
  | 0 => []
  | n + 1 => .int i :: rangeFrom (i + 1) n
/-- split by one sign -/
def splitBy (c : Nat) : List Nat → List (List Nat)
  | [] => [[]]
  | a :: r => if a = c then [] :: splitBy c r else match splitBy c r with
    | [] => [[a]]
    | x :: t => (a :: x) :: t

/-- no dict itself -/
def isI : D → Bool
  | .int _ => true
  | _ => false
def nd : D → Bool
  | .dict _ => false
  | _ => true
def notNone : D → Bool
  | .none => false
  | _ => true
def guardO {α : Type} (b : Bool) (x : Option α) : Option α := if b then x else none

def dop_add : List D → Option D
  | [.int a, .int b] => some (.int (a + b))
  | [.str a, .str b] => guardO (decide ((toL a).length + (toL b).length ≤ lim)) (some (dS (toL a ++ toL b)))
  | [.tuple a, .tuple b] => guardO (decide (a.length + b.length ≤ lim)) (some (.tuple (a ++ b)))
  | [.list a, .list b] => guardO (decide (a.length + b.length ≤ lim)) (some (.list (a ++ b)))
  | _ => none
def dop_sub : List D → Option D
  | [.int a, .int b] => some (.int (a - b))
  | _ => none
def dop_mul : List D → Option D
  | [.int a, .int b] => guardO (decide (a.natAbs < 2 ^ 400 ∧ b.natAbs < 2 ^ 400) || decide (-(2 ^ 64) < b ∧ b < 2 ^ 64)) (some (.int (a * b)))
  | [.str a, .int b] => guardO (decide (0 ≤ b ∧ b ≤ 1000 ∧ (toL a).length ≤ 1000)) (some (dS (List.replicate b.toNat (toL a)).flatten))
  | [.list a, .int b] => guardO (decide (0 ≤ b ∧ b ≤ 1000 ∧ a.length ≤ 1000)) (some (.list (List.replicate b.toNat a).flatten))
  | [.tuple a, .int b] => guardO (decide (2 ≤ b ∧ b ≤ 1000 ∧ a.length ≤ 1000) && !a.isEmpty) (some (.tuple (List.replicate b.toNat a).flatten))
  | _ => none
def dop_fdiv : List D → Option D
  | [.int a, .int b] => guardO (decide (0 < b ∧ b.natAbs < 2 ^ 400)) (some (.int (a / b)))
  | _ => none
def dop_mod : List D → Option D
  | [.int a, .int b] => guardO (decide (0 < b)) (some (.int (a % b)))
  | _ => none
def dop_pow : List D → Option D
  | [.int a, .int b] => guardO (decide (0 ≤ b ∧ b ≤ 1000 ∧ a.natAbs < 1000)) (some (.int (a ^ b.toNat)))
  | _ => none
def dop_neg : List D → Option D
  | [.int a] => some (.int (-a))
  | _ => none
def dop_not : List D → Option D
  | [.bool b] => some (.bool (!b))
  | _ => none
def dop_eq : List D → Option D
  | [a, b] => guardO (a.plain && b.plain && decide (a.depth ≤ 60)) (some (.bool (PyData.eqv a b)))
  | _ => none
def dop_ne : List D → Option D
  | [a, b] => guardO (a.plain && b.plain && decide (a.depth ≤ 60)) (some (.bool (!PyData.eqv a b)))
  | _ => none
def dop_lt : List D → Option D
  | [.int a, .int b] => some (.bool (decide (a < b)))
  | [.str a, .str b] => some (.bool (decide (toL a < toL b)))
  | _ => none
def dop_le : List D → Option D
  | [.int a, .int b] => some (.bool (decide (a ≤ b)))
  | _ => none
def dop_gt : List D → Option D
  | [.int a, .int b] => some (.bool (decide (b < a)))
  | _ => none
def dop_ge : List D → Option D
  | [.int a, .int b] => some (.bool (decide (b ≤ a)))
  | _ => none
def dop_isN : List D → Option D
  | [a] => some (.bool (!notNone a))
  | _ => none
def dop_notN : List D → Option D
  | [a] => some (.bool (notNone a))
  | _ => none
def dop_isin : List D → Option D
  | [.str a, .str b] => (sign1 a).map fun c => .bool (decide (c ∈ toL b))
  | [a, .list l] => guardO (a.plain && PyData.plainAll l && decide (a.depth ≤ 60)) (some (.bool (l.any fun d => PyData.eqv d a)))
  | [a, .tuple l] => guardO (a.plain && PyData.plainAll l && decide (a.depth ≤ 60)) (some (.bool (l.any fun d => PyData.eqv d a)))
  | _ => none
def dop_notin : List D → Option D
  | [.str a, .str b] => (sign1 a).map fun c => .bool (!decide (c ∈ toL b))
  | [a, .list l] => guardO (a.plain && PyData.plainAll l && decide (a.depth ≤ 60)) (some (.bool (!(l.any fun d => PyData.eqv d a))))
  | [a, .tuple l] => guardO (a.plain && PyData.plainAll l && decide (a.depth ≤ 60)) (some (.bool (!(l.any fun d => PyData.eqv d a))))
  | _ => none
def dop_item : List D → Option D
  | [.list l, .int i] => (ixOf l.length i).bind fun k => l[k]?
  | [.tuple l, .int i] => (ixOf l.length i).bind fun k => l[k]?
  | [.str s, .int i] => guardO (decide ((toL s).length ≤ lim)) ((ixOf (toL s).length i).bind fun k => (toL s)[k]?.map fun c => dS [c])
  | _ => none
def dop_slice : List D → Option D
  | [.list l, lo, hi] => (clamp l.length 0 lo).bind fun a => (clamp l.length l.length hi).map fun b => .list (cut l a b)
  | [.tuple l, lo, hi] => (clamp l.length 0 lo).bind fun a => (clamp l.length l.length hi).map fun b => .tuple (cut l a b)
  | [.str s, lo, hi] => guardO (decide ((toL s).length ≤ lim)) ((clamp (toL s).length 0 lo).bind fun a => (clamp (toL s).length (toL s).length hi).map fun b => dS (cut (toL s) a b))
  | _ => none
def dop_rev : List D → Option D
  | [.str s] => guardO (decide ((toL s).length ≤ lim)) (some (dS (toL s).reverse))
  | _ => none
def dop_len : List D → Option D
  | [.str s] => guardO (decide ((toL s).length ≤ lim)) (some (.int (toL s).length))
  | [.list l] => some (.int l.length)
  | [.tuple l] => some (.int l.length)
  | _ => none
def dop_sorted : List D → Option D
  | [.list l] => guardO (allAlike l && sortable l && decide (l.length ≤ lim) && decide (PyData.depthAll l ≤ 60)) (some (.list (isort dle l)))
  | [.str s] => guardO (decide ((toL s).length ≤ lim)) (some (.list (isort dle (chars (toL s)))))
  | _ => none
def dop_min1 : List D → Option D
  | [.list (x :: r)] => guardO (allAlike (x :: r) && (x :: r).all notNone && decide (PyData.depthAll (x :: r) ≤ 60)) (some (PySem.W.minD x r))
  | _ => none
def dop_max2 : List D → Option D
  | [.int a, .int b] => some (.int (if b > a then b else a))
  | _ => none
def dop_min2 : List D → Option D
  | [.int a, .int b] => some (.int (if b < a then b else a))
  | _ => none
def dop_sum : List D → Option D
  | [.list l] => (allInt l).map fun ns => .int ns.sum
  | _ => none
def dop_all : List D → Option D
  | [.list l] => (allBool l).map fun bs => .bool (bs.all id)
  | _ => none
def dop_any : List D → Option D
  | [.list l] => (allBool l).map fun bs => .bool (bs.any id)
  | _ => none
def dop_isint : List D → Option D
  | [d] => guardO (nd d) (some (.bool d.isInt))
  | _ => none
def dop_isbool : List D → Option D
  | [d] => guardO (nd d) (some (.bool d.isBool))
  | _ => none
def dop_isstr : List D → Option D
  | [d] => guardO (nd d) (some (.bool d.isStr))
  | _ => none
def dop_istup : List D → Option D
  | [d] => guardO (nd d) (some (.bool d.isTuple))
  | _ => none
def dop_tuple : List D → Option D
  | [.list l] => some (.tuple l)
  | _ => none
def dop_list : List D → Option D
  | [.list l] => some (.list l)
  | [.tuple l] => some (.list l)
  | [.str s] => guardO (decide ((toL s).length ≤ lim)) (some (.list (chars (toL s))))
  | _ => none
def dop_int : List D → Option D
  | [.bool b] => some (.int (if b then 1 else 0))
  | _ => none
def dop_join : List D → Option D
  | [.str sep, .list l] => (allStr l).bind fun ss => guardO (decide ((ss.map List.length).sum + ss.length * (toL sep).length ≤ lim)) (some (dS (joinL (toL sep) ss)))
  | [.str sep, .tuple l] => (allStr l).bind fun ss => guardO (decide ((ss.map List.length).sum + ss.length * (toL sep).length ≤ lim)) (some (dS (joinL (toL sep) ss)))
  | _ => none
def dop_find : List D → Option D
  | [.str s, .str t] => (sign1 t).map fun c => .int (posInt (posOf c (toL s)))
  | _ => none
def dop_find2 : List D → Option D
  | [.str s, .str t, .int i] => guardO (decide (0 ≤ i ∧ i.toNat ≤ (toL s).length)) ((sign1 t).map fun c => .int (posInt (posFrom c (toL s) i.toNat)))
  | _ => none
def dop_count : List D → Option D
  | [.str s, .str t] => (sign1 t).map fun c => .int (((toL s).filter fun x => x == c).length : Nat)
  | _ => none
def dop_sindex : List D → Option D
  | [.str s, .str t] => (sign1 t).bind fun c => (posOf c (toL s)).map fun k => .int k
  | _ => none
def dop_lindex : List D → Option D
  | [.list l, x] => guardO (x.plain && PyData.plainAll l && decide (x.depth ≤ 60)) ((l.findIdx? fun d => PyData.eqv d x).map fun k => .int k)
  | _ => none
def dop_replace : List D → Option D
  | [.str s, .str t, .str u] => guardO (decide ((toL s).length ≤ lim) && decide (toL u = [])) ((sign1 t).map fun c => dS ((toL s).filter fun x => x != c))
  | _ => none
def dop_split : List D → Option D
  | [.str s, .str t] => guardO (decide ((toL s).length ≤ lim)) (match toL t with | [c] => guardO (decide (c < 128)) (some (.list ((splitBy c (toL s)).map dS))) | _ => none)
  | _ => none
def dop_mkt : List D → Option D
  | l => guardO (decide (l.length ≤ lim) && l.all nd) (some (.tuple l))
def dop_mkl : List D → Option D
  | l => guardO (decide (l.length ≤ lim) && l.all nd) (some (.list l))
def opD : Op → List D → Option D
  | .add => dop_add
  | .sub => dop_sub
  | .mul => dop_mul
  | .fdiv => dop_fdiv
  | .mod => dop_mod
  | .pow => dop_pow
  | .neg => dop_neg
  | .not => dop_not
  | .eq => dop_eq
  | .ne => dop_ne
  | .lt => dop_lt
  | .le => dop_le
  | .gt => dop_gt
  | .ge => dop_ge
  | .isN => dop_isN
  | .notN => dop_notN
  | .isin => dop_isin
  | .notin => dop_notin
  | .item => dop_item
  | .slice => dop_slice
  | .rev => dop_rev
  | .len => dop_len
  | .sorted => dop_sorted
  | .min1 => dop_min1
  | .max2 => dop_max2
  | .min2 => dop_min2
  | .sum => dop_sum
  | .all => dop_all
  | .any => dop_any
  | .isint => dop_isint
  | .isbool => dop_isbool
  | .isstr => dop_isstr
  | .istup => dop_istup
  | .tuple => dop_tuple
  | .list => dop_list
  | .int => dop_int
  | .join => dop_join
  | .find => dop_find
  | .find2 => dop_find2
  | .count => dop_count
  | .sindex => dop_sindex
  | .lindex => dop_lindex
  | .replace => dop_replace
  | .split => dop_split
  | .mkt => dop_mkt
  | .mkl => dop_mkl

/-- what is walked, as items -/
def itD : ItK → List D → Option (List D)
  | .seq, [.list l] => some l
  | .seq, [.tuple l] => some l
  | .seq, [.str s] => some (chars (toL s))
  | .range1, [.int n] => guardO (decide (-lim ≤ n ∧ n ≤ lim)) (some (rangeFrom 0 n.toNat))
  | .range2, [.int a, .int b] => guardO (decide (-lim ≤ a ∧ a ≤ lim ∧ -lim ≤ b ∧ b ≤ lim)) (some (rangeFrom a (b - a).toNat))
  | .enum, [.list l] => some (enumFrom 0 l)
  | .enum, [.tuple l] => some (enumFrom 0 l)
  | _, _ => none

def excName (c : Nat) : Str := Str.ofString (["InvalidMap", "InvalidBorder", "InvalidPoint", "InvalidPlace", "InvalidLand", "InvalidCount", "InvalidText", "Bridge", "Loop", "LastBorder", "TooLarge", "OtherLand", "NothingToUndo"].getD c "other")

/-! ### environments -/
def getS (r : Env) (i : Nat) : Slot := r.getD i .un
def putS (r : Env) (i : Nat) (s : Slot) : Env := r.set i s
def putAll (r : Env) : List Nat → List D → Option Env
  | [], [] => some r
  | i :: is, d :: ds => putAll (putS r i (.sh d)) is ds
  | _, _ => none
def bindT (tg : Tg) (d : D) (r : Env) : Option Env :=
  match tg with
  | .name i => some (putS r i (.sh d))
  | .tup is => match d with
    | .tuple ds => putAll r is ds
    | _ => none
  | .lst is => match d with
    | .list ds => putAll r is ds
    | _ => none
/-- a list's item, by a name's whole number -/
def sto (i k : Nat) (d : D) (r : Env) : Option Env := match getS r i, getS r k with
  | .own l, .sh (.int j) => (ixOf l.length j).map fun p => putS r i (.own (l.set p d))
  | _, _ => none
def wipeE (r : Env) : List Nat → Env
  | [] => r
  | i :: is => putS (wipeE r is) i .un
/-- the places in own as they stood in r, the others as in r' -/
def backE (r' r : Env) : List Nat → Env
  | [] => r'
  | i :: is => putS (backE r' r is) i (getS r i)
/-- all owned lists frozen, for a look -/
def frzE (r : Env) : Env := r.map fun s => match s with
  | .own l => .sh (.list l)
  | s => s
/-- what is owned is out of sight -/
def hidE (r : Env) : Env := r.map fun s => match s with
  | .own _ => .un
  | .dicT _ => .un
  | .dicK _ => .un
  | s => s
def isOwnL : Slot → Bool
  | .own _ => true
  | _ => false
def isDic : Slot → Bool
  | .dicT _ => true
  | .dicK _ => true
  | _ => false
/-- a dict's key: an int or a text; a tuple of such -/
def keyK : D → Option (Sum Int Str)
  | .int i => some (.inl i)
  | .str s => some (.inr s)
  | _ => none
def keysK : List D → Option (List (Sum Int Str))
  | [] => some []
  | d :: r => (keyK d).bind fun k => (keysK r).map (k :: ·)
def keyT : D → Option (List (Sum Int Str))
  | .tuple l => keysK l
  | _ => none
def noDic : Env → Bool
  | [] => true
  | .dicT _ :: _ => false
  | .dicK _ :: _ => false
  | _ :: r => noDic r
mutual
/-- no list, no dict within -/
def noList : D → Bool
  | .list _ => false
  | .dict _ => false
  | .tuple l => noLists l
  | _ => true
def noLists : List D → Bool
  | [] => true
  | d :: r => noList d && noLists r
end
def lookD (kvs : List (D × D)) (k : D) : Option D :=
  match kvs with
  | [] => none
  | (a, b) :: r => if PyData.eqv a k then some b else lookD r k
def putD (kvs : List (D × D)) (k v : D) : List (D × D) :=
  match kvs with
  | [] => [(k, v)]
  | (a, b) :: r => if PyData.eqv a k then (a, v) :: r else (a, b) :: putD r k v

abbrev CallS := Nat → Option (List D) → List D → R (D × List D)

def lcLoop (bind : D → Env → Option Env) (cond elt : Env → R (D × Env)) : List D → Env → List D → R (List D × Env)
  | [], r, acc => .ok (acc.reverse, r)
  | x :: xs, r, acc =>
    match bind x r with
    | none => .stuck
    | some r1 =>
      match cond r1 with
      | .ok (.bool true, r2) =>
        match elt r2 with
        | .ok (d, r3) => if nd d then lcLoop bind cond elt xs r3 (d :: acc) else .stuck
        | _ => .stuck
      | .ok (.bool false, r2) => lcLoop bind cond elt xs r2 acc
      | _ => .stuck

section
variable (call : CallS)
def den : E → Env → R (D × Env)
  | .var i, r => match getS r i with
    | .sh d => .ok (d, r)
    | .own l => .ok (.list l, putS r i (.sh (.list l)))
    | _ => .stuck
  | .lit d, r => .ok (d, r)
  | .nil, r => .ok (.list [], r)
  | .cons a b, r => (den a r).bind fun (x, r1) => (den b r1).bind fun (y, r2) => match y with
    | .list l => .ok (.list (x :: l), r2)
    | _ => .stuck
  | .op o a, r => (den a r).bind fun (x, r1) => match x with
    | .list l => (R.opt (opD o l)).bind fun d => .ok (d, r1)
    | _ => .stuck
  | .call f a, r => (den a r).bind fun (x, r1) => match x with
    | .list l => (call f none l).bind fun (d, _) => .ok (d, r1)
    | _ => .stuck
  | .callIO f i a, r => if isOwnL (getS r i) then (den a r).bind fun (x, r1) => match x, getS r1 i with
    | .list l, .own m => match call f (some m) l with
      | .ok (d, m') => .ok (d, putS r1 i (.own m'))
      | _ => .stuck
    | _, _ => .stuck
    else .stuck
  | .and a b, r => (den a r).bind fun (x, r1) => match x with
    | .bool true => den b r1
    | .bool false => .ok (.bool false, r1)
    | _ => .stuck
  | .or a b, r => (den a r).bind fun (x, r1) => match x with
    | .bool true => .ok (.bool true, r1)
    | .bool false => den b r1
    | _ => .stuck
  | .ife c a b, r => (den c r).bind fun (x, r1) => match x with
    | .bool true => den a r1
    | .bool false => den b r1
    | _ => .stuck
  | .chain o1 o2 a b c, r => (den a r).bind fun (x, r1) => (den b r1).bind fun (y, r2) => match opD o1 [x, y] with
    | some (.bool true) => (den c r2).bind fun (z, r3) => (R.opt (opD o2 [y, z])).bind fun d => .ok (d, r3)
    | some (.bool false) => .ok (.bool false, r2)
    | _ => .stuck
  | .it k a, r => (den a r).bind fun (x, r1) => match x with
    | .list l => (R.opt (itD k l)).bind fun d => .ok (.list d, r1)
    | _ => .stuck
  | .lc own tg src cond elt, r => (den src r).bind fun (x, r1) => match x with
    | .list l => (lcLoop (fun d r => bindT tg d (wipeE r own)) (den cond) (den elt) l r1 []).bind fun (ys, r2) => if ys.length ≤ lim then .ok (.list ys, backE r2 r1 own) else .stuck
    | _ => .stuck
  | .peek a, r => if noDic r then match den a (frzE r) with
    | .ok (d, _) => if noList d then .ok (d, r) else .stuck
    | _ => .stuck
    else .stuck
  | .oitem i a, r => if isOwnL (getS r i) then (den a r).bind fun (x, r1) => match x, getS r1 i with
    | .int k, .own l => (R.opt ((ixOf l.length k).bind fun j => l[j]?)).bind fun d => .ok (d, r1)
    | _, _ => .stuck
    else .stuck
  | .dIn i a, r => (den a r).bind fun (x, r1) => match getS r1 i with
    | .dicT kvs => if (keyT x).isSome then .ok (.bool (lookD kvs x).isSome, r1) else .stuck
    | .dicK kvs => if (keyK x).isSome then .ok (.bool (lookD kvs x).isSome, r1) else .stuck
    | _ => .stuck
  | .meth o a b, r => (den a r).bind fun (x, r1) => match x with
    | .str z => (den b r1).bind fun (y, r2) => match y with
      | .list l => (R.opt (opD o (.str z :: l))).bind fun d => .ok (d, r2)
      | _ => .stuck
    | _ => .stuck
  | .slcL a lo, r => (den a r).bind fun (x, r1) => (den lo r1).bind fun (y, r2) => if isI y then (R.opt (opD .slice [x, y, .none])).bind fun d => .ok (d, r2) else .stuck
  | .slcH a hi, r => (den a r).bind fun (x, r1) => (den hi r1).bind fun (y, r2) => if isI y then (R.opt (opD .slice [x, .none, y])).bind fun d => .ok (d, r2) else .stuck
  | .slcB a lo hi, r => (den a r).bind fun (x, r1) => (den lo r1).bind fun (y, r2) => if isI y then (den hi r2).bind fun (z, r3) => if isI z then (R.opt (opD .slice [x, y, z])).bind fun d => .ok (d, r3) else .stuck else .stuck
  | .told a, r => match den a (hidE r) with
    | .ok (d, _) => .ok (d, r)
    | .exc c => if c < 13 then .ok (.tuple [.str (Str.ofString "error"), .str (excName c)], r) else .stuck
    | .stuck => .stuck

inductive RS where
  | nxt (r : Env)
  | ret (d : D) (r : Env)
  | exc (c : Nat)
  | stuck

def forLoop (bind : D → Env → Option Env) (body : Env → RS) : List D → Env → RS
  | [], r => .nxt r
  | x :: xs, r => match bind x r with
    | none => .stuck
    | some r1 => match body r1 with
      | .nxt r2 => forLoop bind body xs r2
      | o => o
def whileLoop (cond : Env → R (D × Env)) (body : Env → RS) : Nat → Env → RS
  | 0, _ => .stuck
  | n + 1, r => match cond r with
    | .ok (.bool true, r1) => match body r1 with
      | .nxt r2 => whileLoop cond body n r2
      | o => o
    | .ok (.bool false, r1) => .nxt r1
    | .exc c => .exc c
    | _ => .stuck
/-- how a value is held: 0 shared, 1 an owned list, 2 and 3 an owned dict (keys tuples; keys texts, ints) -/
def slotM : Nat → D → Option Slot
  | 0, d => some (.sh d)
  | 1, .list l => some (.own l)
  | 2, .dict [] => some (.dicT [])
  | 3, .dict [] => some (.dicK [])
  | _, _ => none
/-- the values to their places -/
def putPar : List (Nat × Nat) → List D → Env → Option Env
  | [], [], r => some r
  | (i, m) :: is, d :: ds, r => match slotM m d with
    | some s => putPar is ds (putS r i s)
    | none => none
  | _, _, _ => none

def denS : S → Env → RS
  | .skip, r => .nxt r
  | .seq a b, r => match denS a r with
    | .nxt r1 => denS b r1
    | o => o
  | .asg tg e, r => match den call e r with
    | .ok (d, r1) => match bindT tg d r1 with
      | some r2 => .nxt r2
      | none => .stuck
    | .exc c => .exc c
    | .stuck => .stuck
  | .asgM i m e, r => match den call e r with
    | .ok (d, r1) => match slotM m d with
      | some s => .nxt (putS r1 i s)
      | none => .stuck
    | .exc c => .exc c
    | .stuck => .stuck
  | .par is e, r => match den call e r with
    | .ok (.list ds, r1) => match putPar is ds r1 with
      | some r2 => .nxt r2
      | none => .stuck
    | .exc c => .exc c
    | _ => .stuck
  | .append i e, r => if isOwnL (getS r i) then match den call e r with
      | .ok (d, r1) => match getS r1 i with
        | .own l => if l.length < lim ∧ nd d = true then .nxt (putS r1 i (.own (l ++ [d]))) else .stuck
        | _ => .stuck
      | .exc c => .exc c
      | .stuck => .stuck
    else .stuck
  | .store i k e, r => if isOwnL (getS r i) then match den call e r with
      | .ok (d, r1) => match den call k r1 with
        | .ok (.int j, r2) => match getS r2 i with
          | .own l => if nd d then match ixOf l.length j with
              | some p => .nxt (putS r2 i (.own (l.set p d)))
              | none => .stuck
            else .stuck
          | _ => .stuck
        | .exc c => .exc c
        | _ => .stuck
      | .exc c => .exc c
      | .stuck => .stuck
    else .stuck
  | .sto2 i k1 k2 e, r => match den call e r with
    | .ok (.tuple [d1, d2], r1) => if nd d1 && nd d2 then match (sto i k1 d1 r1).bind (sto i k2 d2) with
        | some r3 => .nxt r3
        | none => .stuck
      else .stuck
    | .exc c => .exc c
    | _ => .stuck
  | .dput i k e, r => if isDic (getS r i) then match den call e r with
      | .ok (d, r1) => match den call k r1 with
        | .ok (x, r2) => match getS r2 i with
          | .dicT kvs => if kvs.length < lim ∧ nd d = true ∧ (keyT x).isSome = true then .nxt (putS r2 i (.dicT (putD kvs x d))) else .stuck
          | .dicK kvs => if kvs.length < lim ∧ nd d = true ∧ (keyK x).isSome = true then .nxt (putS r2 i (.dicK (putD kvs x d))) else .stuck
          | _ => .stuck
        | .exc c => .exc c
        | .stuck => .stuck
      | .exc c => .exc c
      | .stuck => .stuck
    else .stuck
  | .expr e, r => match den call e r with
    | .ok (_, r1) => .nxt r1
    | .exc c => .exc c
    | .stuck => .stuck
  | .ret e, r => match den call e r with
    | .ok (d, r1) => .ret d r1
    | .exc c => .exc c
    | .stuck => .stuck
  | .ifs c a b, r => match den call c r with
    | .ok (.bool true, r1) => denS a r1
    | .ok (.bool false, r1) => denS b r1
    | .exc c => .exc c
    | _ => .stuck
  | .for_ tg src b, r => match den call src r with
    | .ok (.list l, r1) => forLoop (bindT tg) (denS b) l r1
    | .exc c => .exc c
    | _ => .stuck
  | .while_ n c b, r => whileLoop (den call c) (denS b) n r
  | .raise c, _ => .exc c
end

/-- a def: how many parameters, how many places, whether its first parameter is a list that it changes -/
structure FDef where
  np : Nat
  ns : Nat
  io : Bool
  body : S
def entry (fd : FDef) (own : Option (List D)) (args : List D) : Option Env :=
  match own with
  | none => if fd.io = false ∧ args.length = fd.np then some (args.map .sh ++ List.replicate (fd.ns - fd.np) .un) else none
  | some m => if fd.io = true ∧ args.length + 1 = fd.np then some (.own m :: args.map .sh ++ List.replicate (fd.ns - fd.np) .un) else none
def endOf (own : Option (List D)) : RS → R (D × List D)
  | .nxt r => match own, getS r 0 with
    | none, _ => .ok (.none, [])
    | some _, .own m => .ok (.none, m)
    | _, _ => .stuck
  | .ret d r => match own, getS r 0 with
    | none, _ => .ok (d, [])
    | some _, .own m => .ok (d, m)
    | _, _ => .stuck
  | .exc c => .exc c
  | .stuck => .stuck
/-- the meaning of the defs, to a depth of n calls -/
def run (T : Nat → Option FDef) : Nat → CallS
  | 0 => fun _ _ _ => .stuck
  | n + 1 => fun f own args => match T f with
    | none => .stuck
    | some fd => match entry fd own args with
      | none => .stuck
      | some r => endOf own (denS (run T n) fd.body r)
end Bm
end
section
set_option Elab.async false
set_option linter.all false
set_option maxRecDepth 100000
set_option maxHeartbeats 1000000
/-! What the evaluator says holds of the model: relations, expressions. -/
namespace Bm
open PySem PySem.Spec L2

mutual
/-- v is the datum d, by what stands in F -/
inductive Dp (K : PySem.W.Frag) (F : Hp) : V → PyData → Prop
  | non : Dp K F .non .none
  | bl (b : Bool) : Dp K F (.bl b) (.bool b)
  | int (i : Int) : Dp K F (.int i) (.int i)
  | str (x : Str) : Dp K F (.str x) (.str x)
  | lst {a : Addr} {xs : List V} {ds : List PyData} : F a = some (.lst xs) → DpAll K F xs ds → Dp K F (.ref a) (.list ds)
  | tup {a : Addr} {xs : List V} {ds : List PyData} : F a = some (.tup xs) → DpAll K F xs ds → Dp K F (.ref a) (.tuple ds)
inductive DpAll (K : PySem.W.Frag) (F : Hp) : List V → List PyData → Prop
  | nil : DpAll K F [] []
  | cons {v : V} {vs : List V} {d : PyData} {ds : List PyData} : Dp K F v d → DpAll K F vs ds → DpAll K F (v :: vs) (d :: ds)
end
def keyD : Key → D
  | .inl i => .int i
  | .inr s => .str s
def DictAt (K : PySem.W.Frag) (F : Hp) (v : V) (kvs : List (D × D)) : Prop :=
  ∃ (a : Addr) (kv : List (Key × V)), v = .ref a ∧ F a = some (.dK kv) ∧ Paired (fun (p : Key × V) (q : D × D) => keyD p.1 = q.1 ∧ Dp K F p.2 q.2) kv kvs
def Dn (K : PySem.W.Frag) (F : Hp) (v : V) : D → Prop
  | .dict kvs => DictAt K F v kvs
  | d => Dp K F v d

theorem same_rd {F F' : Hp} {a : Addr} {u : HO} (e : Same F F') (h : Rd F a u) : Rd F' a u := by
  rcases h with h | ⟨o, h⟩
  · exact .inl (e _ _ h)
  · exact .inr ⟨o, e _ _ h⟩
mutual
theorem dp_same {K : PySem.W.Frag} {F F' : Hp} (e : Same F F') : ∀ (d : D) (v : V), Dp K F v d → Dp K F' v d
  | .none, _, h => by cases h; exact .non
  | .bool _, _, h => by cases h; exact .bl _
  | .int _, _, h => by cases h; exact .int _
  | .str _, _, h => by cases h; exact .str _
  | .list ds, _, h => by cases h with | lst h1 h2 => exact .lst (e _ _ h1) (dpa_same e ds _ h2)
  | .tuple ds, _, h => by cases h with | tup h1 h2 => exact .tup (e _ _ h1) (dpa_same e ds _ h2)
  | .dict _, _, h => by cases h
theorem dpa_same {K : PySem.W.Frag} {F F' : Hp} (e : Same F F') : ∀ (ds : List D) (vs : List V), DpAll K F vs ds → DpAll K F' vs ds
  | [], _, h => by cases h; exact .nil
  | d :: ds, _, h => by cases h with | cons h1 h2 => exact .cons (dp_same e d _ h1) (dpa_same e ds _ h2)
end
mutual
theorem Dp.l2 {K : PySem.W.Frag} {F H : Hp} (e : Same F H) : ∀ (d : D) (v : V), Dp K F v d → L2.Dp K H v d
  | .none, _, h => by cases h; exact .non
  | .bool _, _, h => by cases h; exact .bl _
  | .int _, _, h => by cases h; exact .int _
  | .str _, _, h => by cases h; exact .str _
  | .list ds, _, h => by cases h with | lst h1 h2 => exact .lst (.inl (.inl (e _ _ h1))) (DpAll.l2 e ds _ h2)
  | .tuple ds, _, h => by cases h with | tup h1 h2 => exact .tup (.inl (.inl (e _ _ h1))) (DpAll.l2 e ds _ h2)
  | .dict _, _, h => by cases h
theorem DpAll.l2 {K : PySem.W.Frag} {F H : Hp} (e : Same F H) : ∀ (ds : List D) (vs : List V), DpAll K F vs ds → L2.DpAll K H vs ds
  | [], _, h => by cases h; exact .nil
  | d :: ds, _, h => by cases h with | cons h1 h2 => exact .cons (Dp.l2 e d _ h1) (DpAll.l2 e ds _ h2)
end
theorem paired_imp {α β : Type} {P Q : α → β → Prop} (f : ∀ a b, P a b → Q a b) : ∀ {l : List α} {m : List β}, Paired P l m → Paired Q l m
  | _, _, .nil => .nil
  | _, _, .cons h t => .cons (f _ _ h) (paired_imp f t)
theorem dn_same {K : PySem.W.Frag} {F F' : Hp} (e : Same F F') {d : D} {v : V} (h : Dn K F v d) : Dn K F' v d := by
  cases d with
  | dict kvs =>
    obtain ⟨a, kv, hv, ha, p⟩ := h
    exact ⟨a, kv, hv, e _ _ ha, paired_imp (fun _ _ q => ⟨q.1, dp_same e _ _ q.2⟩) p⟩
  | none => exact dp_same e _ _ h
  | bool b => exact dp_same e _ _ h
  | int b => exact dp_same e _ _ h
  | str b => exact dp_same e _ _ h
  | list b => exact dp_same e _ _ h
  | tuple b => exact dp_same e _ _ h
theorem Dn.of {K : PySem.W.Frag} {F : Hp} {d : D} {v : V} (h : Dp K F v d) : Dn K F v d := by
  cases d with
  | dict kvs => cases h
  | none => exact h
  | bool b => exact h
  | int b => exact h
  | str b => exact h
  | list b => exact h
  | tuple b => exact h
theorem Dn.dp {K : PySem.W.Frag} {F : Hp} {d : D} {v : V} (h : Dn K F v d) (n : ∀ kvs, d ≠ .dict kvs) : Dp K F v d := by
  cases d with
  | dict kvs => exact absurd rfl (n kvs)
  | none => exact h
  | bool b => exact h
  | int b => exact h
  | str b => exact h
  | list b => exact h
  | tuple b => exact h
theorem dpa_len {K : PySem.W.Frag} {F : Hp} : ∀ {ds : List D} {vs : List V}, DpAll K F vs ds → vs.length = ds.length
  | _, _, .nil => rfl
  | _, _, .cons _ t => congrArg (· + 1) (dpa_len t)
theorem dpa_get {K : PySem.W.Frag} {F : Hp} : ∀ {ds : List D} {vs : List V} {i : Nat} {d : D}, DpAll K F vs ds → ds[i]? = some d → ∃ v, vs[i]? = some v ∧ Dp K F v d
  | _, _, _, _, .nil, e => by simp at e
  | _, _, 0, _, .cons h _, e => by simp at e; subst e; exact ⟨_, rfl, h⟩
  | _, _, i + 1, d, .cons _ t, e => by
    obtain ⟨v, h1, h2⟩ := dpa_get (i := i) (d := d) t (by simpa using e)
    exact ⟨v, by simpa using h1, h2⟩
theorem dpa_app {K : PySem.W.Frag} {F : Hp} : ∀ {ds es : List D} {vs us : List V}, DpAll K F vs ds → DpAll K F us es → DpAll K F (vs ++ us) (ds ++ es)
  | _, _, _, _, .nil, h => h
  | _, _, _, _, .cons h t, q => .cons h (dpa_app t q)
theorem dpa_set {K : PySem.W.Frag} {F : Hp} {d : D} {v : V} (q : Dp K F v d) : ∀ {ds : List D} {vs : List V} (i : Nat), DpAll K F vs ds → DpAll K F (vs.set i v) (ds.set i d)
  | _, _, _, .nil => .nil
  | _, _, 0, .cons _ t => .cons q t
  | _, _, i + 1, .cons h t => .cons h (dpa_set q i t)
theorem dpa_take {K : PySem.W.Frag} {F : Hp} : ∀ {ds : List D} {vs : List V} (n : Nat), DpAll K F vs ds → DpAll K F (vs.take n) (ds.take n)
  | _, _, 0, _ => .nil
  | _, _, _ + 1, .nil => .nil
  | _, _, n + 1, .cons h t => .cons h (dpa_take n t)
theorem dpa_drop {K : PySem.W.Frag} {F : Hp} : ∀ {ds : List D} {vs : List V} (n : Nat), DpAll K F vs ds → DpAll K F (vs.drop n) (ds.drop n)
  | _, _, 0, h => h
  | _, _, _ + 1, .nil => .nil
  | _, _, n + 1, .cons _ t => dpa_drop n t

/-! ### places -/
def isMut : HO → Prop
  | .lst _ => True
  | .dK _ => True
  | .dT _ => True
  | _ => False
/-- kept: as it is, or a table still -/
def KO (o : HO) (x : Option HO) : Prop := x = some o ∨ ((∃ ps, o = .tbl ps) ∧ ∃ ps, x = some (.tbl ps))
theorem KO.refl {o : HO} {x : Option HO} (h : x = some o) : KO o x := .inl h
theorem KO.trans {o : HO} {x y : Option HO} (a : KO o x) (b : ∀ o', x = some o' → KO o' y) : KO o y := by
  rcases a with a | ⟨a, ps, e⟩
  · exact b o a
  · rcases b _ e with b | ⟨_, ps', b⟩
    · exact .inr ⟨a, ps, b⟩
    · exact .inr ⟨a, ps', b⟩
theorem KO.ex {o : HO} {x : Option HO} (a : KO o x) : ∃ o', x = Option.some o' := by
  rcases a with a | ⟨a, ps, e⟩
  · exact ⟨_, a⟩
  · exact ⟨_, e⟩
theorem KO.mut {o : HO} {x : Option HO} (a : KO o x) (m : isMut o) : x = some o := by
  rcases a with a | ⟨⟨ps, e⟩, _⟩
  · exact a
  · rw [e] at m; exact m.elim
def TupKV (K : PySem.W.Frag) (F : Hp) (kv : List (List Key × V)) (kvs : List (D × D)) : Prop := Paired (fun (p : List Key × V) (q : D × D) => PyData.tuple (p.1.map keyD) = q.1 ∧ Dp K F p.2 q.2) kv kvs ∧ (kv.map (·.1)).Nodup
def KeyKV (K : PySem.W.Frag) (F : Hp) (kv : List (Key × V)) (kvs : List (D × D)) : Prop := Paired (fun (p : Key × V) (q : D × D) => keyD p.1 = q.1 ∧ Dp K F p.2 q.2) kv kvs ∧ (kv.map (·.1)).Nodup
def SlotOk (K : PySem.W.Frag) (F H : Hp) : Slot → Option V → Prop
  | .un, _ => True
  | .sh d, o => ∃ v, o = some v ∧ Dn K F v d
  | .own l, o => ∃ (a : Addr) (vs : List V), o = some (.ref a) ∧ F a = none ∧ H a = some (.lst vs) ∧ DpAll K F vs l
  | .dicT kvs, o => ∃ (a : Addr) (kv : List (List Key × V)), o = some (.ref a) ∧ F a = none ∧ H a = some (.dT kv) ∧ TupKV K F kv kvs
  | .dicK kvs, o => ∃ (a : Addr) (kv : List (Key × V)), o = some (.ref a) ∧ F a = none ∧ H a = some (.dK kv) ∧ KeyKV K F kv kvs
def isOwn : Slot → Bool
  | .un => false
  | .sh _ => false
  | _ => true
def vAt (σ : St) (i : Nat) : Option V := (σ[i]?).join
def OwnAt (r : Env) (σ : St) (i : Nat) (a : Addr) : Prop := isOwn (getS r i) = true ∧ vAt σ i = some (.ref a)
def Own (r : Env) (σ : St) (a : Addr) : Prop := ∃ i, OwnAt r σ i a

/-- the entry of the def: the heap, what is frozen in it, what may be changed -/
structure Ent where
  H0 : Hp
  F0 : Hp
  O0 : Addr → Prop
  P0 : Addr → Prop
/-- all but the changeable is kept -/
def Kp (W : Ent) (F H : Hp) : Prop := ∀ b o, W.H0 b = some o → ¬ W.O0 b → F b = W.F0 b ∧ KO o (H b)
structure Cfg where
  J : Hp → Prop
  hJ : ∀ H H' : Hp, (∀ b o, H b = some o → H' b = some o ∨ isMut o) → J H → J H'
  W : Ent
  call : CallS
  E : XK
  cl : Nat → Value

structure Rel (K : PySem.W.Frag) (r : Env) (σ : St) (H F : Hp) : Prop where
  len : r.length = σ.length
  same : Same F H
  ok : ∀ i, SlotOk K F H (getS r i) (vAt σ i)
  inj : ∀ i j a, OwnAt r σ i a → OwnAt r σ j a → i = j
/-- the state between two steps -/
structure Stt (K : PySem.W.Frag) (c : Cfg) (r : Env) (σ : St) (H F : Hp) : Prop where
  rel : Rel K r σ H F
  tie : c.J H
  kp : Kp c.W F H
  own : ∀ b, Own r σ b → c.W.O0 b ∨ c.W.H0 b = none
  pin : ∀ b, vAt σ 0 = some (.ref b) → c.W.P0 b
/-- the first place may be written, or is not among them -/
def ZOk (c : Cfg) (is : List Nat) : Prop := (∀ b, c.W.P0 b) ∨ 0 ∉ is
theorem ZOk.head {c : Cfg} {i : Nat} {is : List Nat} (h : ZOk c (i :: is)) : ZOk c [i] := h.imp id fun n z => n (by rw [List.mem_singleton.mp z]; exact List.mem_cons_self)
theorem ZOk.tail {c : Cfg} {i : Nat} {is : List Nat} (h : ZOk c (i :: is)) : ZOk c is := h.imp id fun n z => n (List.mem_cons_of_mem _ z)
/-- what an expression leaves: all but what the places own -/
def Ef (r : Env) (σ : St) (F H F' H' : Hp) : Prop := ∀ b o, H b = some o → ¬ Own r σ b → F' b = F b ∧ KO o (H' b)

theorem own_mut {K : PySem.W.Frag} {r : Env} {σ : St} {H F : Hp} (x : Rel K r σ H F) {a : Addr} (h : Own r σ a) : F a = none ∧ ∃ o, H a = some o ∧ isMut o := by
  obtain ⟨i, h1, h2⟩ := h
  have q := x.ok i
  cases e : getS r i with
  | un => rw [e] at h1; cases h1
  | sh d => rw [e] at h1; cases h1
  | own l =>
    rw [e] at q
    obtain ⟨b, vs, e1, e2, e3, _⟩ := q
    rw [h2] at e1; cases e1
    exact ⟨e2, _, e3, trivial⟩
  | dicT l =>
    rw [e] at q
    obtain ⟨b, vs, e1, e2, e3, _⟩ := q
    rw [h2] at e1; cases e1
    exact ⟨e2, _, e3, trivial⟩
  | dicK l =>
    rw [e] at q
    obtain ⟨b, vs, e1, e2, e3, _⟩ := q
    rw [h2] at e1; cases e1
    exact ⟨e2, _, e3, trivial⟩
theorem Ef.same {K : PySem.W.Frag} {r : Env} {σ : St} {H F F' H' : Hp} (x : Rel K r σ H F) (e : Ef r σ F H F' H') : Same F F' := fun b o h => by
  have n : ¬ Own r σ b := fun q => by
    have := (own_mut x q).1
    rw [h] at this; cases this
  rw [(e b o (x.same b o h) n).1]
  exact h
theorem Ef.refl {r : Env} {σ : St} {H F : Hp} : Ef r σ F H F H := fun _ _ h _ => ⟨rfl, .inl h⟩
theorem Ef.trans {r r1 : Env} {σ : St} {H F H1 F1 H2 F2 : Hp} (a : Ef r σ F H F1 H1) (b : Ef r1 σ F1 H1 F2 H2) (s : ∀ a, Own r1 σ a → Own r σ a) : Ef r σ F H F2 H2 := fun c o h n => by
  have h1 := a c o h n
  have n1 : ¬ Own r1 σ c := fun q => n (s c q)
  obtain ⟨o1, e1⟩ := h1.2.ex
  refine ⟨(b c o1 e1 n1).1.trans h1.1, h1.2.trans fun o' e' => (b c o' e' n1).2⟩
/-- the owned ones become fewer, the rest is kept: still a state -/
theorem Stt.step {K : PySem.W.Frag} {c : Cfg} {r r' : Env} {σ : St} {H F H' F' : Hp} (x : Stt K c r σ H F) (rel : Rel K r' σ H' F') (j : c.J H') (e : Ef r σ F H F' H') (s : ∀ a, Own r' σ a → Own r σ a) : Stt K c r' σ H' F' := by
  refine ⟨rel, j, fun b o h n => ?_, fun b h => x.own b (s b h), x.pin⟩
  have h1 := x.kp b o h n
  have no : ¬ Own r σ b := fun q => by
    rcases x.own b q with q | q
    · exact n q
    · rw [h] at q; cases q
  obtain ⟨o1, e1⟩ := h1.2.ex
  exact ⟨(e b o1 e1 no).1.trans h1.1, h1.2.trans fun o' e' => (e b o' e' no).2⟩
theorem slot_same {K : PySem.W.Frag} {F F' H H' : Hp} {s : Slot} {o : Option V} (e : Same F F') (h : ∀ a, isOwn s = true → o = some (.ref a) → F a = none → (∃ x, H a = some x ∧ isMut x) → F' a = none ∧ H' a = H a) (q : SlotOk K F H s o) : SlotOk K F' H' s o := by
  cases s with
  | un => trivial
  | sh d =>
    obtain ⟨v, h1, h2⟩ := q
    exact ⟨v, h1, dn_same e h2⟩
  | own l =>
    obtain ⟨a, vs, h1, h2, h3, h4⟩ := q
    have z := h a rfl h1 h2 ⟨_, h3, trivial⟩
    exact ⟨a, vs, h1, z.1, z.2.trans h3, dpa_same e _ _ h4⟩
  | dicT l =>
    obtain ⟨a, vs, h1, h2, h3, h4⟩ := q
    have z := h a rfl h1 h2 ⟨_, h3, trivial⟩
    exact ⟨a, vs, h1, z.1, z.2.trans h3, paired_imp (fun _ _ q => ⟨q.1, dp_same e _ _ q.2⟩) h4.1, h4.2⟩
  | dicK l =>
    obtain ⟨a, vs, h1, h2, h3, h4⟩ := q
    have z := h a rfl h1 h2 ⟨_, h3, trivial⟩
    exact ⟨a, vs, h1, z.1, z.2.trans h3, paired_imp (fun _ _ q => ⟨q.1, dp_same e _ _ q.2⟩) h4.1, h4.2⟩
theorem same_upd {H : Hp} {p : Addr} {o : HO} (h : H p = none) : Same H (upd H p o) := fun b x e => by
  rw [upd_ne (ne_of_none e h)]
  exact e
/-- a callee has run, or a new object was made: nothing that stood is changed -/
structure Grow (F H F' H' : Hp) : Prop where
  same : Same F' H'
  kp : ∀ b o, H b = some o → F' b = F b ∧ KO o (H' b)
theorem Grow.refl {F H : Hp} (s : Same F H) : Grow F H F H := ⟨s, fun _ _ h => ⟨rfl, .inl h⟩⟩
theorem Grow.ef {F H F' H' : Hp} {r : Env} {σ : St} (g : Grow F H F' H') : Ef r σ F H F' H' := fun b o h _ => g.kp b o h
theorem Grow.sameF {F H F' H' : Hp} (g : Grow F H F' H') (s : Same F H) : Same F F' := fun b o h => by
  rw [(g.kp b o (s b o h)).1]; exact h
theorem Grow.alloc {F H : Hp} {p : Addr} {o : HO} (s : Same F H) (h : H p = none) : Grow F H (upd F p o) (upd H p o) := by
  refine ⟨fun b x e => ?_, fun b x e => ?_⟩
  · by_cases hb : b = p
    · subst hb; rw [upd_same] at e ⊢; exact e
    · rw [upd_ne hb] at e ⊢; exact s b x e
  · have hb : b ≠ p := ne_of_none e h
    rw [upd_ne hb, upd_ne hb]
    exact ⟨rfl, .inl e⟩
/-- an object laid that is not frozen -/
theorem Grow.lay {F H : Hp} {p : Addr} {o : HO} (s : Same F H) (h : H p = none) : Grow F H F (upd H p o) := by
  refine ⟨fun b x e => ?_, fun b x e => ?_⟩
  · rw [upd_ne (ne_of_none (s b x e) h)]; exact s b x e
  · rw [upd_ne (ne_of_none e h)]
    exact ⟨rfl, .inl e⟩
theorem Grow.rel {K : PySem.W.Frag} {r : Env} {σ : St} {F H F' H' : Hp} (g : Grow F H F' H') (x : Rel K r σ H F) : Rel K r σ H' F' :=
  ⟨x.len, g.same, fun i => slot_same (g.sameF x.same) (fun a _ _ hf ⟨o, ho, m⟩ => ⟨(g.kp a o ho).1.trans hf, ((g.kp a o ho).2.mut m).trans ho.symm⟩) (x.ok i), x.inj⟩
theorem Grow.stt {K : PySem.W.Frag} {c : Cfg} {r : Env} {σ : St} {F H F' H' : Hp} (g : Grow F H F' H') (x : Stt K c r σ H F) (j : c.J H') : Stt K c r σ H' F' :=
  x.step (g.rel x.rel) j g.ef fun _ q => q
theorem Stt.jup {K : PySem.W.Frag} {c : Cfg} {r : Env} {σ : St} {F H : Hp} (x : Stt K c r σ H F) {p : Addr} {o : HO} (h : H p = none) : c.J (upd H p o) :=
  c.hJ H _ (fun b u e => .inl (same_upd h b u e)) x.tie

/-! ### readings -/
/-- what is wanted behind an expression that gives x -/
def OkE (K : PySem.W.Frag) (c : Cfg) (r : Env) (σ : St) (F H : Hp) (x : R (D × Env)) (Q : VK) : Prop :=
  match x with
  | .ok (d, r') => ∀ (v : V) (F' H' : Hp), Stt K c r' σ H' F' → Ef r σ F H F' H' → (∀ a, Own r' σ a → Own r σ a) → Dn K F' v d → Q v H'
  | .exc k => ∀ (F' H' : Hp), c.J H' → Same F' H' → Kp c.W F' H' → c.E (c.cl k) none H'
  | .stuck => False
def TEv (K : PySem.W.Frag) (c : Cfg) (m : E) : TE := fun σ H Q => ∃ F r, Stt K c r σ H F ∧ OkE K c r σ F H (den c.call m r) Q
theorem PE.mono {X : Cx} {e : Expr} {t u : TE} (h : PE X e t) (i : ∀ σ H Q, u σ H Q → t σ H Q) : PE X e u := ⟨fun pins s σ H Q I q => h.run pins s σ H Q I (i σ H Q q)⟩
theorem OkE.shift {K : PySem.W.Frag} {c : Cfg} {r r1 : Env} {σ : St} {F H F1 H1 : Hp} {y : R (D × Env)} {Q : VK} (h : OkE K c r σ F H y Q) (e : Ef r σ F H F1 H1) (s : ∀ a, Own r1 σ a → Own r σ a) : OkE K c r1 σ F1 H1 y Q := by
  cases y with
  | ok p => exact fun v F' H' x e' s' q => h v F' H' x (e.trans e' s) (fun a z => s a (s' a z)) q
  | exc k => exact h
  | stuck => exact h
/-- what stands between two parts -/
def Mid (K : PySem.W.Frag) (c : Cfg) (r : Env) (σ : St) (F H : Hp) (d : D) (r1 : Env) (v : V) (F1 H1 : Hp) : Prop :=
  Stt K c r1 σ H1 F1 ∧ Ef r σ F H F1 H1 ∧ (∀ a, Own r1 σ a → Own r σ a) ∧ Dn K F1 v d
theorem OkE.bind {K : PySem.W.Frag} {c : Cfg} {r : Env} {σ : St} {F H : Hp} {x : R (D × Env)} {f : D × Env → R (D × Env)} {Q Q' : VK} (h : OkE K c r σ F H (x.bind f) Q)
    (g : ∀ d r1 v F1 H1, Mid K c r σ F H d r1 v F1 H1 → OkE K c r1 σ F1 H1 (f (d, r1)) Q → Q' v H1) : OkE K c r σ F H x Q' := by
  cases x with
  | ok p =>
    obtain ⟨d, r1⟩ := p
    exact fun v F1 H1 x e s q => g d r1 v F1 H1 ⟨x, e, s, q⟩ (OkE.shift (y := f (d, r1)) h e s)
  | exc k => exact h
  | stuck => exact h

abbrev DnAll (K : PySem.W.Frag) (F : Hp) : List V → List D → Prop := Paired (Dn K F)
theorem dna_same {K : PySem.W.Frag} {F F' : Hp} (e : Same F F') {vs : List V} {ds : List D} (h : DnAll K F vs ds) : DnAll K F' vs ds := paired_imp (fun _ _ q => dn_same e q) h
def OkA (K : PySem.W.Frag) (c : Cfg) (r : Env) (σ : St) (F H : Hp) (x : R (D × Env)) (Q : List V → Hp → Prop) : Prop :=
  match x with
  | .ok (.list ds, r') => ∀ (vs : List V) (F' H' : Hp), Stt K c r' σ H' F' → Ef r σ F H F' H' → (∀ a, Own r' σ a → Own r σ a) → DnAll K F' vs ds → Q vs H'
  | .exc k => ∀ (F' H' : Hp), c.J H' → Same F' H' → Kp c.W F' H' → c.E (c.cl k) none H'
  | _ => False
def TAv (K : PySem.W.Frag) (c : Cfg) (m : E) : TA := fun σ H Q => ∃ F r, Stt K c r σ H F ∧ OkA K c r σ F H (den c.call m r) Q
theorem PA.mono {X : Cx} {es : List Expr} {t u : TA} (h : PA X es t) (i : ∀ σ H Q, u σ H Q → t σ H Q) : PA X es u := ⟨fun pos pins s σ H Q I q => h.run pos pins s σ H Q I (i σ H Q q)⟩
theorem OkA.bind {K : PySem.W.Frag} {c : Cfg} {r : Env} {σ : St} {F H : Hp} {x : R (D × Env)} {f : D × Env → R (D × Env)} {Q : VK} {Q' : List V → Hp → Prop} (h : OkE K c r σ F H (x.bind f) Q)
    (nl : ∀ d r1, (∀ l, d ≠ .list l) → f (d, r1) = .stuck)
    (g : ∀ ds r1 vs F1 H1, Stt K c r1 σ H1 F1 → Ef r σ F H F1 H1 → (∀ a, Own r1 σ a → Own r σ a) → DnAll K F1 vs ds → OkE K c r1 σ F1 H1 (f (.list ds, r1)) Q → Q' vs H1) : OkA K c r σ F H x Q' := by
  cases x with
  | ok p =>
    obtain ⟨d, r1⟩ := p
    cases d with
    | list ds => exact fun vs F1 H1 x e s q => g ds r1 vs F1 H1 x e s q (OkE.shift (y := f (.list ds, r1)) h e s)
    | none => exact absurd (show OkE K c r σ F H (f (.none, r1)) Q from h) (by rw [nl _ _ (fun l e => by cases e)]; exact id)
    | bool b => exact absurd (show OkE K c r σ F H (f (.bool b, r1)) Q from h) (by rw [nl _ _ (fun l e => by cases e)]; exact id)
    | int b => exact absurd (show OkE K c r σ F H (f (.int b, r1)) Q from h) (by rw [nl _ _ (fun l e => by cases e)]; exact id)
    | str b => exact absurd (show OkE K c r σ F H (f (.str b, r1)) Q from h) (by rw [nl _ _ (fun l e => by cases e)]; exact id)
    | tuple b => exact absurd (show OkE K c r σ F H (f (.tuple b, r1)) Q from h) (by rw [nl _ _ (fun l e => by cases e)]; exact id)
    | dict b => exact absurd (show OkE K c r σ F H (f (.dict b, r1)) Q from h) (by rw [nl _ _ (fun l e => by cases e)]; exact id)
  | exc k => exact h
  | stuck => exact h
section
variable {X : Cx} {c : Cfg} {e : Expr} {es : List Expr} {a b : E} {pos : Pos}
theorem sa_nil : PA X [] (TAv X.K c .nil) := PA.mono pa_nil fun σ H Q ⟨F, r, x, h⟩ => h [] F H x Ef.refl (fun _ q => q) .nil
theorem sa_cons (ha : PE X e (TEv X.K c a)) (hb : PA X es (TAv X.K c b)) (hs : starEach (e :: es) X.env = (false, eval e X.env) :: starEach es X.env := by rfl) : PA X (e :: es) (TAv X.K c (.cons a b)) := by
  refine PA.mono (pa_cons ha hb hs) fun σ H Q ⟨F, r, x, h⟩ => ⟨F, r, x, ?_⟩
  simp only [den] at h
  cases ea : den c.call a r with
  | ok p =>
    obtain ⟨d, r1⟩ := p
    rw [ea] at h
    simp only [R.ok_bind] at h
    intro v F1 H1 x1 e1 s1 q1
    refine ⟨F1, r1, x1, ?_⟩
    cases eb : den c.call b r1 with
    | ok p =>
      obtain ⟨y, r2⟩ := p
      rw [eb] at h
      simp only [R.ok_bind] at h
      cases y with
      | list ds =>
        intro vs F2 H2 x2 e2 s2 q2
        exact h (v :: vs) F2 H2 x2 (e1.trans e2 s1) (fun a z => s1 a (s2 a z)) (.cons (dn_same (e2.same x1.rel) q1) q2)
      | none => exact h
      | bool _ => exact h
      | int _ => exact h
      | str _ => exact h
      | tuple _ => exact h
      | dict _ => exact h
    | exc k => rw [eb] at h; exact h
    | stuck => rw [eb] at h; exact h
  | exc k => rw [ea] at h; exact h
  | stuck => rw [ea] at h; exact h

/-! ### operations -/
/-- what an operation's rule asks, from the data -/
def OpS (K : PySem.W.Frag) (o : Op) (rr : List V → Hp → VK → Prop) : Prop :=
  ∀ (ds : List D) (d : D) (vs : List V) (F H : Hp) (Q : VK), Same F H → DnAll K F vs ds → opD o ds = some d →
    (∀ (v : V) (F' H' : Hp), Same H H' → Same F' H' → (∀ b u, H b = some u → F' b = F b) → Dn K F' v d → Q v H') → rr vs H Q
theorem Stt.grown {K : PySem.W.Frag} {c : Cfg} {r : Env} {σ : St} {F H F' H' : Hp} (x : Stt K c r σ H F) (h1 : Same H H') (h2 : Same F' H') (h3 : ∀ b u, H b = some u → F' b = F b) : Stt K c r σ H' F' ∧ Ef r σ F H F' H' := by
  have g : Grow F H F' H' := ⟨h2, fun b o h => ⟨h3 b o h, .inl (h1 b o h)⟩⟩
  exact ⟨g.stt x (c.hJ H H' (fun b u q => .inl (h1 b u q)) x.tie), g.ef⟩
theorem op_go {K : PySem.W.Frag} {o : Op} {rr : List V → Hp → VK → Prop} (hr : OpS K o rr) {r : Env} {σ : St} {F H : Hp} {Q : VK} {ds : List D} {vs : List V} (x : Stt K c r σ H F) (q : DnAll K F vs ds)
    (h : OkE K c r σ F H ((R.opt (opD o ds)).bind fun d => .ok (d, r)) Q) : rr vs H Q := by
  cases e : opD o ds with
  | none => rw [e] at h; exact h.elim
  | some d =>
    rw [e] at h
    refine hr ds d vs F H Q x.rel.same q e fun v F' H' h1 h2 h3 q' => ?_
    obtain ⟨x', ef⟩ := x.grown h1 h2 h3
    exact h v F' H' x' ef (fun _ z => z) q'
theorem tev_op {K : PySem.W.Frag} {o : Op} {rr : List V → Hp → VK → Prop} (hr : OpS K o rr) {σ : St} {H : Hp} {Q : VK} (h : TEv K c (.op o a) σ H Q) : TAv K c a σ H fun vs H1 => rr vs H1 Q := by
  obtain ⟨F, r, x, h⟩ := h
  refine ⟨F, r, x, ?_⟩
  simp only [den] at h
  refine OkA.bind h ?_ ?_
  · intro d r1 nl
    cases d <;> first | rfl | exact absurd rfl (nl _)
  · intro ds r1 vs F1 H1 x1 e1 s1 q1 h1
    exact op_go hr x1 q1 h1
/-- a built-in function's call -/
theorem sv_callB {x : Str} {p : Pos} {id : String} {o : Op} {rr : List V → Hp → VK → Prop} (hr : OpS X.K o rr) (hc : CallR X (.builtin id) rr) (hg : Gl X x) (hm : X.mg x = none) (hv : bootBuiltins x = some (.builtin id)) (ha : PA X (e :: es) (TAv X.K c a)) (hn : x ≠ "__name__" := by decide)
    (hdb : (x == ("__debug__" : Str)) = false := by decide) (he : starEach (e :: es) X.env = (false, eval e X.env) :: starEach es X.env := by rfl) (hpl : (backTo pos (starEach es X.env)).any (·.1) = false := by rfl) :
    PE X (.Call (.Name x p) (e :: es) [] pos) (TEv X.K c (.op o a)) :=
  PE.mono (pe_callB hc hg hm hv ha hn hdb he hpl) fun _ _ _ h => tev_op hr h
theorem sv_callTy {x : Str} {p : Pos} {T : String} {o : Op} {rr : List V → Hp → VK → Prop} (hr : OpS X.K o rr) (hc : CallR X (.type T) rr) (hg : Gl X x) (hm : X.mg x = none) (hv : bootBuiltins x = some (.type T)) (ha : PA X (e :: es) (TAv X.K c a)) (hn : x ≠ "__name__" := by decide)
    (hdb : (x == ("__debug__" : Str)) = false := by decide) (he : starEach (e :: es) X.env = (false, eval e X.env) :: starEach es X.env := by rfl) (hpl : (backTo pos (starEach es X.env)).any (·.1) = false := by rfl) :
    PE X (.Call (.Name x p) (e :: es) [] pos) (TEv X.K c (.op o a)) :=
  PE.mono (pe_callTy hc hg hm hv ha hn hdb he hpl) fun _ _ _ h => tev_op hr h
/-- two operands -/
theorem tev_op2 {K : PySem.W.Frag} {o : Op} {rr : R2} (hr : OpS K o fun vs H Q => ∃ x y, vs = [x, y] ∧ rr x y H Q) {σ : St} {H : Hp} {Q : VK} (h : TEv K c (.op o (.cons a (.cons b .nil))) σ H Q) : tOp rr (TEv K c a) (TEv K c b) σ H Q := by
  obtain ⟨F, r, x, h⟩ := h
  refine ⟨F, r, x, ?_⟩
  simp only [den] at h
  cases ea : den c.call a r with
  | ok p =>
    obtain ⟨d, r1⟩ := p
    rw [ea] at h
    simp only [R.ok_bind] at h
    intro v F1 H1 x1 e1 s1 q1
    refine ⟨F1, r1, x1, ?_⟩
    cases eb : den c.call b r1 with
    | ok p =>
      obtain ⟨y, r2⟩ := p
      rw [eb] at h
      simp only [R.ok_bind] at h
      intro u F2 H2 x2 e2 s2 q2
      have h' := OkE.shift h (e1.trans e2 s1) (fun a z => s1 a (s2 a z))
      obtain ⟨x', y', ev, z⟩ := op_go (ds := [d, y]) (vs := [v, u]) hr x2 (.cons (dn_same (e2.same x1.rel) q1) (.cons q2 .nil)) h'
      cases ev
      exact z
    | exc k => rw [eb] at h; exact h
    | stuck => rw [eb] at h; exact h
  | exc k => rw [ea] at h; exact h
  | stuck => rw [ea] at h; exact h
theorem sv_bin {e1 e2 : Expr} {op : Operator} {o : Op} {rr : R2} (hr : OpS X.K o fun vs H Q => ∃ x y, vs = [x, y] ∧ rr x y H Q) (ho : OpR X (binaryOp op) rr) (ha : PE X e1 (TEv X.K c a)) (hb : PE X e2 (TEv X.K c b)) :
    PE X (.BinOp e1 op e2 pos) (TEv X.K c (.op o (.cons a (.cons b .nil)))) := PE.mono (pe_op ho ha hb) fun _ _ _ h => tev_op2 hr h
theorem sv_cmp {e1 e2 : Expr} {op : CmpOp} {o : Op} {rr : R2} (hr : OpS X.K o fun vs H Q => ∃ x y, vs = [x, y] ∧ rr x y H Q) (ho : OpR X (compareOp op) rr) (ha : PE X e1 (TEv X.K c a)) (hb : PE X e2 (TEv X.K c b)) (hm : behindInMarks op e2 = false) :
    PE X (.Compare e1 [op] [e2] pos) (TEv X.K c (.op o (.cons a (.cons b .nil)))) := PE.mono (pe_cmpR ho ha hb hm) fun _ _ _ h => tev_op2 hr h
end
end Bm
end
section
set_option Elab.async false
set_option linter.all false
set_option maxRecDepth 100000
set_option maxHeartbeats 1000000
/-! Names, constants, tests, calls. -/
namespace Bm
open PySem PySem.Spec L2

theorem nd_of {d : D} (h : nd d = true) : ∀ kvs, d ≠ .dict kvs := fun kvs e => by subst e; cases h
theorem getS_put (r : Env) (i j : Nat) (s : Slot) : getS (putS r i s) j = if i = j ∧ i < r.length then s else getS r j := by
  unfold getS putS
  rw [List.getD_eq_getElem?_getD, List.getD_eq_getElem?_getD, List.getElem?_set]
  by_cases h : i = j
  · subst h
    by_cases h2 : i < r.length
    · simp [h2]
    · simp [h2]
  · simp [h]
theorem vAt_set (σ : St) (i j : Nat) (o : Option V) : vAt (σ.set i o) j = if i = j ∧ i < σ.length then o else vAt σ j := by
  unfold vAt
  rw [List.getElem?_set]
  by_cases h : i = j
  · subst h
    by_cases h2 : i < σ.length
    · simp [h2]
    · simp [h2]
  · simp [h]
theorem vAt_some {σ : St} {i : Nat} {v : V} (h : vAt σ i = some v) : σ[i]? = some (some v) := by
  unfold vAt at h
  cases e : σ[i]? with
  | none => rw [e] at h; cases h
  | some o => rw [e] at h; cases o with
    | none => cases h
    | some u => cases h; rfl

/-- a place gets a new value: F and H as they are -/
theorem Stt.put {K : PySem.W.Frag} {c : Cfg} {r : Env} {σ : St} {H F : Hp} (x : Stt K c r σ H F) {i : Nat} {s : Slot} {v : V} (hz : ZOk c [i]) (h : SlotOk K F H s (some v))
    (n : ∀ a, isOwn s = true → v = .ref a → (¬ Own r σ a) ∧ (c.W.O0 a ∨ c.W.H0 a = none)) : Stt K c (putS r i s) (σ.set i (some v)) H F := by
  have hl : r.length = σ.length := x.rel.len
  have ow : ∀ j a, OwnAt (putS r i s) (σ.set i (some v)) j a → (i = j ∧ isOwn s = true ∧ v = .ref a) ∨ ((¬ (i = j ∧ i < σ.length)) ∧ OwnAt r σ j a) := fun j a q => by
    obtain ⟨q1, q2⟩ := q
    rw [getS_put] at q1
    rw [vAt_set] at q2
    by_cases e : i = j ∧ i < σ.length
    · rw [if_pos ⟨e.1, by omega⟩] at q1
      rw [if_pos e] at q2
      exact .inl ⟨e.1, q1, Option.some.inj q2⟩
    · rw [if_neg (by rw [hl]; exact e)] at q1
      rw [if_neg e] at q2
      exact .inr ⟨e, q1, q2⟩
  refine ⟨⟨?_, x.rel.same, fun j => ?_, fun j k a p q => ?_⟩, x.tie, x.kp, fun b q => ?_, fun b q => ?_⟩
  · unfold putS; rw [List.length_set, List.length_set]; exact hl
  · rw [getS_put, vAt_set]
    by_cases e : i = j ∧ i < σ.length
    · rw [if_pos ⟨e.1, by omega⟩, if_pos e]; exact h
    · rw [if_neg (by rw [hl]; exact e), if_neg e]; exact x.rel.ok j
  · rcases ow j a p with ⟨e1, o1, v1⟩ | ⟨_, p⟩
    · rcases ow k a q with ⟨e2, _, _⟩ | ⟨_, q⟩
      · rw [← e1, ← e2]
      · exact absurd ⟨k, q⟩ (n a o1 v1).1
    · rcases ow k a q with ⟨e2, o2, v2⟩ | ⟨_, q⟩
      · exact absurd ⟨j, p⟩ (n a o2 v2).1
      · exact x.rel.inj j k a p q
  · obtain ⟨j, q⟩ := q
    rcases ow j b q with ⟨_, o1, v1⟩ | ⟨_, q⟩
    · exact (n b o1 v1).2
    · exact x.own b ⟨j, q⟩
  · rcases hz with hz | hz
    · exact hz b
    · rw [vAt_set, if_neg (fun z => hz (by rw [← z.1]; exact List.mem_cons_self))] at q
      exact x.pin b q
theorem Stt.put_sh {K : PySem.W.Frag} {c : Cfg} {r : Env} {σ : St} {H F : Hp} (x : Stt K c r σ H F) {i : Nat} {d : D} {v : V} (hz : ZOk c [i]) (h : Dn K F v d) : Stt K c (putS r i (.sh d)) (σ.set i (some v)) H F :=
  x.put hz ⟨v, rfl, h⟩ fun a e => by cases e
/-- an owned list is frozen -/
theorem own_upd {K : PySem.W.Frag} {r : Env} {σ : St} {H F : Hp} (x : Rel K r σ H F) {i : Nat} {a : Addr} {s : Slot} (h : OwnAt r σ i a) (no : isOwn s = false) : ∀ b, Own (putS r i s) σ b → Own r σ b ∧ b ≠ a := fun b ⟨j, q1, q2⟩ => by
  rw [getS_put] at q1
  have hi : i < σ.length := by
    have := vAt_some h.2
    exact (List.getElem?_eq_some_iff.mp this).1
  by_cases e : i = j
  · subst e
    rw [if_pos ⟨rfl, by rw [x.len]; exact hi⟩, no] at q1
    cases q1
  · rw [if_neg (fun z => e z.1)] at q1
    exact ⟨⟨j, q1, q2⟩, fun z => e (x.inj i j a h ⟨q1, z ▸ q2⟩)⟩
theorem Stt.freeze {K : PySem.W.Frag} {c : Cfg} {r : Env} {σ : St} {H F : Hp} (x : Stt K c r σ H F) {i : Nat} {l : List D} (e : getS r i = .own l) :
    ∃ a, vAt σ i = some (.ref a) ∧ ∃ F', Stt K c (putS r i (.sh (.list l))) σ H F' ∧ Ef r σ F H F' H ∧ (∀ b, Own (putS r i (.sh (.list l))) σ b → Own r σ b) ∧ Dn K F' (.ref a) (.list l) := by
  have q := x.rel.ok i
  rw [e] at q
  obtain ⟨a, vs, q1, q2, q3, q4⟩ := q
  have oa : OwnAt r σ i a := ⟨by rw [e]; rfl, q1⟩
  have ou := own_upd x.rel (s := .sh (.list l)) oa rfl
  have sF : Same F (upd F a (.lst vs)) := same_upd q2
  have ef : Ef r σ F H (upd F a (.lst vs)) H := fun b o h n => ⟨upd_ne (fun z => n (z ▸ ⟨i, oa⟩)), .inl h⟩
  have dn : Dn K (upd F a (.lst vs)) (.ref a) (.list l) := Dp.lst upd_same (dpa_same sF _ _ q4)
  refine ⟨a, q1, upd F a (.lst vs), x.step ⟨?_, ?_, fun j => ?_, fun j k b p q => ?_⟩ x.tie ef (fun b z => (ou b z).1), ef, fun b z => (ou b z).1, dn⟩
  · unfold putS; rw [List.length_set]; exact x.rel.len
  · intro b o h
    by_cases hb : b = a
    · subst hb; rw [upd_same] at h; rw [← h]; exact q3
    · rw [upd_ne hb] at h; exact x.rel.same b o h
  · by_cases hj : i = j ∧ i < r.length
    · rw [getS_put, if_pos hj, ← hj.1, q1]
      exact ⟨_, rfl, dn⟩
    · have eg : getS (putS r i (.sh (.list l))) j = getS r j := by rw [getS_put, if_neg hj]
      rw [eg]
      refine slot_same sF (fun b o1 o2 hf _ => ⟨?_, rfl⟩) (x.rel.ok j)
      rw [upd_ne ((ou b ⟨j, by rw [eg]; exact o1, o2⟩).2)]
      exact hf
  · have h1 : ∀ j b, OwnAt (putS r i (.sh (.list l))) σ j b → OwnAt r σ j b := fun j b ⟨z1, z2⟩ => by
      refine ⟨?_, z2⟩
      rw [getS_put] at z1
      by_cases hj : i = j ∧ i < r.length
      · rw [if_pos hj] at z1; cases z1
      · rw [if_neg hj] at z1; exact z1
    exact x.rel.inj j k b (h1 j b p) (h1 k b q)

section
variable {X : Cx} {c : Cfg} {e e1 e2 : Expr} {es : List Expr} {a b m : E} {pos : Pos}
theorem sv_var {i : Nat} {x : Str} (hN : X.N[i]? = some x := by rfl) (hv : Vis X.env.scope x := by first | exact Or.inl rfl | exact Or.inr (Or.inl rfl) | exact Or.inr (Or.inr rfl)) (hd : (x == ("__debug__" : Str)) = false := by decide)
    (hcd : (x == ("__classdict__" : Str)) = false := by decide) : PE X (.Name x pos) (TEv X.K c (.var i)) := by
  refine PE.mono (pe_var hN hv hd hcd) fun σ H Q ⟨F, r, x, h⟩ => ?_
  simp only [den] at h
  cases e : getS r i with
  | un => rw [e] at h; exact h.elim
  | sh d =>
    rw [e] at h
    have q := x.rel.ok i
    rw [e] at q
    obtain ⟨v, q1, q2⟩ := q
    exact ⟨v, vAt_some q1, h v F H x Ef.refl (fun _ z => z) q2⟩
  | own l =>
    rw [e] at h
    obtain ⟨a, q1, F', x', ef, s, dn⟩ := x.freeze e
    exact ⟨.ref a, vAt_some q1, h _ F' H x' ef s dn⟩
  | dicT l => rw [e] at h; exact h.elim
  | dicK l => rw [e] at h; exact h.elim
theorem lit_of {K : PySem.W.Frag} {v : V} {d : D} (q : ∀ F, Dn K F v d) (σ : St) (H : Hp) (Q : VK) (h : TEv K c (.lit d) σ H Q) : tC v σ H Q := by
  obtain ⟨F, r, x, h⟩ := h
  exact h v F H x Ef.refl (fun _ z => z) (q F)
theorem sv_int {i : Int} {j} : PE X (.Constant (.int i) j pos) (TEv X.K c (.lit (.int i))) := PE.mono pe_int (lit_of fun _ => Dp.int i)
theorem sv_bool {i : Bool} {j} : PE X (.Constant (.bool i) j pos) (TEv X.K c (.lit (.bool i))) := PE.mono pe_bl (lit_of fun _ => Dp.bl i)
theorem sv_none {j} : PE X (.Constant .none j pos) (TEv X.K c (.lit .none)) := PE.mono pe_non (lit_of fun _ => Dp.non)
theorem sv_str {i : Str} {j} : PE X (.Constant (.str i) j pos) (TEv X.K c (.lit (.str i))) := PE.mono pe_str (lit_of fun _ => Dp.str i)
/-- a module's text -/
theorem sv_gstr {x : Str} {z : Str} {t : Tok} (hg : Gl X x) (hm : X.mg x = some (.str z t)) (hd : (x == ("__debug__" : Str)) = false := by decide) : PE X (.Name x pos) (TEv X.K c (.lit (.str z))) :=
  PE.mono (pe_glob (v := .str z) hg hm ⟨_, rfl⟩ hd) (lit_of fun _ => Dp.str z)

/-! ### tests -/
def TTv (K : PySem.W.Frag) (c : Cfg) (m : E) : TT := fun σ H Q => TEv K c m σ H fun v H' => ∃ k, v = .bl k ∧ Q k H'
theorem PT.mono {t u : TT} (h : PT X e t) (i : ∀ σ H Q, u σ H Q → t σ H Q) : PT X e u := ⟨fun pins s σ H Q I q => h.run pins s σ H Q I (i σ H Q q)⟩
theorem PW.mono {t u : TT} (h : PW X e t) (i : ∀ σ H Q, u σ H Q → t σ H Q) : PW X e u := ⟨fun wh pins s σ H Q I q => h.run wh pins s σ H Q I (i σ H Q q)⟩
theorem sw_val (h : PE X e (TEv X.K c m)) (he : ∀ whole, isTrue e X.env whole = (do let v ← whole; standAt e.pos; holding [v] (truthy v)) := by intro _; rfl) : PT X e (TTv X.K c m) := pt_val h he
theorem sw_cmp {op : CmpOp} {o : Op} {rr : R2} (hr : OpS X.K o fun vs H Q => ∃ x y, vs = [x, y] ∧ rr x y H Q) (ho : OpR X (compareOp op) rr) (ha : PE X e1 (TEv X.K c a)) (hb : PE X e2 (TEv X.K c b)) (hm : behindInMarks op e2 = false) :
    PT X (.Compare e1 [op] [e2] pos) (TTv X.K c (.op o (.cons a (.cons b .nil)))) := PT.mono (pt_cmpR ho ha hb hm) fun _ _ _ h => tev_op2 hr h
theorem dn_bool {K : PySem.W.Frag} {F : Hp} {v : V} {b : Bool} (h : Dn K F v (.bool b)) : v = .bl b := by
  have h' : Dp K F v (.bool b) := h
  cases h'
  rfl
theorem bl_of {K : PySem.W.Frag} {F : Hp} {v : V} {d : D} {k : Bool} (h : Dn K F v d) (e : v = .bl k) : d = .bool k := by
  subst e
  cases d with
  | dict kvs => obtain ⟨a, kv, e, _⟩ := h; cases e
  | none => have h' : Dp K F (.bl k) .none := h; cases h'
  | bool b => have h' : Dp K F (.bl k) (.bool b) := h; cases h'; rfl
  | int b => have h' : Dp K F (.bl k) (.int b) := h; cases h'
  | str b => have h' : Dp K F (.bl k) (.str b) := h; cases h'
  | list b => have h' : Dp K F (.bl k) (.list b) := h; cases h'
  | tuple b => have h' : Dp K F (.bl k) (.tuple b) := h; cases h'
/-- a part that gives a truth value, and what follows by it -/
theorem tev_branch {K : PySem.W.Frag} {f : D × Env → R (D × Env)} {σ : St} {F H : Hp} {r : Env} {Q : VK} {G : Bool → Hp → Prop} (x : Stt K c r σ H F)
    (h : OkE K c r σ F H ((den c.call a r).bind f) Q) (nb : ∀ d r1, (∀ k, d ≠ .bool k) → f (d, r1) = .stuck)
    (g : ∀ k r1 F1 H1, Stt K c r1 σ H1 F1 → OkE K c r1 σ F1 H1 (f (.bool k, r1)) Q → G k H1) : TTv K c a σ H G := by
  refine ⟨F, r, x, OkE.bind h fun d r1 v F1 H1 ⟨x1, _, _, q1⟩ h1 => ?_⟩
  cases d with
  | bool k => exact ⟨k, dn_bool q1, g k r1 F1 H1 x1 h1⟩
  | none => rw [nb _ _ (fun _ z => by cases z)] at h1; exact h1.elim
  | int _ => rw [nb _ _ (fun _ z => by cases z)] at h1; exact h1.elim
  | str _ => rw [nb _ _ (fun _ z => by cases z)] at h1; exact h1.elim
  | list _ => rw [nb _ _ (fun _ z => by cases z)] at h1; exact h1.elim
  | tuple _ => rw [nb _ _ (fun _ z => by cases z)] at h1; exact h1.elim
  | dict _ => rw [nb _ _ (fun _ z => by cases z)] at h1; exact h1.elim
theorem tt_and {K : PySem.W.Frag} {σ : St} {H : Hp} {Q : Bool → Hp → Prop} (h : TTv K c (.and a b) σ H Q) : tAnd (TTv K c a) (TTv K c b) σ H Q := by
  obtain ⟨F, r, x, h⟩ := h
  simp only [den] at h
  refine tev_branch x h (fun d r1 n => ?_) fun k r1 F1 H1 x1 h1 => ?_
  · cases d <;> first | rfl | exact absurd rfl (n _)
  · cases k with
    | true => exact iteT ⟨F1, r1, x1, h1⟩
    | false =>
      obtain ⟨k, e, q⟩ := h1 (.bl false) F1 H1 x1 Ef.refl (fun _ z => z) (Dp.bl false)
      cases e
      exact iteF q
theorem tt_or {K : PySem.W.Frag} {σ : St} {H : Hp} {Q : Bool → Hp → Prop} (h : TTv K c (.or a b) σ H Q) : tOr (TTv K c a) (TTv K c b) σ H Q := by
  obtain ⟨F, r, x, h⟩ := h
  simp only [den] at h
  refine tev_branch x h (fun d r1 n => ?_) fun k r1 F1 H1 x1 h1 => ?_
  · cases d <;> first | rfl | exact absurd rfl (n _)
  · cases k with
    | false => exact iteF ⟨F1, r1, x1, h1⟩
    | true =>
      obtain ⟨k, e, q⟩ := h1 (.bl true) F1 H1 x1 Ef.refl (fun _ z => z) (Dp.bl true)
      cases e
      exact iteT q
theorem tt_not {K : PySem.W.Frag} {σ : St} {H : Hp} {Q : Bool → Hp → Prop} (h : TTv K c (.op .not (.cons a .nil)) σ H Q) : tNot (TTv K c a) σ H Q := by
  obtain ⟨F, r, x, h⟩ := h
  simp only [den] at h
  cases ea : den c.call a r with
  | ok p =>
    obtain ⟨d, r1⟩ := p
    refine ⟨F, r, x, ?_⟩
    rw [ea] at h ⊢
    simp only [R.ok_bind] at h
    intro v F1 H1 x1 e1 s1 q1
    cases d with
    | bool k =>
      obtain ⟨k', e', q⟩ := h (.bl (!k)) F1 H1 x1 e1 s1 (Dp.bl _)
      cases e'
      exact ⟨k, dn_bool q1, q⟩
    | none => exact h.elim
    | int _ => exact h.elim
    | str _ => exact h.elim
    | list _ => exact h.elim
    | tuple _ => exact h.elim
    | dict _ => exact h.elim
  | exc k => refine ⟨F, r, x, ?_⟩; rw [ea] at h ⊢; exact h
  | stuck => rw [ea] at h; exact h.elim
theorem sw_not (h : PT X e (TTv X.K c a)) : PT X (.UnaryOp .Not e pos) (TTv X.K c (.op .not (.cons a .nil))) := PT.mono (pt_not h) fun _ _ _ q => tt_not q
theorem sx_and1 (h : PT X e (TTv X.K c a)) : PW X (.BoolOp .And [e] pos) (TTv X.K c a) := pw_and1 h
theorem sx_or1 (h : PT X e (TTv X.K c a)) : PW X (.BoolOp .Or [e] pos) (TTv X.K c a) := pw_or1 h
theorem sx_and (h : PT X e (TTv X.K c a)) (h' : PW X (.BoolOp .And (e1 :: es) pos) (TTv X.K c b)) : PW X (.BoolOp .And (e :: e1 :: es) pos) (TTv X.K c (.and a b)) := PW.mono (pw_and h h') fun _ _ _ q => tt_and q
theorem sx_or (h : PT X e (TTv X.K c a)) (h' : PW X (.BoolOp .Or (e1 :: es) pos) (TTv X.K c b)) : PW X (.BoolOp .Or (e :: e1 :: es) pos) (TTv X.K c (.or a b)) := PW.mono (pw_or h h') fun _ _ _ q => tt_or q
theorem tev_and {K : PySem.W.Frag} {σ : St} {H : Hp} {Q : VK} (h : TEv K c (.and a b) σ H Q) : tAndV (TEv K c a) (TEv K c b) σ H Q := by
  obtain ⟨F, r, x, h⟩ := h
  simp only [den] at h
  refine tev_branch (G := fun k H1 => if k = true then TEv K c b σ H1 Q else Q (.bl false) H1) x h (fun d r1 n => ?_) fun k r1 F1 H1 x1 h1 => ?_
  · cases d <;> first | rfl | exact absurd rfl (n _)
  · cases k with
    | true => exact iteT ⟨F1, r1, x1, h1⟩
    | false => exact iteF (h1 (.bl false) F1 H1 x1 Ef.refl (fun _ z => z) (Dp.bl false))
theorem tev_or {K : PySem.W.Frag} {σ : St} {H : Hp} {Q : VK} (h : TEv K c (.or a b) σ H Q) : tOrV (TEv K c a) (TEv K c b) σ H Q := by
  obtain ⟨F, r, x, h⟩ := h
  simp only [den] at h
  refine tev_branch (G := fun k H1 => if k = true then Q (.bl true) H1 else TEv K c b σ H1 Q) x h (fun d r1 n => ?_) fun k r1 F1 H1 x1 h1 => ?_
  · cases d <;> first | rfl | exact absurd rfl (n _)
  · cases k with
    | false => exact iteF ⟨F1, r1, x1, h1⟩
    | true => exact iteT (h1 (.bl true) F1 H1 x1 Ef.refl (fun _ z => z) (Dp.bl true))
theorem tev_not {K : PySem.W.Frag} {σ : St} {H : Hp} {Q : VK} (h : TEv K c (.op .not (.cons a .nil)) σ H Q) : tNotV (TEv K c a) σ H Q := by
  obtain ⟨F, r, x, h⟩ := h
  simp only [den] at h
  refine ⟨F, r, x, ?_⟩
  cases ea : den c.call a r with
  | ok p =>
    obtain ⟨d, r1⟩ := p
    rw [ea] at h
    simp only [R.ok_bind] at h
    intro v F1 H1 x1 e1 s1 q1
    cases d with
    | bool k => exact ⟨k, dn_bool q1, h (.bl (!k)) F1 H1 x1 e1 s1 (Dp.bl _)⟩
    | none => exact h.elim
    | int _ => exact h.elim
    | str _ => exact h.elim
    | list _ => exact h.elim
    | tuple _ => exact h.elim
    | dict _ => exact h.elim
  | exc k => rw [ea] at h; exact h
  | stuck => rw [ea] at h; exact h.elim
theorem sv_one {op} (h : PE X e (TEv X.K c a)) : PE X (.BoolOp op [e] pos) (TEv X.K c a) := pe_one h
theorem sv_and (h : PE X e (TEv X.K c a)) (h' : PE X (.BoolOp .And (e1 :: es) pos) (TEv X.K c b)) : PE X (.BoolOp .And (e :: e1 :: es) pos) (TEv X.K c (.and a b)) := PE.mono (pe_and h h') fun _ _ _ q => tev_and q
theorem sv_or (h : PE X e (TEv X.K c a)) (h' : PE X (.BoolOp .Or (e1 :: es) pos) (TEv X.K c b)) : PE X (.BoolOp .Or (e :: e1 :: es) pos) (TEv X.K c (.or a b)) := PE.mono (pe_or h h') fun _ _ _ q => tev_or q
theorem sv_not (h : PE X e (TEv X.K c a)) : PE X (.UnaryOp .Not e pos) (TEv X.K c (.op .not (.cons a .nil))) := PE.mono (pe_not h) fun _ _ _ q => tev_not q
theorem sv_ife {m1 m2 : E} (h : PT X e (TTv X.K c m)) (h1 : PE X e1 (TEv X.K c m1)) (h2 : PE X e2 (TEv X.K c m2)) : PE X (.IfExp e e1 e2 pos) (TEv X.K c (.ife m m1 m2)) := by
  refine PE.mono (pe_ifExp h h1 h2) fun σ H Q ⟨F, r, x, h⟩ => ?_
  simp only [den] at h
  refine tev_branch x h (fun d r1 n => ?_) fun k r1 F1 H1 x1 h1 => ?_
  · cases d <;> first | rfl | exact absurd rfl (n _)
  · cases k with
    | true => exact iteT ⟨F1, r1, x1, h1⟩
    | false => exact iteF ⟨F1, r1, x1, h1⟩
/-- a op1 b op2 c -/
theorem tev_chain {K : PySem.W.Frag} {o1 o2 : Op} {r1 r2 : R2} {d : E} (hr1 : OpS K o1 fun vs H Q => ∃ x y, vs = [x, y] ∧ r1 x y H Q) (hr2 : OpS K o2 fun vs H Q => ∃ x y, vs = [x, y] ∧ r2 x y H Q) {σ : St} {H : Hp} {Q : VK}
    (h : TEv K c (.chain o1 o2 a b d) σ H Q) : tChain r1 r2 (TEv K c a) (TEv K c b) (TEv K c d) σ H Q := by
  obtain ⟨F, r, x, h⟩ := h
  simp only [den] at h
  refine ⟨F, r, x, OkE.bind h fun d1 ra v Fa Ha ⟨xa, ea, sa, qa⟩ ha => ⟨Fa, ra, xa, OkE.bind ha fun d2 rb u Fb Hb ⟨xb, eb, sb, qb⟩ hb => ?_⟩⟩
  have qa' := dn_same (eb.same xa.rel) qa
  cases eo : opD o1 [d1, d2] with
  | none => rw [eo] at hb; exact hb.elim
  | some y =>
    rw [eo] at hb
    obtain ⟨x', y', ev, z⟩ := hr1 [d1, d2] y [v, u] Fb Hb (fun z H3 => ∃ k, z = .bl k ∧ (if k = true then TEv K c d σ H3 fun w' H4 => r2 u w' H4 Q else Q (.bl false) H3)) xb.rel.same (.cons qa' (.cons qb .nil)) eo fun z F3 H3 g1 g2 g3 q3 => by
      obtain ⟨x3, e3⟩ := xb.grown g1 g2 g3
      have hb' := OkE.shift (r1 := rb) hb e3 (fun _ z => z)
      cases y with
      | bool k =>
        refine ⟨k, dn_bool q3, ?_⟩
        cases k with
        | true =>
          refine iteT ⟨F3, rb, x3, OkE.bind hb' fun d3 rc w Fc Hc ⟨xc, ec, sc, qc⟩ hc => ?_⟩
          have qu := dn_same (ec.same x3.rel) (dn_same (e3.same xb.rel) qb)
          obtain ⟨x', y', ev, z⟩ := op_go (ds := [d2, d3]) (vs := [u, w]) hr2 xc (.cons qu (.cons qc .nil)) hc
          cases ev
          exact z
        | false => exact iteF (hb' (.bl false) F3 H3 x3 Ef.refl (fun _ z => z) (Dp.bl false))
      | none => exact hb.elim
      | int _ => exact hb.elim
      | str _ => exact hb.elim
      | list _ => exact hb.elim
      | tuple _ => exact hb.elim
      | dict _ => exact hb.elim
    cases ev
    exact z
theorem sv_chain {e3 : Expr} {d : E} {op op' : CmpOp} {o1 o2 : Op} {r1 r2 : R2} (hr1 : OpS X.K o1 fun vs H Q => ∃ x y, vs = [x, y] ∧ r1 x y H Q) (hr2 : OpS X.K o2 fun vs H Q => ∃ x y, vs = [x, y] ∧ r2 x y H Q) (ho : OpR X (compareOp op) r1) (ho' : OpR X (compareOp op') r2)
    (h1 : PE X e1 (TEv X.K c a)) (h2 : PE X e2 (TEv X.K c b)) (h3 : PE X e3 (TEv X.K c d)) (hm : lastMarks [op, op'] [e2, e3] = false := by with_unfolding_all rfl) : PE X (.Compare e1 [op, op'] [e2, e3] pos) (TEv X.K c (.chain o1 o2 a b d)) :=
  PE.mono (pe_chain ho ho' h1 h2 h3 hm) fun _ _ _ q => tev_chain hr1 hr2 q
theorem sw_chain {e3 : Expr} {d : E} {op op' : CmpOp} {o1 o2 : Op} {r1 r2 : R2} (hr1 : OpS X.K o1 fun vs H Q => ∃ x y, vs = [x, y] ∧ r1 x y H Q) (hr2 : OpS X.K o2 fun vs H Q => ∃ x y, vs = [x, y] ∧ r2 x y H Q) (ho : OpR X (compareOp op) r1) (ho' : OpR X (compareOp op') r2)
    (h1 : PE X e1 (TEv X.K c a)) (h2 : PE X e2 (TEv X.K c b)) (h3 : PE X e3 (TEv X.K c d)) (hm : lastMarks [op, op'] [e2, e3] = false := by with_unfolding_all rfl) : PT X (.Compare e1 [op, op'] [e2, e3] pos) (TTv X.K c (.chain o1 o2 a b d)) :=
  PT.mono (pt_chain ho ho' h1 h2 h3 hm) fun _ _ _ q => tev_chain hr1 hr2 q
end
end Bm
end
section
set_option Elab.async false
set_option linter.all false
set_option maxRecDepth 100000
set_option maxHeartbeats 1000000
/-! Calls of defs; a look at owned lists; statements; loops. -/
namespace Bm
open PySem PySem.Spec L2

/-! ### calls -/
/-- a def's promise: what the evaluator says -/
def spF (K : PySem.W.Frag) (J : Hp → Prop) (cl : Nat → Value) (f : List D → R (D × List D)) : Sp := fun vs H Q E => ∃ F ds, Same F H ∧ J H ∧ DnAll K F vs ds ∧
  match f ds with
  | .ok (d, _) => ∀ (v : V) (F' H' : Hp), Grow F H F' H' → J H' → Dn K F' v d → Q v H'
  | .exc k => ∀ (F' H' : Hp), Grow F H F' H' → J H' → E (cl k) none H'
  | .stuck => False
/-- .. of a def that changes the list that it gets first -/
def spIO (K : PySem.W.Frag) (J : Hp → Prop) (f : List D → List D → R (D × List D)) : Sp := fun vs H Q _ => ∃ F a us ws m ds, vs = .ref a :: us ∧ Same F H ∧ J H ∧ F a = none ∧ H a = some (.lst ws) ∧ DpAll K F ws m ∧ DnAll K F us ds ∧
  match f m ds with
  | .ok (d, m') => ∀ (v : V) (F' H' : Hp) (ws' : List V), Same F' H' → (∀ b o, b ≠ a → H b = some o → F' b = F b ∧ KO o (H' b)) → F' a = none → H' a = some (.lst ws') → DpAll K F' ws' m' → J H' → Dn K F' v d → Q v H'
  | _ => False
/-- the def x stands and keeps the promise sp, to the depth k -/
def FnAt (P : Program) (w : World) (K : PySem.W.Frag) (mg : Str → Option Value) (base : Heap) (k : Nat) (x : Str) (sp : Sp) : Prop :=
  ∃ (fa : Addr) (fd : FuncData) (ps : List Str), mg x = some (.ref fa) ∧ PySem.W.keepIn K (.ref fa) = true ∧ L2.Binds K fd ps [] ∧ FnOk P w K mg base (L2N.CX P w) k fa fd ps sp
theorem Kp.grow {W : Ent} {F H F' H' : Hp} (k : Kp W F H) (g : Grow F H F' H') : Kp W F' H' := fun b o h n => by
  have h1 := k b o h n
  obtain ⟨o1, e1⟩ := h1.2.ex
  exact ⟨(g.kp b o1 e1).1.trans h1.1, h1.2.trans fun o' e' => (g.kp b o' e').2⟩
section
variable {X : Cx} {c : Cfg} {e e1 e2 : Expr} {es : List Expr} {a b m : E} {pos : Pos}
theorem sv_call {x : Str} {p : Pos} {f k : Nat} (hf : FnAt X.prog X.w X.K X.mg X.base k x (spF X.K c.J c.cl (c.call f none))) (hr : Room k X.A) (hx : Passes (L2N.CX X.prog X.w) X c.E) (hg : Gl X x) (ha : PA X (e :: es) (TAv X.K c a))
    (hdb : (x == ("__debug__" : Str)) = false := by decide) (he : starEach (e :: es) X.env = (false, eval e X.env) :: starEach es X.env := by rfl) (hpl : (backTo pos (starEach es X.env)).any (·.1) = false := by rfl) :
    PE X (.Call (.Name x p) (e :: es) [] pos) (TEv X.K c (.call f a)) := by
  obtain ⟨fa, fd, ps, hm, hk, hb, F⟩ := hf
  refine PE.mono (pe_call (dvs := []) F hr hg hm hk hb .nil hx ha hdb he hpl) fun σ H Q ⟨F, r, x, h⟩ => ⟨F, r, x, ?_⟩
  simp only [den] at h
  refine OkA.bind h ?_ ?_
  · intro d r1 nl
    cases d <;> first | rfl | exact absurd rfl (nl _)
  · intro ds r1 vs F1 H1 x1 e1 s1 q1 h1
    rw [List.append_nil]
    refine ⟨F1, ds, x1.rel.same, x1.tie, q1, ?_⟩
    simp only at h1
    cases ec : c.call f none ds with
    | ok p =>
      obtain ⟨d, m'⟩ := p
      rw [ec] at h1
      exact fun v F' H' g j q => h1 v F' H' (g.stt x1 j) g.ef (fun _ z => z) q
    | exc k =>
      rw [ec] at h1
      exact fun F' H' g j => h1 F' H' j g.same (x1.kp.grow g)
    | stuck => rw [ec] at h1; exact h1
/-- f() -/
theorem sv_call0 {x : Str} {p : Pos} {f k : Nat} (hf : FnAt X.prog X.w X.K X.mg X.base k x (spF X.K c.J c.cl (c.call f none))) (hr : Room k X.A) (hx : Passes (L2N.CX X.prog X.w) X c.E) (hg : Gl X x)
    (hdb : (x == ("__debug__" : Str)) = false := by decide) : PE X (.Call (.Name x p) [] [] pos) (TEv X.K c (.call f .nil)) := by
  obtain ⟨fa, fd, ps, hm, hk, hb, F⟩ := hf
  refine PE.mono (pe_call0 (dvs := []) F hr hg hm hk hb .nil hx hdb) fun σ H Q ⟨F, r, x, h⟩ => ⟨F, [], x.rel.same, x.tie, .nil, ?_⟩
  simp only [den, R.ok_bind] at h
  cases ec : c.call f none [] with
  | ok p =>
    obtain ⟨d, m'⟩ := p
    rw [ec] at h
    exact fun v F' H' g j q => h v F' H' (g.stt x j) g.ef (fun _ z => z) q
  | exc k =>
    rw [ec] at h
    exact fun F' H' g j => h F' H' j g.same (x.kp.grow g)
  | stuck => rw [ec] at h; exact h
/-- behind a call that changed the owned list of place i -/
theorem Stt.io {K : PySem.W.Frag} {r : Env} {σ : St} {F H F' H' : Hp} (x : Stt K c r σ H F) {i : Nat} {l m' : List D} {a : Addr} {ws' : List V} (hi : getS r i = .own l) (hv : vAt σ i = some (.ref a)) (sm : Same F' H')
    (kp : ∀ b o, b ≠ a → H b = some o → F' b = F b ∧ KO o (H' b)) (fa : F' a = none) (ha : H' a = some (.lst ws')) (dp : DpAll K F' ws' m') (j : c.J H') : Stt K c (putS r i (.own m')) σ H' F' ∧ Ef r σ F H F' H' ∧ ∀ b, Own (putS r i (.own m')) σ b → Own r σ b := by
  have oa : OwnAt r σ i a := ⟨by rw [hi]; rfl, hv⟩
  have sF : Same F F' := fun b o h => by
    have nb : b ≠ a := fun z => by
      have := (own_mut x.rel ⟨i, oa⟩).1
      rw [← z, h] at this; cases this
    rw [(kp b o nb (x.rel.same b o h)).1]; exact h
  have ef : Ef r σ F H F' H' := fun b o h n => kp b o (fun z => n (z ▸ ⟨i, oa⟩)) h
  have h1 : ∀ j b, OwnAt (putS r i (.own m')) σ j b → OwnAt r σ j b := fun j b ⟨z1, z2⟩ => by
    refine ⟨?_, z2⟩
    rw [getS_put] at z1
    by_cases hj : i = j ∧ i < r.length
    · rw [← hj.1, hi]; rfl
    · rw [if_neg hj] at z1; exact z1
  have ou : ∀ b, Own (putS r i (.own m')) σ b → Own r σ b := fun b ⟨j, q⟩ => ⟨j, h1 j b q⟩
  refine ⟨x.step ⟨?_, sm, fun j => ?_, fun j k b p q => x.rel.inj j k b (h1 j b p) (h1 k b q)⟩ j ef ou, ef, ou⟩
  · unfold putS; rw [List.length_set]; exact x.rel.len
  · by_cases hj : i = j ∧ i < r.length
    · rw [getS_put, if_pos hj, ← hj.1, hv]
      exact ⟨a, ws', rfl, fa, ha, dp⟩
    · rw [getS_put, if_neg hj]
      refine slot_same sF (fun b o1 o2 hf ⟨o, ho, mu⟩ => ?_) (x.rel.ok j)
      have nb : b ≠ a := fun z => by
        have ej := x.rel.inj i j a oa ⟨o1, z ▸ o2⟩
        have hl := vAt_some hv
        exact hj ⟨ej, by rw [x.rel.len]; exact (List.getElem?_eq_some_iff.mp hl).1⟩
      have z := kp b o nb ho
      exact ⟨z.1.trans hf, (z.2.mut mu).trans ho.symm⟩
theorem sv_callIO {x y : Str} {p py : Pos} {f k i : Nat} (hf : FnAt X.prog X.w X.K X.mg X.base k x (spIO X.K c.J fun m => c.call f (some m))) (hr : Room k X.A) (hx : Passes (L2N.CX X.prog X.w) X c.E) (hg : Gl X x) (hy : PE X (.Name y py) (tVar i)) (ha : PA X es (TAv X.K c a))
    (hdb : (x == ("__debug__" : Str)) = false := by decide) (hs : starEach (.Name y py :: es) X.env = (false, eval (.Name y py) X.env) :: starEach es X.env := by rfl) (hpl : (backTo pos (starEach es X.env)).any (·.1) = false := by rfl) :
    PE X (.Call (.Name x p) (.Name y py :: es) [] pos) (TEv X.K c (.callIO f i a)) := by
  obtain ⟨fa, fd, ps, hm, hk, hb, F⟩ := hf
  refine PE.mono (pe_call (dvs := []) F hr hg hm hk hb .nil hx (pa_cons hy ha hs) hdb hs hpl) fun σ H Q ⟨F, r, x, h⟩ => ?_
  simp only [den] at h
  cases eo : isOwnL (getS r i) with
  | false => rw [eo] at h; exact h.elim
  | true =>
    rw [eo, if_pos rfl] at h
    obtain ⟨l0, el⟩ : ∃ l, getS r i = .own l := by
      cases e : getS r i with
      | own l => exact ⟨l, rfl⟩
      | un => rw [e] at eo; cases eo
      | sh d => rw [e] at eo; cases eo
      | dicT d => rw [e] at eo; cases eo
      | dicK d => rw [e] at eo; cases eo
    have q0 := x.rel.ok i
    rw [el] at q0
    obtain ⟨a0, vs0, qv, _⟩ := q0
    refine ⟨.ref a0, vAt_some qv, F, r, x, OkA.bind h ?_ ?_⟩
    · intro d r1 nl
      cases d <;> first | rfl | exact absurd rfl (nl _)
    · intro ds r1 vs F1 H1 x1 e1 s1 q1 h1
      show spIO X.K c.J (fun m => c.call f (some m)) ((V.ref a0 :: vs) ++ []) H1 Q c.E
      rw [List.append_nil]
      simp only at h1
      cases eg : getS r1 i with
      | own l =>
        rw [eg] at h1
        simp only at h1
        have q2 := x1.rel.ok i
        rw [eg] at q2
        obtain ⟨a1, ws, z1, z2, z3, z4⟩ := q2
        rw [qv] at z1
        cases z1
        refine ⟨F1, a0, vs, ws, l, ds, rfl, x1.rel.same, x1.tie, z2, z3, z4, q1, ?_⟩
        show match c.call f (some l) ds with | .ok (d, m') => _ | _ => False
        cases ec : c.call f (some l) ds with
        | ok p =>
          obtain ⟨d, m'⟩ := p
          rw [ec] at h1
          intro v F' H' ws' y1 y2 y3 y4 y5 y6 y7
          obtain ⟨x2, ef, ow⟩ := x1.io eg qv y1 y2 y3 y4 y5 y6
          exact h1 v F' H' x2 ef ow y7
        | exc k => rw [ec] at h1; exact h1.elim
        | stuck => rw [ec] at h1; exact h1.elim
      | un => rw [eg] at h1; exact h1.elim
      | sh d => rw [eg] at h1; exact h1.elim
      | dicT d => rw [eg] at h1; exact h1.elim
      | dicK d => rw [eg] at h1; exact h1.elim
/-! ### a look at owned lists -/
def OwnL (r : Env) (σ : St) (a : Addr) : Prop := ∃ i l, getS r i = .own l ∧ vAt σ i = some (.ref a)
open Classical in
noncomputable def frzF (r : Env) (σ : St) (H F : Hp) : Hp := fun b => if OwnL r σ b then H b else F b
open Classical in
noncomputable def outF (r : Env) (σ : St) (F : Hp) : Hp := fun b => if OwnL r σ b then none else F b
theorem OwnL.own {r : Env} {σ : St} {a : Addr} (h : OwnL r σ a) : Own r σ a := let ⟨i, l, e, v⟩ := h; ⟨i, by rw [e]; rfl, v⟩
theorem getS_frz (r : Env) (i : Nat) : getS (frzE r) i = match getS r i with | .own l => .sh (.list l) | s => s := by
  unfold getS frzE
  rw [List.getD_eq_getElem?_getD, List.getD_eq_getElem?_getD, List.getElem?_map]
  cases r[i]? with
  | none => rfl
  | some s => rfl
theorem noDic_get : ∀ {r : Env} {i : Nat}, noDic r = true → (∀ l, getS r i ≠ .dicT l) ∧ ∀ l, getS r i ≠ .dicK l
  | [], i, _ => by simp [getS]
  | .un :: r, 0, _ => by simp [getS]
  | .sh _ :: r, 0, _ => by simp [getS]
  | .own _ :: r, 0, _ => by simp [getS]
  | .dicT _ :: r, _, h => by cases h
  | .dicK _ :: r, _, h => by cases h
  | .un :: r, i + 1, h => by have := noDic_get (r := r) (i := i) h; simpa [getS] using this
  | .sh _ :: r, i + 1, h => by have := noDic_get (r := r) (i := i) h; simpa [getS] using this
  | .own _ :: r, i + 1, h => by have := noDic_get (r := r) (i := i) h; simpa [getS] using this
mutual
theorem dp_out {K : PySem.W.Frag} {F F' : Hp} (e : ∀ b xs, F b = some (.tup xs) → F' b = some (.tup xs)) : ∀ (d : D) (v : V), noList d = true → Dp K F v d → Dp K F' v d
  | .none, _, _, h => by cases h; exact .non
  | .bool _, _, _, h => by cases h; exact .bl _
  | .int _, _, _, h => by cases h; exact .int _
  | .str _, _, _, h => by cases h; exact .str _
  | .list ds, _, n, h => by cases n
  | .tuple ds, _, n, h => by cases h with | tup h1 h2 => exact .tup (e _ _ h1) (dpa_out e ds _ n h2)
  | .dict _, _, _, h => by cases h
theorem dpa_out {K : PySem.W.Frag} {F F' : Hp} (e : ∀ b xs, F b = some (.tup xs) → F' b = some (.tup xs)) : ∀ (ds : List D) (vs : List V), noLists ds = true → DpAll K F vs ds → DpAll K F' vs ds
  | [], _, _, h => by cases h; exact .nil
  | d :: ds, _, n, h => by
    cases h with
    | cons h1 h2 =>
      rw [noLists, Bool.and_eq_true] at n
      exact .cons (dp_out e d _ n.1 h1) (dpa_out e ds _ n.2 h2)
end
theorem tev_peek {K : PySem.W.Frag} {σ : St} {H : Hp} {Q : VK} (h : TEv K c (.peek a) σ H Q) : TEv K c a σ H Q := by
  obtain ⟨F, r, x, h⟩ := h
  simp only [den] at h
  cases hn : noDic r with
  | false => rw [hn] at h; exact h.elim
  | true =>
    rw [hn, if_pos rfl] at h
    have nd1 : ∀ i, isOwn (getS (frzE r) i) = false := fun i => by
      rw [getS_frz]
      have := noDic_get (i := i) hn
      cases e : getS r i with
      | un => rfl
      | sh d => rfl
      | own l => rfl
      | dicT l => exact absurd e (this.1 l)
      | dicK l => exact absurd e (this.2 l)
    have no : ∀ b, ¬ Own (frzE r) σ b := fun b ⟨i, q, _⟩ => by rw [nd1] at q; cases q
    have ol : ∀ b, Own r σ b → OwnL r σ b := fun b ⟨i, q, v⟩ => by
      have := noDic_get (i := i) hn
      cases e : getS r i with
      | un => rw [e] at q; cases q
      | sh d => rw [e] at q; cases q
      | own l => exact ⟨i, l, e, v⟩
      | dicT l => exact absurd e (this.1 l)
      | dicK l => exact absurd e (this.2 l)
    have oH : ∀ b, OwnL r σ b → ∃ vs, H b = some (.lst vs) := fun b ⟨i, l, e, v⟩ => by
      have q := x.rel.ok i
      rw [e] at q
      obtain ⟨a', vs, q1, _, q3, _⟩ := q
      rw [v] at q1; cases q1
      exact ⟨vs, q3⟩
    have sF : Same F (frzF r σ H F) := fun b o hb => by
      have nb : ¬ OwnL r σ b := fun q => by
        have := (own_mut x.rel q.own).1
        rw [hb] at this; cases this
      unfold frzF; rw [if_neg nb]; exact hb
    have sH : Same (frzF r σ H F) H := fun b o hb => by
      unfold frzF at hb
      by_cases q : OwnL r σ b
      · rw [if_pos q] at hb; exact hb
      · rw [if_neg q] at hb; exact x.rel.same b o hb
    have x' : Stt K c (frzE r) σ H (frzF r σ H F) := by
      refine ⟨⟨?_, sH, fun i => ?_, fun i j b p _ => absurd ⟨i, p⟩ (no b)⟩, x.tie, fun b o hb n => ?_, fun b q => absurd q (no b), x.pin⟩
      · unfold frzE; rw [List.length_map]; exact x.rel.len
      · rw [getS_frz]
        have q := x.rel.ok i
        cases e : getS r i with
        | un => trivial
        | sh d => rw [e] at q; obtain ⟨v, q1, q2⟩ := q; exact ⟨v, q1, dn_same sF q2⟩
        | own l =>
          rw [e] at q
          obtain ⟨a', vs, q1, q2, q3, q4⟩ := q
          refine ⟨.ref a', q1, Dp.lst ?_ (dpa_same sF _ _ q4)⟩
          show frzF r σ H F a' = _
          unfold frzF; rw [if_pos ⟨i, l, e, q1⟩]; exact q3
        | dicT l => exact absurd e ((noDic_get (i := i) hn).1 l)
        | dicK l => exact absurd e ((noDic_get (i := i) hn).2 l)
      · have k := x.kp b o hb n
        have nb : ¬ OwnL r σ b := fun q => by
          rcases x.own b q.own with q | q
          · exact n q
          · rw [hb] at q; cases q
        refine ⟨?_, k.2⟩
        unfold frzF; rw [if_neg nb]; exact k.1
    refine ⟨frzF r σ H F, frzE r, x', ?_⟩
    cases ea : den c.call a (frzE r) with
    | ok p =>
      obtain ⟨d, r2⟩ := p
      rw [ea] at h
      simp only at h
      cases hl : noList d with
      | false => rw [hl] at h; exact h.elim
      | true =>
        rw [hl, if_pos rfl] at h
        intro v F2 H2 x2 e2 s2 q2
        have sF2 : Same (frzF r σ H F) F2 := e2.same x'.rel
        have own2 : ∀ b, OwnL r σ b → F2 b = H b ∧ H2 b = H b := fun b q => by
          obtain ⟨vs, hv⟩ := oH b q
          have e3 := e2 b _ hv (no b)
          refine ⟨e3.1.trans ?_, (e3.2.mut trivial).trans hv.symm⟩
          unfold frzF; rw [if_pos q]
        have sO : Same F (outF r σ F2) := fun b o hb => by
          have nb : ¬ OwnL r σ b := fun q => by
            have := (own_mut x.rel q.own).1
            rw [hb] at this; cases this
          unfold outF; rw [if_neg nb]
          exact sF2 b o (sF b o hb)
        have ef : Ef r σ F H (outF r σ F2) H2 := fun b o hb n => by
          have nb : ¬ OwnL r σ b := fun q => n q.own
          have e3 := e2 b o hb (no b)
          refine ⟨?_, e3.2⟩
          unfold outF; rw [if_neg nb, e3.1]
          unfold frzF; rw [if_neg nb]
        have so : Same (outF r σ F2) H2 := fun b o hb => by
          unfold outF at hb
          by_cases q : OwnL r σ b
          · rw [if_pos q] at hb; cases hb
          · rw [if_neg q] at hb; exact x2.rel.same b o hb
        have x3 : Stt K c r σ H2 (outF r σ F2) := by
          refine x.step ⟨x.rel.len, so, fun i => ?_, x.rel.inj⟩ x2.tie ef fun _ z => z
          refine slot_same sO (fun b o1 o2 _ _ => ?_) (x.rel.ok i)
          have ob : OwnL r σ b := ol b ⟨i, o1, o2⟩
          refine ⟨?_, (own2 b ob).2⟩
          unfold outF; rw [if_pos ob]
        refine h v (outF r σ F2) H2 x3 ef (fun _ z => z) (Dn.of (dp_out (F := F2) (fun b xs hb => ?_) d v hl (q2.dp (fun kvs z => by subst z; cases hl))))
        have nb : ¬ OwnL r σ b := fun q => by
          obtain ⟨vs, hv⟩ := oH b q
          rw [(own2 b q).1, hv] at hb; cases hb
        unfold outF; rw [if_neg nb]; exact hb
    | exc k => rw [ea] at h; exact h.elim
    | stuck => rw [ea] at h; exact h.elim
theorem sv_peek (h : PE X e (TEv X.K c a)) : PE X e (TEv X.K c (.peek a)) := PE.mono h fun _ _ _ q => tev_peek q
theorem sw_peek (h : PT X e (TTv X.K c a)) : PT X e (TTv X.K c (.peek a)) := PT.mono h fun _ _ _ q => tev_peek q
end
end Bm
end
section
set_option Elab.async false
set_option linter.all false
set_option maxRecDepth 100000
set_option maxHeartbeats 1000000
/-! Statements, loops, comprehensions. -/
namespace Bm
open PySem PySem.Spec L2

/-- what is wanted behind a statement -/
def OkS (K : PySem.W.Frag) (c : Cfg) (F0 : Hp) (x : RS) (D : Ends) : Prop :=
  match x with
  | .nxt r => ∀ (σ : St) (H F : Hp), Stt K c r σ H F → Same F0 F → D.nx σ H
  | .ret d r => ∀ (v : V) (σ : St) (H F : Hp), Stt K c r σ H F → Same F0 F → Dn K F v d → D.rt v H
  | .exc k => ∀ (F' H' : Hp), c.J H' → Same F' H' → Kp c.W F' H' → c.E (c.cl k) none H'
  | .stuck => False
def TSv (K : PySem.W.Frag) (c : Cfg) (s : S) : TS := fun D σ H => ∃ F r, Stt K c r σ H F ∧ OkS K c F (denS c.call s r) D
theorem OkS.shift {K : PySem.W.Frag} {c : Cfg} {F F1 : Hp} {x : RS} {D : Ends} (h : OkS K c F x D) (s : Same F F1) : OkS K c F1 x D := by
  cases x with
  | nxt r => exact fun σ H F' y z => h σ H F' y (s.trans z)
  | ret d r => exact fun v σ H F' y z => h v σ H F' y (s.trans z)
  | exc k => exact h
  | stuck => exact h
section
variable {X : Cx} {c : Cfg} {e e1 e2 : Expr} {es : List Expr} {a b m : E} {pos : Pos} {sta : Stmt} {rest sts sts' : List Stmt} {s s1 s2 : S}
theorem PS.mono {t u : TS} (h : PS X sta t) (i : ∀ D σ H, u D σ H → t D σ H) : PS X sta u := ⟨fun pins s σ H D I q => h.run pins s σ H D I (i D σ H q)⟩
theorem PSs.mono {t u : TS} (h : PSs X sts t) (i : ∀ D σ H, u D σ H → t D σ H) : PSs X sts u := ⟨fun pins s σ H D I q => h.run pins s σ H D I (i D σ H q)⟩
theorem ss_nil : PSs X [] (TSv X.K c .skip) := PSs.mono pss_nil fun D σ H ⟨F, r, x, h⟩ => h σ H F x (Same.refl _)
theorem ss_one (h : PS X sta (TSv X.K c s)) : PSs X [sta] (TSv X.K c s) := pss_one h
theorem tsv_seq {K : PySem.W.Frag} {D : Ends} {σ : St} {H : Hp} (h : TSv K c (.seq s1 s2) D σ H) : tSeq (TSv K c s1) (TSv K c s2) D σ H := by
  obtain ⟨F, r, x, h⟩ := h
  refine ⟨F, r, x, ?_⟩
  simp only [denS] at h
  cases e : denS c.call s1 r with
  | nxt r1 => rw [e] at h; exact fun σ1 H1 F1 x1 s1 => ⟨F1, r1, x1, OkS.shift h s1⟩
  | ret d r1 => rw [e] at h; exact h
  | exc k => rw [e] at h; exact h
  | stuck => rw [e] at h; exact h
theorem ss_cons (h1 : PS X sta (TSv X.K c s1)) (h2 : PSs X rest (TSv X.K c s2)) : PSs X (sta :: rest) (TSv X.K c (.seq s1 s2)) := PSs.mono (pss_cons h1 h2) fun _ _ _ q => tsv_seq q
/-- from an expression to a statement's end -/
theorem okE_stmt {K : PySem.W.Frag} {σ : St} {F H : Hp} {r : Env} {Q : VK} {N : Ends} {g : D × Env → RS} (x : Stt K c r σ H F) (h : OkS K c F (match den c.call a r with | .ok p => g p | .exc k => .exc k | .stuck => .stuck) N)
    (f : ∀ d r1 v F1 H1, Mid K c r σ F H d r1 v F1 H1 → OkS K c F1 (g (d, r1)) N → Q v H1) : OkE K c r σ F H (den c.call a r) Q := by
  cases e : den c.call a r with
  | ok p => rw [e] at h; obtain ⟨d, r1⟩ := p; exact fun v F1 H1 x1 e s q => f d r1 v F1 H1 ⟨x1, e, s, q⟩ (OkS.shift h (e.same x.rel))
  | exc k => rw [e] at h; exact h
  | stuck => rw [e] at h; exact h
theorem denS_asg (call : CallS) (tg : Tg) (e : E) (r : Env) : denS call (.asg tg e) r = (match den call e r with | .ok p => (match bindT tg p.1 p.2 with | some r2 => .nxt r2 | none => .stuck) | .exc k => .exc k | .stuck => .stuck) := by
  simp only [denS]; cases den call e r <;> rfl
theorem denS_ret (call : CallS) (e : E) (r : Env) : denS call (.ret e) r = (match den call e r with | .ok p => .ret p.1 p.2 | .exc k => .exc k | .stuck => .stuck) := by
  simp only [denS]; cases den call e r <;> rfl
theorem denS_expr (call : CallS) (e : E) (r : Env) : denS call (.expr e) r = (match den call e r with | .ok p => .nxt p.2 | .exc k => .exc k | .stuck => .stuck) := by
  simp only [denS]; cases den call e r <;> rfl

/-! targets -/
def TGv (K : PySem.W.Frag) (c : Cfg) (tg : Tg) (g : TG) : Prop := ∀ (v : V) (d : D) (r r' : Env) (σ : St) (F H : Hp) (Q : St → Hp → Prop), Stt K c r σ H F → Dn K F v d → bindT tg d r = some r' →
  (∀ σ', Stt K c r' σ' H F → (∀ i, (match tg with | .name j => i ≠ j | .tup is => i ∉ is | .lst is => i ∉ is) → σ'[i]? = σ[i]?) → σ'.length = σ.length → Q σ' H) → g v σ H Q
theorem tg_name {K : PySem.W.Frag} {i : Nat} (hz : ZOk c [i] := by first | exact .inr (by decide) | exact .inl (by assumption)) : TGv K c (.name i) (gName i) := by
  intro v d r r' σ F H Q x q e h
  simp only [bindT] at e
  cases e
  refine h _ (x.put_sh hz q) (fun j hj => ?_) (List.length_set ..)
  rw [List.getElem?_set_ne (fun z => hj z.symm)]
def gNames : List Nat → TGs
  | [] => gNil
  | i :: is => gCons (gName i) (gNames is)
theorem tg_names {K : PySem.W.Frag} : ∀ (is : List Nat) (hz : ZOk c is) (vs : List V) (ds : List D) (r r' : Env) (σ : St) (F H : Hp) (Q : St → Hp → Prop), Stt K c r σ H F → DpAll K F vs ds → putAll r is ds = some r' →
    (∀ σ', Stt K c r' σ' H F → (∀ i, i ∉ is → σ'[i]? = σ[i]?) → σ'.length = σ.length → Q σ' H) → gNames is vs σ H Q
  | [], hz, vs, ds, r, r', σ, F, H, Q, x, q, e, h => by
    cases ds with
    | nil =>
      cases q
      simp only [putAll] at e
      cases e
      exact ⟨rfl, h σ x (fun _ _ => rfl) rfl⟩
    | cons d ds => cases e
  | i :: is, hz, vs, ds, r, r', σ, F, H, Q, x, q, e, h => by
    cases ds with
    | nil => cases e
    | cons d ds =>
      cases q with
      | cons q1 q2 =>
        simp only [putAll] at e
        refine ⟨_, _, rfl, tg_names is hz.tail _ _ _ _ _ F H Q (x.put_sh hz.head (Dn.of q1)) q2 e fun σ' x' k hl => h σ' x' (fun j hj => ?_) (hl.trans (List.length_set ..))⟩
        rw [k j (fun z => hj (List.mem_cons_of_mem _ z)), List.getElem?_set_ne (fun z => hj (by rw [z]; exact List.mem_cons_self))]
theorem putAll_len : ∀ {is : List Nat} {ds : List D} {r r' : Env}, putAll r is ds = some r' → ds.length = is.length
  | [], [], _, _, _ => rfl
  | _ :: _, _ :: _, _, _, h => by simp only [putAll] at h; simp [putAll_len h]
  | [], _ :: _, _, _, h => by cases h
  | _ :: _, [], _, _, h => by cases h
theorem tg_tup {K : PySem.W.Frag} {is : List Nat} {n : Nat} (hn : is.length = n) (hz : ZOk c is := by first | exact .inr (by decide) | exact .inl (by assumption)) : TGv K c (.tup is) (gTup K n (gNames is)) := by
  intro v d r r' σ F H Q x q e h
  cases d with
  | tuple ds =>
    have q' : Dp K F v (.tuple ds) := q
    cases q' with
    | tup h1 h2 =>
      simp only [bindT] at e
      refine ⟨_, _, rfl, .inl (.inl (x.rel.same _ _ h1)), ?_, tg_names is hz _ ds r r' σ F H Q x h2 e h⟩
      rw [dpa_len h2, putAll_len e, hn]
  | _ => cases e
theorem tg_lst {K : PySem.W.Frag} {is : List Nat} {n : Nat} (hn : is.length = n) (hz : ZOk c is := by first | exact .inr (by decide) | exact .inl (by assumption)) : TGv K c (.lst is) (gUnl K n (gNames is)) := by
  intro v d r r' σ F H Q x q e h
  cases d with
  | list ds =>
    have q' : Dp K F v (.list ds) := q
    cases q' with
    | lst h1 h2 =>
      simp only [bindT] at e
      refine ⟨_, _, rfl, SqL.of (x.rel.same _ _ h1), ?_, tg_names is hz _ ds r r' σ F H Q x h2 e h⟩
      rw [dpa_len h2, putAll_len e, hn]
  | _ => cases e
theorem pgs_names {x : Str} {i : Nat} {is : List Nat} {ts : List Expr} (h1 : PG X (.Name x pos) (gName i)) (h2 : PGs X ts (gNames is)) (hs : (assignEach (.Name x pos :: ts) X.env).map (·.2) = assign (.Name x pos) X.env :: (assignEach ts X.env).map (·.2) := by rfl) :
    PGs X (.Name x pos :: ts) (gNames (i :: is)) := pgs_cons h1 h2 hs
theorem pgs_none : PGs X [] (gNames []) := pgs_nil
theorem ss_asg {tg : Expr} {t : Tg} {g : TG} (ht : TGv X.K c t g) (he : PE X e (TEv X.K c a)) (hg : PG X tg g) (hs : swapsWithSole [tg] e pos.line X.env = pure false := by rfl) (hw : swappedStores [tg] e X.env = pure none := by rfl)
    (h1 : (assignEach [tg] X.env).map (·.2) = [assign tg X.env] := by rfl) : PS X (.Assign [tg] e pos) (TSv X.K c (.asg t a)) := by
  refine PS.mono (ps_asg he hg hs hw h1) fun D σ H ⟨F, r, x, h⟩ => ⟨F, r, x, ?_⟩
  rw [denS_asg] at h
  refine okE_stmt x h fun d r1 v F1 H1 ⟨x1, _, _, q1⟩ h1 => ?_
  simp only at h1
  cases eb : bindT t d r1 with
  | none => rw [eb] at h1; exact h1.elim
  | some r2 =>
    rw [eb] at h1
    exact ht v d r1 r2 σ F1 H1 D.nx x1 q1 eb fun σ' x' _ _ => h1 σ' H1 F1 x' (Same.refl _)
theorem ss_ret (he : PE X e (TEv X.K c a)) : PS X (.Return (some e) pos) (TSv X.K c (.ret a)) := by
  refine PS.mono (ps_ret he) fun D σ H ⟨F, r, x, h⟩ => ⟨F, r, x, ?_⟩
  rw [denS_ret] at h
  exact okE_stmt x h fun d r1 v F1 H1 ⟨x1, _, _, q1⟩ h1 => h1 v σ H1 F1 x1 (Same.refl _) q1
theorem ss_expr (he : PE X e (TEv X.K c a)) (hs : swapsWith e none pos.line X.env = pure false := by rfl) : PS X (.Expr e pos) (TSv X.K c (.expr a)) := by
  refine PS.mono (ps_expr he hs) fun D σ H ⟨F, r, x, h⟩ => ⟨F, r, x, ?_⟩
  rw [denS_expr] at h
  exact okE_stmt x h fun d r1 v F1 H1 ⟨x1, _, _, q1⟩ h1 => h1 σ H1 F1 x1 (Same.refl _)
theorem ss_if (hc : PT X e (TTv X.K c m)) (ha : PSs X sts (TSv X.K c s1)) (hb : PSs X sts' (TSv X.K c s2)) : PS X (.If e sts sts' pos) (TSv X.K c (.ifs m s1 s2)) := by
  refine PS.mono (ps_if hc ha hb) fun D σ H ⟨F, r, x, h⟩ => ⟨F, r, x, ?_⟩
  simp only [denS] at h
  cases e : den c.call m r with
  | ok p =>
    obtain ⟨d, r1⟩ := p
    rw [e] at h
    intro v F1 H1 x1 e1 s1 q1
    cases d with
    | bool k =>
      refine ⟨k, dn_bool q1, ?_⟩
      cases k with
      | true => exact iteT ⟨F1, r1, x1, OkS.shift h (e1.same x.rel)⟩
      | false => exact iteF ⟨F1, r1, x1, OkS.shift h (e1.same x.rel)⟩
    | none => exact h.elim
    | int _ => exact h.elim
    | str _ => exact h.elim
    | list _ => exact h.elim
    | tuple _ => exact h.elim
    | dict _ => exact h.elim
  | exc k => rw [e] at h; exact h
  | stuck => rw [e] at h; exact h
theorem ss_while {n : Nat} (hp : PassesOwn (model X.prog X.w) X.A X.env X.xe) (hc : PT X e (TTv X.K c m)) (hb : PSs X sts (TSv X.K c s)) : PS X (.While e sts [] pos) (TSv X.K c (.while_ n m s)) := by
  refine PS.mono (ps_while hp hc hb) fun D σ H ⟨F, r, x, h⟩ => ?_
  simp only [denS] at h
  refine ⟨fun k σ H => ∃ F r, Stt X.K c r σ H F ∧ OkS X.K c F (whileLoop (den c.call m) (denS c.call s) k r) D, ⟨n, F, r, x, h⟩, fun k σ H ⟨F, r, x, h⟩ => ⟨F, r, x, ?_⟩⟩
  cases k with
  | zero => exact h.elim
  | succ k =>
    simp only [whileLoop] at h
    cases e : den c.call m r with
    | ok p =>
      obtain ⟨d, r1⟩ := p
      rw [e] at h
      intro v F1 H1 x1 e1 s1 q1
      cases d with
      | bool t =>
        refine ⟨t, dn_bool q1, ?_⟩
        cases t with
        | true =>
          refine iteT ⟨fun σ' H' => ∃ F' r', Stt X.K c r' σ' H' F' ∧ OkS X.K c F' (whileLoop (den c.call m) (denS c.call s) k r') D, fun σ' H' z => ⟨k, Nat.lt_succ_self _, z⟩, F1, r1, x1, ?_⟩
          simp only at h
          have h := OkS.shift h (e1.same x.rel)
          cases eb : denS c.call s r1 with
          | nxt r2 => rw [eb] at h; exact fun σ2 H2 F2 x2 s2 => ⟨F2, r2, x2, OkS.shift h s2⟩
          | ret d r2 => rw [eb] at h; exact h
          | exc k => rw [eb] at h; exact h
          | stuck => rw [eb] at h; exact h
        | false => exact iteF (h σ H1 F1 x1 (e1.same x.rel))
      | none => exact h.elim
      | int _ => exact h.elim
      | str _ => exact h.elim
      | list _ => exact h.elim
      | tuple _ => exact h.elim
      | dict _ => exact h.elim
    | exc k => rw [e] at h; exact h
    | stuck => rw [e] at h; exact h

/-! what is walked -/
/-- J gives the data items, one after another, while F stands -/
structure Yields (K : PySem.W.Frag) (F : Hp) (J : It) (items : List D) : Prop where
  go : ∀ i H F', Same F F' → Same F' H → i < items.length → J.go i H
  stop : ∀ i H F', Same F F' → Same F' H → items.length ≤ i → J.stop i H
  yld : ∀ i H F' x H', i < items.length → Same F F' → Same F' H → J.yld i H x H' → ∃ F'', Same H H' ∧ Same F'' H' ∧ (∀ b u, H b = some u → F'' b = F' b) ∧ ∃ d, items[i]? = some d ∧ Dn K F'' x d
def TIv (K : PySem.W.Frag) (c : Cfg) (src : E) : TI := fun σ H R => ∃ F r, Stt K c r σ H F ∧
  match den c.call src r with
  | .ok (.list items, r') => ∀ (J : It) (F' H' : Hp), Stt K c r' σ H' F' → Ef r σ F H F' H' → (∀ a, Own r' σ a → Own r σ a) → Yields K F' J items → R J H'
  | .exc k => ∀ (F' H' : Hp), c.J H' → Same F' H' → Kp c.W F' H' → c.E (c.cl k) none H'
  | _ => False
theorem PI.mono {tg iter : Expr} {t u : TI} (h : PI X tg iter t) (i : ∀ σ H R, u σ H R → t σ H R) : PI X tg iter u := ⟨fun pins s σ H R I q => h.run pins s σ H R I (i σ H R q)⟩
theorem ss_for {tg iter : Expr} {t : Tg} {g : TG} {src : E} (hp : PassesOwn (model X.prog X.w) X.A X.env X.xe) (hc : X.calm = true) (hi : PI X tg iter (TIv X.K c src)) (ht : TGv X.K c t g) (hg : PG X tg g) (hb : PSs X sts (TSv X.K c s))
    (hs : ∀ x, foldedSetIterable iter X.env x = pure x := by intro _; rfl) : PS X (.For tg iter sts [] pos) (TSv X.K c (.for_ t src s)) := by
  refine PS.mono (ps_for hp hc hi hg hb hs) fun D σ H ⟨F, r, x, h⟩ => ⟨F, r, x, ?_⟩
  simp only [denS] at h
  cases e : den c.call src r with
  | ok p =>
    obtain ⟨d, r1⟩ := p
    rw [e] at h
    cases d with
    | list items =>
      intro J F1 H1 x1 ef1 _ Y
      refine ⟨fun i k σ H => ∃ F' r', Stt X.K c r' σ H F' ∧ Same F1 F' ∧ k = items.length - i ∧ OkS X.K c F' (forLoop (bindT t) (denS c.call s) (items.drop i) r') D, ⟨_, F1, r1, x1, Same.refl _, rfl, OkS.shift h (ef1.same x.rel)⟩, fun i k σ H ⟨F', r', x', sm, ek, ok⟩ => ?_⟩
      by_cases hi : i < items.length
      · refine .inr ⟨Y.go i H F' sm x'.rel.same hi, fun σ2 H2 => ∃ F' r', Stt X.K c r' σ2 H2 F' ∧ Same F1 F' ∧ OkS X.K c F' (forLoop (bindT t) (denS c.call s) (items.drop (i + 1)) r') D, fun σ2 H2 ⟨F2, r2, x2, sm2, ok2⟩ => ⟨items.length - (i + 1), by omega, F2, r2, x2, sm2, rfl, ok2⟩, fun v H2 y => ?_⟩
        obtain ⟨F2, g1, g2, g3, d, ed, qd⟩ := Y.yld i H F' v H2 hi sm x'.rel.same y
        obtain ⟨x2, ef2⟩ := x'.grown g1 g2 g3
        have ed' : items.drop i = d :: items.drop (i + 1) := by
          rw [List.getElem?_eq_getElem hi] at ed
          cases ed
          exact List.drop_eq_getElem_cons hi
        rw [ed'] at ok
        simp only [forLoop] at ok
        cases eb : bindT t d r' with
        | none => rw [eb] at ok; exact ok.elim
        | some r2 =>
          rw [eb] at ok
          simp only at ok
          have sm2 : Same F1 F2 := sm.trans (ef2.same x'.rel)
          refine ht v d r' r2 σ F2 H2 _ x2 qd eb fun σ' x3 _ _ => ⟨F2, r2, x3, ?_⟩
          have ok := OkS.shift ok (ef2.same x'.rel)
          cases eb : denS c.call s r2 with
          | nxt r4 => rw [eb] at ok; exact fun σ4 H4 F4 x4 s4 => ⟨F4, r4, x4, sm2.trans s4, OkS.shift ok s4⟩
          | ret d r4 => rw [eb] at ok; exact ok
          | exc k => rw [eb] at ok; exact ok
          | stuck => rw [eb] at ok; exact ok
      · refine .inl ⟨Y.stop i H F' sm x'.rel.same (by omega), ?_⟩
        rw [List.drop_eq_nil_of_le (by omega)] at ok
        exact ok σ H F' x' (Same.refl _)
    | none => exact h.elim
    | bool _ => exact h.elim
    | int _ => exact h.elim
    | str _ => exact h.elim
    | tuple _ => exact h.elim
    | dict _ => exact h.elim
  | exc k => rw [e] at h; exact h
  | stuck => rw [e] at h; exact h
end
end Bm
end
section
set_option Elab.async false
set_option linter.all false
set_option maxRecDepth 100000
set_option maxHeartbeats 1000000
/-! Owned lists and dicts: made, changed, asked. -/
namespace Bm
open PySem PySem.Spec L2

/-- a value as it is to be held: shared, or new and held by nobody else -/
def FrOk (K : PySem.W.Frag) (r : Env) (σ : St) (F H : Hp) (m : Nat) (v : V) (d : D) : Prop :=
  match m with
  | 0 => Dn K F v d
  | m + 1 => ∃ a, v = .ref a ∧ F a = none ∧ ¬ Own r σ a ∧ match m with
    | 0 => ∃ vs l, d = .list l ∧ H a = some (.lst vs) ∧ DpAll K F vs l
    | 1 => d = .dict [] ∧ H a = some (.dT [])
    | _ => d = .dict [] ∧ H a = some (.dK [])
theorem FrOk.mut {K : PySem.W.Frag} {r : Env} {σ : St} {F H : Hp} {m : Nat} {a : Addr} {d : D} (h : FrOk K r σ F H (m + 1) (.ref a) d) : ∃ o, H a = some o ∧ isMut o := by
  obtain ⟨a', e, _, _, q⟩ := h
  cases e
  match m, q with
  | 0, ⟨vs, l, _, q, _⟩ => exact ⟨_, q, trivial⟩
  | 1, ⟨_, q⟩ => exact ⟨_, q, trivial⟩
  | _ + 2, ⟨_, q⟩ => exact ⟨_, q, trivial⟩
theorem FrOk.ref {K : PySem.W.Frag} {r : Env} {σ : St} {F H : Hp} {m : Nat} {v : V} {d : D} (h : FrOk K r σ F H (m + 1) v d) : ∃ a, v = .ref a := let ⟨a, e, _⟩ := h; ⟨a, e⟩
/-- .. it stays so while other expressions are read -/
theorem FrOk.keep {K : PySem.W.Frag} {r r' : Env} {σ : St} {F H F' H' : Hp} {m : Nat} {v : V} {d : D} (h : FrOk K r σ F H m v d) (x : Rel K r σ H F) (e : Ef r σ F H F' H') (s : ∀ a, Own r' σ a → Own r σ a) : FrOk K r' σ F' H' m v d := by
  match m, h with
  | 0, h => exact dn_same (e.same x) h
  | m + 1, h =>
    obtain ⟨a, rfl⟩ := h.ref
    obtain ⟨o, ho, mu⟩ := h.mut
    obtain ⟨a', e', f0, no, q⟩ := h
    cases e'
    have z := e a o ho no
    have hH : H' a = H a := (z.2.mut mu).trans ho.symm
    refine ⟨a, rfl, z.1.trans f0, fun w => no (s a w), ?_⟩
    match m, q with
    | 0, ⟨vs, l, q1, q2, q3⟩ => exact ⟨vs, l, q1, hH.trans q2, dpa_same (e.same x) _ _ q3⟩
    | 1, ⟨q1, q2⟩ => exact ⟨q1, hH.trans q2⟩
    | _ + 2, ⟨q1, q2⟩ => exact ⟨q1, hH.trans q2⟩
theorem FrOk.slot {K : PySem.W.Frag} {r : Env} {σ : St} {F H : Hp} {m : Nat} {v : V} {d : D} {s : Slot} (h : FrOk K r σ F H m v d) (e : slotM m d = some s) : SlotOk K F H s (some v) := by
  match m, h with
  | 0, h => simp only [slotM] at e; cases e; exact ⟨v, rfl, h⟩
  | 1, ⟨a, ev, f0, _, vs, l, q1, q2, q3⟩ =>
    subst q1
    simp only [slotM] at e; cases e
    subst ev
    exact ⟨a, vs, rfl, f0, q2, q3⟩
  | 2, ⟨a, ev, f0, _, q1, q2⟩ =>
    subst q1
    simp only [slotM] at e; cases e
    subst ev
    exact ⟨a, [], rfl, f0, q2, .nil, List.nodup_nil⟩
  | 3, ⟨a, ev, f0, _, q1, q2⟩ =>
    subst q1
    simp only [slotM] at e; cases e
    subst ev
    exact ⟨a, [], rfl, f0, q2, .nil, List.nodup_nil⟩
  | _ + 4, _ => simp [slotM] at e
theorem slotM_own {m : Nat} {d : D} {s : Slot} (e : slotM m d = some s) (h : isOwn s = true) : ∃ k, m = k + 1 := by
  cases m with
  | zero => simp only [slotM] at e; cases e; cases h
  | succ k => exact ⟨k, rfl⟩
def OkF (K : PySem.W.Frag) (c : Cfg) (m : Nat) (r : Env) (σ : St) (F H : Hp) (x : R (D × Env)) (Q : VK) : Prop :=
  match x with
  | .ok (d, r') => ∀ (v : V) (F' H' : Hp), Stt K c r' σ H' F' → Ef r σ F H F' H' → (∀ a, Own r' σ a → Own r σ a) → FrOk K r' σ F' H' m v d → (∀ a k, m = k + 1 → v = .ref a → (c.W.O0 a ∨ c.W.H0 a = none) ∧ ∀ b o, H b = some o → ¬ Own r σ b → a ≠ b) → Q v H'
  | .exc k => ∀ (F' H' : Hp), c.J H' → Same F' H' → Kp c.W F' H' → c.E (c.cl k) none H'
  | .stuck => False
/-- an expression, its value to be held as m says -/
def TEf (K : PySem.W.Frag) (c : Cfg) (m : Nat) (e : E) : TE := fun σ H Q => ∃ F r, Stt K c r σ H F ∧ OkF K c m r σ F H (den c.call e r) Q
section
variable {X : Cx} {c : Cfg} {e e1 e2 : Expr} {es : List Expr} {a b m : E} {pos : Pos} {sta : Stmt} {rest sts sts' : List Stmt} {s s1 s2 : S}
theorem sf_val (h : PE X e (TEv X.K c a)) : PE X e (TEf X.K c 0 a) := by
  refine PE.mono h fun σ H Q ⟨F, r, x, h⟩ => ⟨F, r, x, ?_⟩
  cases ed : den c.call a r with
  | ok p => rw [ed] at h; exact fun v F' H' x' ef s q => h v F' H' x' ef s q fun _ _ z => by cases z
  | exc k => rw [ed] at h; exact h
  | stuck => rw [ed] at h; exact h
/-- the owner's new place in a fresh object: nobody owns what does not stand -/
theorem not_own {K : PySem.W.Frag} {r : Env} {σ : St} {H F : Hp} (x : Rel K r σ H F) {p : Addr} (h : H p = none) : ¬ Own r σ p := fun q => by
  obtain ⟨_, o, ho, _⟩ := own_mut x q
  rw [h] at ho; cases ho
theorem Stt.fresh {K : PySem.W.Frag} {r : Env} {σ : St} {H F : Hp} (x : Stt K c r σ H F) {p : Addr} (h : H p = none) : c.W.O0 p ∨ c.W.H0 p = none := by
  by_cases o : c.W.O0 p
  · exact .inl o
  · cases e : c.W.H0 p with
    | none => exact .inr rfl
    | some u =>
      obtain ⟨o', q⟩ := (x.kp p u e o).2.ex
      rw [h] at q; cases q
theorem ef_ne {r : Env} {σ : St} {F H F1 H1 : Hp} (e : Ef r σ F H F1 H1) {p : Addr} (h : H1 p = none) : ∀ b o, H b = some o → ¬ Own r σ b → p ≠ b := fun b o hb n z => by
  obtain ⟨o', q⟩ := (e b o hb n).2.ex
  rw [← z, h] at q; cases q
/-- a new list laid for its owner -/
theorem lay_list {K : PySem.W.Frag} {r : Env} {σ : St} {H F : Hp} (x : Stt K c r σ H F) {p : Addr} {vs : List V} {l : List D} (h : H p = none) (q : DpAll K F vs l) :
    Stt K c r σ (upd H p (.lst vs)) F ∧ Ef r σ F H F (upd H p (.lst vs)) ∧ FrOk K r σ F (upd H p (.lst vs)) 1 (.ref p) (.list l) := by
  have g : Grow F H F (upd H p (.lst vs)) := Grow.lay x.rel.same h
  exact ⟨g.stt x (x.jup h), g.ef, p, rfl, x.rel.same.free h, not_own x.rel h, vs, l, rfl, upd_same, q⟩
theorem sf_list (ha : PA X es (TAv X.K c a)) : PE X (.List es pos) (TEf X.K c 1 (.op .mkl a)) := by
  refine PE.mono (pe_lst ha) fun σ H Q ⟨F, r, x, h⟩ => ⟨F, r, x, ?_⟩
  simp only [den] at h
  cases ed : den c.call a r with
  | ok p =>
    obtain ⟨d, r1⟩ := p
    rw [ed] at h
    simp only [R.ok_bind] at h
    cases d with
    | list ds =>
      intro vs F1 H1 x1 e1 s1 q1
      simp only [opD, dop_mkl, guardO] at h
      by_cases hl : (decide (ds.length ≤ lim) && ds.all nd) = true
      · rw [if_pos hl] at h
        rw [Bool.and_eq_true, decide_eq_true_eq] at hl
        have qd : DpAll X.K F1 vs ds := by
          have hall := hl.2
          clear h hl ed
          induction q1 with
          | nil => exact .nil
          | cons h t ih =>
            rw [List.all_cons, Bool.and_eq_true] at hall
            exact .cons (h.dp (nd_of hall.1)) (ih hall.2)
        refine ⟨?_, fun p np => ?_⟩
        · rw [dpa_len qd]
          refine Nat.le_trans hl.1 ?_
          rw [sizeLine_eq]; decide
        · obtain ⟨x2, ef2, fr⟩ := lay_list x1 np qd
          exact h (.ref p) F1 _ x2 (e1.trans ef2 s1) s1 fr fun a' k _ ev => by
            cases ev
            exact ⟨x1.fresh np, ef_ne e1 np⟩
      · rw [if_neg hl] at h; exact h.elim
    | none => exact h.elim
    | bool _ => exact h.elim
    | int _ => exact h.elim
    | str _ => exact h.elim
    | tuple _ => exact h.elim
    | dict _ => exact h.elim
  | exc k => rw [ed] at h; exact h
  | stuck => rw [ed] at h; exact h
theorem sf_dT : PE X (.Dict [] [] pos) (TEf X.K c 2 (.lit (.dict []))) := by
  refine PE.mono pe_dnewT fun σ H Q ⟨F, r, x, h⟩ p np => ?_
  have g : Grow F H F (upd H p (.dT [])) := Grow.lay x.rel.same np
  exact h (.ref p) F _ (g.stt x (x.jup np)) g.ef (fun _ z => z) ⟨p, rfl, x.rel.same.free np, not_own x.rel np, rfl, upd_same⟩ fun a' k _ ev => by
    cases ev
    exact ⟨x.fresh np, ef_ne (Ef.refl (F := F)) np⟩
theorem sf_dK : PE X (.Dict [] [] pos) (TEf X.K c 3 (.lit (.dict []))) := by
  refine PE.mono pe_dnewK fun σ H Q ⟨F, r, x, h⟩ p np => ?_
  have g : Grow F H F (upd H p (.dK [])) := Grow.lay x.rel.same np
  exact h (.ref p) F _ (g.stt x (x.jup np)) g.ef (fun _ z => z) ⟨p, rfl, x.rel.same.free np, not_own x.rel np, rfl, upd_same⟩ fun a' k _ ev => by
    cases ev
    exact ⟨x.fresh np, ef_ne (Ef.refl (F := F)) np⟩
theorem Stt.putF {K : PySem.W.Frag} {r : Env} {σ : St} {H F : Hp} (x : Stt K c r σ H F) {i m : Nat} {v : V} {d : D} {sl : Slot} (hz : ZOk c [i]) (h : FrOk K r σ F H m v d) (w : ∀ a k, m = k + 1 → v = .ref a → c.W.O0 a ∨ c.W.H0 a = none) (e : slotM m d = some sl) :
    Stt K c (putS r i sl) (σ.set i (some v)) H F := by
  refine x.put hz (h.slot e) fun a o ev => ?_
  obtain ⟨k, rfl⟩ := slotM_own e o
  obtain ⟨a', e', _, no, _⟩ := h
  rw [ev] at e'; cases e'
  exact ⟨no, w a k rfl ev⟩
theorem denS_asgM (call : CallS) (i m : Nat) (e : E) (r : Env) : denS call (.asgM i m e) r = (match den call e r with | .ok p => (match slotM m p.1 with | some s => .nxt (putS p.2 i s) | none => .stuck) | .exc k => .exc k | .stuck => .stuck) := by
  simp only [denS]; cases den call e r <;> rfl
/-- name = a value that is held as m says -/
theorem ss_asgM {i mm : Nat} {x : Str} {pos' : Pos} (hN : X.N.Nodup) (hi : X.N[i]? = some x) (hx : Loc X.env.scope x) (he : PE X e (TEf X.K c mm a)) (hz : ZOk c [i] := by first | exact .inr (by decide) | exact .inl (by assumption)) (hs : swapsWith e (some (.Name x pos')) pos.line X.env = pure false := by rfl)
    (hf : X.fn x = true ∨ X.env.scope.names.lookup x = some .local := by first | exact .inl rfl | exact .inr rfl | assumption) : PS X (.Assign [.Name x pos'] e pos) (TSv X.K c (.asgM i mm a)) := by
  refine PS.mono (ps_set hN hi hx he hs hf) fun D σ H ⟨F, r, x, h⟩ => ⟨F, r, x, ?_⟩
  rw [denS_asgM] at h
  cases ed : den c.call a r with
  | ok p =>
    obtain ⟨d, r1⟩ := p
    rw [ed] at h
    simp only at h
    intro v F1 H1 x1 e1 s1 q1 w1
    cases es : slotM mm d with
    | none => rw [es] at h; exact h.elim
    | some sl =>
      rw [es] at h
      exact h _ H1 F1 (x1.putF hz q1 (fun a k z z' => (w1 a k z z').1) es) (e1.same x.rel)
  | exc k => rw [ed] at h; exact h
  | stuck => rw [ed] at h; exact h

/-! several at once -/
/-- values, each held in its way; the new ones are apart -/
inductive FrAll (K : PySem.W.Frag) (c : Cfg) (r : Env) (σ : St) (F H : Hp) : List Nat → List V → List D → Prop where
  | nil : FrAll K c r σ F H [] [] []
  | cons {m : Nat} {ms : List Nat} {v : V} {vs : List V} {d : D} {ds : List D} : FrOk K r σ F H m v d → (∀ a k, m = k + 1 → v = .ref a → (c.W.O0 a ∨ c.W.H0 a = none) ∧ ∀ u ∈ (List.zip ms vs), u.1 ≠ 0 → u.2 ≠ .ref a) → FrAll K c r σ F H ms vs ds →
      FrAll K c r σ F H (m :: ms) (v :: vs) (d :: ds)
def OkFA (K : PySem.W.Frag) (c : Cfg) (ms : List Nat) (r : Env) (σ : St) (F H : Hp) (x : R (D × Env)) (Q : List V → Hp → Prop) : Prop :=
  match x with
  | .ok (.list ds, r') => ∀ (vs : List V) (F' H' : Hp), Stt K c r' σ H' F' → Ef r σ F H F' H' → (∀ a, Own r' σ a → Own r σ a) → FrAll K c r' σ F' H' ms vs ds →
      (∀ u ∈ List.zip ms vs, u.1 ≠ 0 → ∀ b o, H b = some o → ¬ Own r σ b → u.2 ≠ .ref b) → Q vs H'
  | .exc k => ∀ (F' H' : Hp), c.J H' → Same F' H' → Kp c.W F' H' → c.E (c.cl k) none H'
  | _ => False
def TAf (K : PySem.W.Frag) (c : Cfg) (ms : List Nat) (e : E) : TA := fun σ H Q => ∃ F r, Stt K c r σ H F ∧ OkFA K c ms r σ F H (den c.call e r) Q
theorem saf_nil : PA X [] (TAf X.K c [] .nil) := PA.mono pa_nil fun σ H Q ⟨F, r, x, h⟩ => h [] F H x Ef.refl (fun _ q => q) .nil fun u hu => by cases hu
theorem saf_cons {mm : Nat} {ms : List Nat} (ha : PE X e (TEf X.K c mm a)) (hb : PA X es (TAf X.K c ms b)) (hs : starEach (e :: es) X.env = (false, eval e X.env) :: starEach es X.env := by rfl) : PA X (e :: es) (TAf X.K c (mm :: ms) (.cons a b)) := by
  refine PA.mono (pa_cons ha hb hs) fun σ H Q ⟨F, r, x, h⟩ => ⟨F, r, x, ?_⟩
  simp only [den] at h
  cases ea : den c.call a r with
  | ok p =>
    obtain ⟨d, r1⟩ := p
    rw [ea] at h
    simp only [R.ok_bind] at h
    intro v F1 H1 x1 e1 s1 q1 w1
    refine ⟨F1, r1, x1, ?_⟩
    cases eb : den c.call b r1 with
    | ok p =>
      obtain ⟨y, r2⟩ := p
      rw [eb] at h
      simp only [R.ok_bind] at h
      cases y with
      | list ds =>
        intro vs F2 H2 x2 e2 s2 q2 w2
        refine h (v :: vs) F2 H2 x2 (e1.trans e2 s1) (fun a z => s1 a (s2 a z)) (.cons (q1.keep x1.rel e2 s2) (fun a' k em ev => ⟨(w1 a' k em ev).1, fun u hu hu0 => ?_⟩) q2) fun u hu hu0 b o hb nb => ?_
        · subst em; subst ev
          obtain ⟨o, ho, _⟩ := q1.mut
          obtain ⟨a2, e2', _, no, _⟩ := id q1
          cases e2'
          exact w2 u hu hu0 a' o ho no
        · rw [List.zip_cons_cons, List.mem_cons] at hu
          rcases hu with rfl | hu
          · intro ev
            obtain ⟨k, ek⟩ : ∃ k, mm = k + 1 := by cases mm with | zero => exact absurd rfl hu0 | succ k => exact ⟨k, rfl⟩
            exact (w1 b k ek ev).2 b o hb nb rfl
          · have n1 : ¬ Own r1 σ b := fun z => nb (s1 b z)
            obtain ⟨o', ho'⟩ := (e1 b o hb nb).2.ex
            exact w2 u hu hu0 b o' ho' n1
      | none => exact h
      | bool _ => exact h
      | int _ => exact h
      | str _ => exact h
      | tuple _ => exact h
      | dict _ => exact h
    | exc k => rw [eb] at h; exact h
    | stuck => rw [eb] at h; exact h
  | exc k => rw [ea] at h; exact h
  | stuck => rw [ea] at h; exact h
/-- the stores, one after another -/
def setAll : St → List Nat → List V → St
  | σ, i :: is, v :: vs => setAll (σ.set i (some v)) is vs
  | σ, _, _ => σ
theorem put_all {K : PySem.W.Frag} {H F : Hp} : ∀ (is : List (Nat × Nat)) (hz : ZOk c (is.map (·.1))) (vs : List V) (ds : List D) (r r' : Env) (σ : St), Stt K c r σ H F → FrAll K c r σ F H (is.map (·.2)) vs ds → putPar is ds r = some r' → Stt K c r' (setAll σ (is.map (·.1)) vs) H F
  | [], hz, _, _, r, r', σ, x, q, e => by
    cases q
    simp only [putPar] at e
    cases e
    exact x
  | (i, m) :: is, hz, _, _, r, r', σ, x, q, e => by
    cases q with
    | cons q1 w q2 =>
      rename_i v vs d ds
      simp only [putPar] at e
      cases es : slotM m d with
      | none => rw [es] at e; cases e
      | some sl =>
        rw [es] at e
        simp only at e
        have x' := x.putF (i := i) hz.head q1 (fun a k z z' => (w a k z z').1) es
        refine put_all is hz.tail vs ds _ r' _ x' ?_ e
        -- the others are still held by nobody
        have ow : ∀ b, Own (putS r i sl) (σ.set i (some v)) b → Own r σ b ∨ ((∃ k, m = k + 1) ∧ v = .ref b) := fun b ⟨j, z1, z2⟩ => by
          rw [getS_put] at z1
          rw [vAt_set] at z2
          by_cases hj : i = j ∧ i < σ.length
          · rw [if_pos ⟨hj.1, by rw [x.rel.len]; exact hj.2⟩] at z1
            rw [if_pos hj] at z2
            exact .inr ⟨slotM_own es z1, Option.some.inj z2⟩
          · rw [if_neg (by rw [x.rel.len]; exact hj)] at z1
            rw [if_neg hj] at z2
            exact .inl ⟨j, z1, z2⟩
        have key : ∀ (ms : List Nat) (us : List V) (cs : List D), FrAll K c r σ F H ms us cs → (∀ a k, m = k + 1 → v = .ref a → ∀ u ∈ List.zip ms us, u.1 ≠ 0 → u.2 ≠ .ref a) → FrAll K c (putS r i sl) (σ.set i (some v)) F H ms us cs := by
          intro ms us cs h
          induction h with
          | nil => intro _; exact .nil
          | cons h1 h2 h3 ih =>
            rename_i m' ms' v' vs' d' ds'
            intro hw
            refine .cons ?_ h2 (ih fun a k z z' u hu => hw a k z z' u (List.mem_cons_of_mem _ hu))
            cases m' with
            | zero => exact h1
            | succ k' =>
              obtain ⟨a', e', f0, no, q⟩ := h1
              refine ⟨a', e', f0, fun z => ?_, q⟩
              rcases ow a' z with z | ⟨⟨k, ek⟩, ev⟩
              · exact no z
              · exact hw a' k ek ev (k' + 1, v') (by rw [List.zip_cons_cons]; exact List.mem_cons_self) (Nat.succ_ne_zero _) e'
        exact key _ _ _ q2 fun a k z z' => (w a k z z').2
theorem okFA_stmt {K : PySem.W.Frag} {σ : St} {F H : Hp} {r : Env} {N : Ends} {is : List (Nat × Nat)} (x : Stt K c r σ H F) (hz : ZOk c (is.map (·.1))) (h : OkS K c F (denS c.call (.par is a) r) N) {Q : List V → Hp → Prop}
    (f : ∀ vs H1, vs.length = is.length → N.nx (setAll σ (is.map (·.1)) vs) H1 → Q vs H1) : OkFA K c (is.map (·.2)) r σ F H (den c.call a r) Q := by
  simp only [denS] at h
  cases ed : den c.call a r with
  | ok p =>
    obtain ⟨d, r1⟩ := p
    rw [ed] at h
    cases d with
    | list ds =>
      simp only at h
      intro vs F1 H1 x1 e1 s1 q1 _
      cases ep : putPar is ds r1 with
      | none => rw [ep] at h; exact h.elim
      | some r2 =>
        rw [ep] at h
        refine f vs H1 ?_ (h _ H1 F1 (put_all is hz vs ds r1 r2 σ x1 q1 ep) (e1.same x.rel))
        have : ∀ {ms : List Nat} {us : List V} {cs : List D}, FrAll K c r1 σ F1 H1 ms us cs → us.length = ms.length := by
          intro ms us cs h
          induction h with
          | nil => rfl
          | cons _ _ _ ih => simp [ih]
        rw [this q1, List.length_map]
    | none => exact h
    | bool _ => exact h
    | int _ => exact h
    | str _ => exact h
    | tuple _ => exact h
    | dict _ => exact h
  | exc k => rw [ed] at h; exact h
  | stuck => rw [ed] at h; exact h
theorem ss_par2 {i j m1 m2 : Nat} {x y : Str} {px py pt : Pos} {kt k2 pt2} (hc : X.calm = true) (hN : X.N.Nodup) (hi : X.N[i]? = some x) (hj : X.N[j]? = some y) (hij : i ≠ j)
    (hx : X.env.scope.names.lookup x = some .local) (hy : X.env.scope.names.lookup y = some .local) (ha : PA X [e1, e2] (TAf X.K c [m1, m2] a))
    (hw : swappedStores [.Tuple [.Name x px, .Name y py] kt pt] (.Tuple [e1, e2] k2 pt2) X.env = pure (some [x, y]))
    (hs : swapsWithSole [.Tuple [.Name x px, .Name y py] kt pt] (.Tuple [e1, e2] k2 pt2) pos.line X.env = pure false := by rfl) (hz0 : ZOk c [i, j] := by first | exact .inr (by decide) | exact .inl (by assumption)) :
    PS X (.Assign [.Tuple [.Name x px, .Name y py] kt pt] (.Tuple [e1, e2] k2 pt2) pos) (TSv X.K c (.par [(i, m1), (j, m2)] a)) := by
  refine PS.mono (ps_par hc hN hi hj hij hx hy ha hw hs) fun D σ H ⟨F, r, x, h⟩ => ⟨F, r, x, ?_⟩
  refine okFA_stmt (is := [(i, m1), (j, m2)]) x hz0 h fun vs H1 hl hn => ?_
  match vs, hl with
  | [v, w], _ => exact ⟨v, w, rfl, hn⟩
theorem ss_par3 {i j l m1 m2 m3 : Nat} {e3 : Expr} {x y z : Str} {px py pz pt : Pos} {kt k2 pt2} (hc : X.calm = true) (hN : X.N.Nodup) (hi : X.N[i]? = some x) (hj : X.N[j]? = some y) (hl : X.N[l]? = some z) (hij : i ≠ j) (hil : i ≠ l) (hjl : j ≠ l)
    (hx : X.env.scope.names.lookup x = some .local) (hy : X.env.scope.names.lookup y = some .local) (hz : X.env.scope.names.lookup z = some .local) (ha : PA X [e1, e2, e3] (TAf X.K c [m1, m2, m3] a))
    (hw : swappedStores [.Tuple [.Name x px, .Name y py, .Name z pz] kt pt] (.Tuple [e1, e2, e3] k2 pt2) X.env = pure (some [x, y, z]))
    (hs : swapsWithSole [.Tuple [.Name x px, .Name y py, .Name z pz] kt pt] (.Tuple [e1, e2, e3] k2 pt2) pos.line X.env = pure false := by rfl) (hz0 : ZOk c [i, j, l] := by first | exact .inr (by decide) | exact .inl (by assumption)) :
    PS X (.Assign [.Tuple [.Name x px, .Name y py, .Name z pz] kt pt] (.Tuple [e1, e2, e3] k2 pt2) pos) (TSv X.K c (.par [(i, m1), (j, m2), (l, m3)] a)) := by
  refine PS.mono (ps_par3 hc hN hi hj hl hij hil hjl hx hy hz ha hw hs) fun D σ H ⟨F, r, x, h⟩ => ⟨F, r, x, ?_⟩
  refine okFA_stmt (is := [(i, m1), (j, m2), (l, m3)]) x hz0 h fun vs H1 hl hn => ?_
  match vs, hl with
  | [u, v, w], _ => exact ⟨u, v, w, rfl, hn⟩
end
end Bm
end
section
set_option Elab.async false
set_option linter.all false
set_option maxRecDepth 100000
set_option maxHeartbeats 1000000
/-! Owned lists and dicts changed; raise; what is walked; comprehensions. -/
namespace Bm
open PySem PySem.Spec L2

theorem sizeLine_big : lim ≤ sizeLine := by rw [sizeLine_eq]; decide
theorem isOwnL_ex {s : Slot} (h : isOwnL s = true) : ∃ l, s = .own l := by
  cases s with
  | own l => exact ⟨l, rfl⟩
  | un => cases h
  | sh d => cases h
  | dicT d => cases h
  | dicK d => cases h
/-- the owner writes his object -/
theorem Stt.write {K : PySem.W.Frag} {c : Cfg} {r : Env} {σ : St} {H F : Hp} (x : Stt K c r σ H F) {i : Nat} {a : Addr} {o : HO} {sl : Slot} (oa : OwnAt r σ i a) (mu : isMut o) (so : SlotOk K F (upd H a o) sl (some (.ref a))) (io : isOwn sl = true) :
    Stt K c (putS r i sl) σ (upd H a o) F := by
  have hl : i < σ.length := (List.getElem?_eq_some_iff.mp (vAt_some oa.2)).1
  have fa : F a = none := (own_mut x.rel ⟨i, oa⟩).1
  obtain ⟨o0, h0, m0⟩ := (own_mut x.rel ⟨i, oa⟩).2
  have h1 : ∀ j b, OwnAt (putS r i sl) σ j b → OwnAt r σ j b := fun j b ⟨z1, z2⟩ => by
    refine ⟨?_, z2⟩
    rw [getS_put] at z1
    by_cases hj : i = j ∧ i < r.length
    · rw [← hj.1]; exact oa.1
    · rw [if_neg hj] at z1; exact z1
  refine ⟨⟨?_, fun b u h => ?_, fun j => ?_, fun j k b p q => x.rel.inj j k b (h1 j b p) (h1 k b q)⟩, ?_, fun b u h n => ?_, fun b ⟨j, q⟩ => x.own b ⟨j, h1 j b q⟩, x.pin⟩
  · unfold putS; rw [List.length_set]; exact x.rel.len
  · have nb : b ≠ a := fun z => by rw [z, fa] at h; cases h
    rw [upd_ne nb]; exact x.rel.same b u h
  · by_cases hj : i = j ∧ i < r.length
    · rw [getS_put, if_pos hj, ← hj.1, oa.2]; exact so
    · rw [getS_put, if_neg hj]
      refine slot_same (Same.refl F) (fun b o1 o2 hf _ => ⟨hf, ?_⟩) (x.rel.ok j)
      have nb : b ≠ a := fun z => by
        have ej := x.rel.inj i j a oa ⟨o1, z ▸ o2⟩
        exact hj ⟨ej, by rw [x.rel.len]; exact hl⟩
      rw [upd_ne nb]
  · refine c.hJ H _ (fun b u h => ?_) x.tie
    by_cases nb : b = a
    · subst nb; rw [h0] at h; cases h; exact .inr m0
    · rw [upd_ne nb]; exact .inl h
  · have k := x.kp b u h n
    refine ⟨k.1, ?_⟩
    have nb : b ≠ a := fun z => by
      rcases x.own a ⟨i, oa⟩ with q | q
      · exact n (z ▸ q)
      · rw [← z, h] at q; cases q
    rw [upd_ne nb]; exact k.2
section
variable {X : Cx} {c : Cfg} {e e1 e2 : Expr} {es : List Expr} {a b m : E} {pos : Pos} {sta : Stmt} {rest sts sts' : List Stmt} {s s1 s2 : S}
/-- x.append(e) -/
theorem ss_append {i : Nat} {x : Str} {px apos cpos : Pos} (hx : PE X (.Name x px) (tVar i)) (he : PE X e (TEv X.K c a)) (hbase : attributeBase (.Name x px) "append" X.env (eval (.Name x px) X.env) = eval (.Name x px) X.env := by rfl)
    (hfew : ((backTo cpos (starEach [e] X.env)).all (fun x => !x.1) && (backToKw cpos (keywordEach [] X.env)).all (fun x => x.1.isSome)
      && decide (([e] : List Expr).length + ([] : List Keyword).length + (if ([] : List Keyword).isEmpty then 0 else 1) < 30)) = true := by rfl)
    (hline : (apos.endLine == cpos.line) = true := by rfl) (hs : starEach [e] X.env = (false, eval e X.env) :: starEach [] X.env := by rfl) :
    PS X (.Expr (.Call (.Attribute (.Name x px) "append" apos) [e] [] cpos) pos) (TSv X.K c (.append i a)) := by
  refine PS.mono (ps_expr (pe_bm PySem.F.plainAttrs_list PySem.F.slot_list_append PySem.F.type_list_append mt_append hx (pa_cons he pa_nil hs) hbase hfew hline hs rfl) rfl) fun D σ H ⟨F, r, x, h⟩ => ?_
  simp only [denS] at h
  cases eo : isOwnL (getS r i) with
  | false => rw [eo] at h; exact h.elim
  | true =>
    rw [eo, if_pos rfl] at h
    obtain ⟨l0, el⟩ := isOwnL_ex eo
    have q0 := x.rel.ok i
    rw [el] at q0
    obtain ⟨a0, vs0, qv, _, qh, _⟩ := q0
    refine ⟨.ref a0, vAt_some qv, .inl ⟨rfl, vs0, SqL.of qh⟩, F, r, x, ?_⟩
    cases ed : den c.call a r with
    | ok p =>
      obtain ⟨d, r1⟩ := p
      rw [ed] at h
      simp only at h
      intro v F1 H1 x1 e1 s1 q1
      cases eg : getS r1 i with
      | own l =>
        rw [eg] at h
        simp only at h
        have q2 := x1.rel.ok i
        rw [eg] at q2
        obtain ⟨a1, ws, z1, z2, z3, z4⟩ := q2
        rw [qv] at z1
        cases z1
        by_cases hl : l.length < lim ∧ nd d = true
        · rw [if_pos hl] at h
          refine ⟨a0, ws, v, rfl, rfl, z3, ?_, ?_⟩
          · rw [dpa_len z4]; exact Nat.lt_of_lt_of_le hl.1 sizeLine_big
          · refine h σ _ F1 (x1.write (i := i) ⟨by rw [eg]; rfl, qv⟩ trivial ⟨a0, ws ++ [v], rfl, z2, upd_same, dpa_app z4 (.cons (q1.dp (nd_of hl.2)) .nil)⟩ rfl) (e1.same x.rel)
        · rw [if_neg hl] at h; exact h.elim
      | un => rw [eg] at h; exact h.elim
      | sh d => rw [eg] at h; exact h.elim
      | dicT d => rw [eg] at h; exact h.elim
      | dicK d => rw [eg] at h; exact h.elim
    | exc k => rw [ed] at h; exact h
    | stuck => rw [ed] at h; exact h
theorem ixOf_N (n : Nat) (i : Int) : ixOf n i = ixN n i := by
  unfold ixOf ixN
  by_cases h : 0 ≤ i
  · rw [if_pos h, if_pos h]
    by_cases h2 : i < n
    · rw [if_pos h2, if_pos (by omega)]
    · rw [if_neg h2, if_neg (by omega)]
  · rw [if_neg h, if_neg h]
    by_cases h2 : -(n : Int) ≤ i
    · rw [if_pos h2, if_pos (by omega)]
      congr 1
      omega
    · rw [if_neg h2, if_neg (by omega)]
/-- x[k] = e, x an owned list -/
theorem ss_store {i : Nat} {x : Str} {px tpos : Pos} (hx : PE X (.Name x px) (tVar i)) (hk : PE X e1 (TEv X.K c b)) (he : PE X e (TEv X.K c a))
    (hg : ∀ v, assign (.Subscript (.Name x px) e1 tpos) X.env v = (do
      let ov ← holding [v] (eval (.Name x px) X.env)
      let iv ← holding [v, ov] (eval e1 X.env)
      standAt tpos
      holding [v, ov, iv] (setItem ov iv v)
      release [v, ov, iv] []) := by intro _; rfl)
    (hs : swapsWithSole [.Subscript (.Name x px) e1 tpos] e pos.line X.env = pure false := by rfl) (hw : swappedStores [.Subscript (.Name x px) e1 tpos] e X.env = pure none := by rfl) (h1 : (assignEach [.Subscript (.Name x px) e1 tpos] X.env).map (·.2) = [assign (.Subscript (.Name x px) e1 tpos) X.env] := by rfl) :
    PS X (.Assign [.Subscript (.Name x px) e1 tpos] e pos) (TSv X.K c (.store i b a)) := by
  refine PS.mono (ps_asg he (pg_sub hx hk set_list hg) hs hw h1) fun D σ H ⟨F, r, x, h⟩ => ⟨F, r, x, ?_⟩
  simp only [denS] at h
  cases eo : isOwnL (getS r i) with
  | false => rw [eo] at h; exact h.elim
  | true =>
    rw [eo, if_pos rfl] at h
    obtain ⟨l0, el⟩ := isOwnL_ex eo
    have q0 := x.rel.ok i
    rw [el] at q0
    obtain ⟨a0, vs0, qv, _⟩ := q0
    cases ed : den c.call a r with
    | ok p =>
      obtain ⟨d, r1⟩ := p
      rw [ed] at h
      simp only at h
      intro v F1 H1 x1 e1 s1 q1
      refine ⟨.ref a0, vAt_some qv, F1, r1, x1, ?_⟩
      cases ek : den c.call b r1 with
      | ok p =>
        obtain ⟨j, r2⟩ := p
        rw [ek] at h
        cases j with
        | int j =>
          simp only at h
          cases eg : getS r2 i with
          | own l =>
            rw [eg] at h
            simp only at h
            cases hd : nd d with
            | false => rw [hd] at h; exact h.elim
            | true =>
              rw [hd, if_pos rfl] at h
              cases ep : ixOf l.length j with
              | none => rw [ep] at h; exact h.elim
              | some p =>
                rw [ep] at h
                intro u F2 H2 x2 e2 s2 q2
                have z := x2.rel.ok i
                rw [eg] at z
                obtain ⟨a1, ws, z1, z2, z3, z4⟩ := z
                rw [qv] at z1
                cases z1
                have eu : u = .int j := by
                  have q2' : Dp X.K F2 u (.int j) := q2
                  cases q2'; rfl
                refine ⟨a0, ws, j, p, rfl, eu, z3, ?_, ?_⟩
                · rw [dpa_len z4, ← ixOf_N]; exact ep
                · refine h σ _ F2 (x2.write (i := i) ⟨by rw [eg]; rfl, qv⟩ trivial ⟨a0, ws.set p v, rfl, z2, upd_same, dpa_set ((dn_same (e2.same x1.rel) q1).dp (nd_of hd)) p z4⟩ rfl) ((e1.same x.rel).trans (e2.same x1.rel))
          | un => rw [eg] at h; exact h.elim
          | sh d => rw [eg] at h; exact h.elim
          | dicT d => rw [eg] at h; exact h.elim
          | dicK d => rw [eg] at h; exact h.elim
        | none => exact h.elim
        | bool _ => exact h.elim
        | str _ => exact h.elim
        | list _ => exact h.elim
        | tuple _ => exact h.elim
        | dict _ => exact h.elim
      | exc k => rw [ek] at h; exact h
      | stuck => rw [ek] at h; exact h
    | exc k => rw [ed] at h; exact h
    | stuck => rw [ed] at h; exact h

/-! ### dicts -/
theorem keyK_D {d : D} {k : Key} (h : keyK d = some k) : d = keyD k := by
  cases d with
  | int i => cases h; rfl
  | str s => cases h; rfl
  | _ => cases h
theorem keysK_D : ∀ {l : List D} {ks : List Key}, keysK l = some ks → l = ks.map keyD
  | [], ks, h => by cases h; rfl
  | d :: r, ks, h => by
    simp only [keysK] at h
    cases e : keyK d with
    | none => rw [e] at h; cases h
    | some k =>
      rw [e] at h
      cases e2 : keysK r with
      | none => rw [e2] at h; cases h
      | some ks' =>
        rw [e2] at h
        cases h
        rw [List.map_cons, ← keyK_D e, ← keysK_D e2]
theorem keyT_D {d : D} {ks : List Key} (h : keyT d = some ks) : d = .tuple (ks.map keyD) := by
  cases d with
  | tuple l => rw [keysK_D h]
  | _ => cases h
theorem dp_key {K : PySem.W.Frag} {F : Hp} {v : V} {k : Key} (h : Dp K F v (keyD k)) : v = kV k := by
  cases k with
  | inl i => cases h; rfl
  | inr s => cases h; rfl
theorem dpa_keys {K : PySem.W.Frag} {F : Hp} : ∀ {vs : List V} {ks : List Key}, DpAll K F vs (ks.map keyD) → vs = ks.map kV
  | _, [], h => by cases h; rfl
  | _, k :: ks, h => by
    cases h with
    | cons h1 h2 => rw [dp_key h1, dpa_keys h2]; rfl
theorem dp_keyT {K : PySem.W.Frag} {F : Hp} {v : V} {ks : List Key} (h : Dp K F v (.tuple (ks.map keyD))) : ∃ b, v = .ref b ∧ F b = some (.tup (ks.map kV)) := by
  cases h with
  | tup h1 h2 => rw [dpa_keys h2] at h1; exact ⟨_, rfl, h1⟩
theorem eqv_key (j k : Key) : PyData.eqv (keyD j) (keyD k) = decide (j = k) := by
  cases j <;> cases k <;> simp [keyD, PyData.eqv, Bool.beq_eq_decide_eq]
theorem eqv_keys : ∀ (js ks : List Key), PyData.eqvAll (js.map keyD) (ks.map keyD) = decide (js = ks)
  | [], [] => rfl
  | [], _ :: _ => rfl
  | _ :: _, [] => rfl
  | j :: js, k :: ks => by
    rw [List.map_cons, List.map_cons, PySem.W.eqv_all_cons, eqv_key, eqv_keys js ks]
    simp
theorem eqv_keyT (js ks : List Key) : PyData.eqv (.tuple (js.map keyD)) (.tuple (ks.map keyD)) = decide (js = ks) := by
  rw [← eqv_keys]
  simp [PyData.eqv]
/-- asked -/
theorem look_val {κ : Type} [DecidableEq κ] {K : PySem.W.Frag} {F : Hp} (toD : κ → D) (he : ∀ j k, PyData.eqv (toD j) (toD k) = decide (j = k)) (k : κ) : ∀ {kv : List (κ × V)} {kvs : List (D × D)}, Paired (fun (p : κ × V) (q : D × D) => toD p.1 = q.1 ∧ Dp K F p.2 q.2) kv kvs →
    (valV kv k).isSome = (lookD kvs (toD k)).isSome
  | _, _, .nil => rfl
  | _, _, .cons (a := p) (b := q) h t => by
    obtain ⟨d1, d2⟩ := q
    obtain ⟨h1, h2⟩ := h
    simp only at h1
    subst h1
    simp only [lookD, he]
    unfold valV
    rw [List.find?_cons]
    by_cases hk : p.1 = k
    · simp [hk]
    · simp only [hk, decide_false, Bool.false_eq_true, if_false]
      exact look_val toD he k t
/-- stored -/
theorem put_val {κ : Type} [DecidableEq κ] {K : PySem.W.Frag} {F : Hp} (toD : κ → D) (he : ∀ j k, PyData.eqv (toD j) (toD k) = decide (j = k)) (k : κ) {v : V} {d : D} (hv : Dp K F v d) {kv : List (κ × V)} {kvs : List (D × D)} (nn : (kv.map (·.1)).Nodup)
    (hp : Paired (fun (p : κ × V) (q : D × D) => toD p.1 = q.1 ∧ Dp K F p.2 q.2) kv kvs) : Paired (fun (p : κ × V) (q : D × D) => toD p.1 = q.1 ∧ Dp K F p.2 q.2) (putK kv k v) (putD kvs (toD k) d) := by
  induction hp with
  | nil => exact .cons ⟨rfl, hv⟩ .nil
  | cons h t ih =>
    rename_i p q kv kvs
    obtain ⟨d1, d2⟩ := q
    obtain ⟨h1, h2⟩ := h
    simp only at h1
    subst h1
    simp only [putD, he]
    rw [List.map_cons, List.nodup_cons] at nn
    have ih := ih nn.2
    unfold putK at ih ⊢
    by_cases hk : p.1 = k
    · rw [List.any_cons]
      simp only [hk, decide_true, Bool.true_or, if_true, List.map_cons]
      refine .cons ⟨by simp [hk], hv⟩ ?_
      have : kv.map (fun kv => if kv.1 = k then (kv.1, v) else kv) = kv := by
        conv => rhs; rw [← List.map_id kv]
        refine List.map_congr_left fun z hz => ?_
        rw [if_neg (fun e => nn.1 (by rw [hk, ← e]; exact List.mem_map.mpr ⟨z, hz, rfl⟩))]
        rfl
      rw [this]
      exact t
    · simp only [hk, decide_false, Bool.false_eq_true, if_false]
      rw [List.any_cons]
      simp only [hk, decide_false, Bool.false_or]
      by_cases ha : (kv.any fun kv => decide (kv.1 = k)) = true
      · rw [if_pos ha] at ih ⊢
        rw [List.map_cons, if_neg hk]
        exact .cons ⟨rfl, h2⟩ ih
      · rw [if_neg ha] at ih ⊢
        exact .cons ⟨rfl, h2⟩ ih
theorem putK_nodup {κ : Type} [DecidableEq κ] (k : κ) (v : V) {kv : List (κ × V)} (h : (kv.map (·.1)).Nodup) : ((putK kv k v).map (·.1)).Nodup := by
  unfold putK
  by_cases ha : (kv.any fun kv => decide (kv.1 = k)) = true
  · rw [if_pos ha, List.map_map]
    have : (fun p : κ × V => p.1) ∘ (fun kv => if kv.1 = k then (kv.1, v) else kv) = fun p => p.1 := by
      funext p
      show (if p.1 = k then (p.1, v) else p).1 = p.1
      by_cases hp : p.1 = k
      · rw [if_pos hp]
      · rw [if_neg hp]
    rw [this]; exact h
  · rw [if_neg ha, List.map_append]
    rw [List.nodup_append]
    refine ⟨h, by simp, fun a ha' b hb => ?_⟩
    have hb' : b = k := by simpa using hb
    intro e
    subst e
    rw [hb'] at ha'
    obtain ⟨p, hp, e⟩ := List.mem_map.mp ha'
    exact ha (List.any_eq_true.mpr ⟨p, hp, decide_eq_true e⟩)
/-- d[k] = v, d an owned dict -/
theorem ss_dput {i : Nat} {x : Str} {px tpos : Pos} (hu : X.A.units + 1 < cLine) (hx : PE X (.Name x px) (tVar i)) (hk : PE X e1 (TEv X.K c b)) (he : PE X e (TEv X.K c a)) (hs : swapsWith e (some (.Subscript (.Name x px) e1 tpos)) pos.line X.env = pure false := by rfl) :
    PS X (.Assign [.Subscript (.Name x px) e1 tpos] e pos) (TSv X.K c (.dput i b a)) := by
  refine PS.mono (ps_dput hu hx hk he hs) fun D σ H ⟨F, r, x, h⟩ => ⟨F, r, x, ?_⟩
  simp only [denS] at h
  cases eo : isDic (getS r i) with
  | false => rw [eo] at h; exact h.elim
  | true =>
    rw [eo, if_pos rfl] at h
    obtain ⟨a0, qv⟩ : ∃ a0, vAt σ i = some (.ref a0) := by
      have q0 := x.rel.ok i
      cases eg : getS r i with
      | dicT l => rw [eg] at q0; obtain ⟨a0, _, q, _⟩ := q0; exact ⟨a0, q⟩
      | dicK l => rw [eg] at q0; obtain ⟨a0, _, q, _⟩ := q0; exact ⟨a0, q⟩
      | un => rw [eg] at eo; cases eo
      | sh d => rw [eg] at eo; cases eo
      | own d => rw [eg] at eo; cases eo
    cases ed : den c.call a r with
    | ok p =>
      obtain ⟨d, r1⟩ := p
      rw [ed] at h
      simp only at h
      intro v F1 H1 x1 e1 s1 q1
      refine ⟨.ref a0, vAt_some qv, F1, r1, x1, ?_⟩
      cases ek : den c.call b r1 with
      | ok p =>
        obtain ⟨y, r2⟩ := p
        rw [ek] at h
        simp only at h
        intro u F2 H2 x2 e2 s2 q2
        have sm := (e1.same x.rel).trans (e2.same x1.rel)
        cases eg : getS r2 i with
        | dicT kvs =>
          rw [eg] at h
          simp only at h
          by_cases hl : kvs.length < lim ∧ nd d = true ∧ (keyT y).isSome = true
          · rw [if_pos hl] at h
            obtain ⟨ks, eks⟩ := Option.isSome_iff_exists.mp hl.2.2
            have ey := keyT_D eks
            subst ey
            obtain ⟨b', eu, hb'⟩ := dp_keyT (q2.dp (fun _ z => by cases z))
            have z := x2.rel.ok i
            rw [eg] at z
            obtain ⟨a1, kv, z1, z2, z3, z4⟩ := z
            rw [qv] at z1
            cases z1
            have hlen : kv.length = kvs.length := Paired.length z4.1
            refine ⟨a0, _, rfl, eu ▸ DPut.t (k := ks) z3 (x2.rel.same _ _ hb') (by rw [hlen]; exact Nat.lt_of_lt_of_le hl.1 sizeLine_big), ?_⟩
            exact h σ _ F2 (x2.write (i := i) ⟨by rw [eg]; rfl, qv⟩ trivial ⟨a0, _, rfl, z2, upd_same, put_val (fun k => PyData.tuple (k.map keyD)) eqv_keyT ks ((dn_same (e2.same x1.rel) q1).dp (nd_of hl.2.1)) z4.2 z4.1, putK_nodup ks v z4.2⟩ rfl) sm
          · rw [if_neg hl] at h; exact h.elim
        | dicK kvs =>
          rw [eg] at h
          simp only at h
          by_cases hl : kvs.length < lim ∧ nd d = true ∧ (keyK y).isSome = true
          · rw [if_pos hl] at h
            obtain ⟨ks, eks⟩ := Option.isSome_iff_exists.mp hl.2.2
            have ey := keyK_D eks
            subst ey
            have eu : u = kV ks := dp_key (q2.dp (fun _ z => by cases ks <;> cases z))
            have z := x2.rel.ok i
            rw [eg] at z
            obtain ⟨a1, kv, z1, z2, z3, z4⟩ := z
            rw [qv] at z1
            cases z1
            have hlen : kv.length = kvs.length := Paired.length z4.1
            refine ⟨a0, _, rfl, eu ▸ DPut.k (k := ks) z3 (by rw [hlen]; exact Nat.lt_of_lt_of_le hl.1 sizeLine_big), ?_⟩
            exact h σ _ F2 (x2.write (i := i) ⟨by rw [eg]; rfl, qv⟩ trivial ⟨a0, _, rfl, z2, upd_same, put_val keyD eqv_key ks ((dn_same (e2.same x1.rel) q1).dp (nd_of hl.2.1)) z4.2 z4.1, putK_nodup ks v z4.2⟩ rfl) sm
          · rw [if_neg hl] at h; exact h.elim
        | un => rw [eg] at h; exact h.elim
        | sh d => rw [eg] at h; exact h.elim
        | own d => rw [eg] at h; exact h.elim
      | exc k => rw [ek] at h; exact h
      | stuck => rw [ek] at h; exact h
    | exc k => rw [ed] at h; exact h
    | stuck => rw [ed] at h; exact h
/-- k in d -/
theorem dIn_get {K : PySem.W.Frag} {i : Nat} {σ : St} {H : Hp} {Q : VK} (h : TEv K c (.dIn i a) σ H Q) : TEv K c a σ H fun y H1 => tVar i σ H1 fun x H2 => ∃ a' o, x = .ref a' ∧ DGet H2 a' y o ∧ Q (.bl o.isSome) H2 := by
  obtain ⟨F, r, x, h⟩ := h
  simp only [den] at h
  refine ⟨F, r, x, OkE.bind h fun d r1 v F1 H1 ⟨x1, e1, s1, q1⟩ h1 => ?_⟩
  simp only at h1
  have z := x1.rel.ok i
  cases eg : getS r1 i with
  | dicT kvs =>
    rw [eg] at h1 z
    simp only at h1
    cases hk : (keyT d).isSome with
    | false => rw [hk] at h1; exact h1.elim
    | true =>
      rw [hk, if_pos rfl] at h1
      obtain ⟨ks, eks⟩ := Option.isSome_iff_exists.mp hk
      have ey := keyT_D eks
      subst ey
      obtain ⟨b', eu, hb'⟩ := dp_keyT (q1.dp (fun _ z => by cases z))
      obtain ⟨a1, kv, z1, z2, z3, z4⟩ := z
      refine ⟨.ref a1, vAt_some z1, a1, valV kv ks, rfl, eu ▸ .inr ⟨kv, ks, b', .inl z3, rfl, x1.rel.same _ _ hb', rfl⟩, ?_⟩
      have e := look_val (fun k => PyData.tuple (k.map keyD)) eqv_keyT ks z4.1
      rw [e]
      exact h1 _ F1 H1 x1 Ef.refl (fun _ z => z) (Dp.bl _)
  | dicK kvs =>
    rw [eg] at h1 z
    simp only at h1
    cases hk : (keyK d).isSome with
    | false => rw [hk] at h1; exact h1.elim
    | true =>
      rw [hk, if_pos rfl] at h1
      obtain ⟨ks, eks⟩ := Option.isSome_iff_exists.mp hk
      have ey := keyK_D eks
      subst ey
      have eu : v = kV ks := dp_key (q1.dp (fun _ z => by cases ks <;> cases z))
      obtain ⟨a1, kv, z1, z2, z3, z4⟩ := z
      refine ⟨.ref a1, vAt_some z1, a1, valV kv ks, rfl, eu ▸ .inl ⟨kv, ks, .inl z3, rfl, rfl⟩, ?_⟩
      have e := look_val keyD eqv_key ks z4.1
      rw [e]
      exact h1 _ F1 H1 x1 Ef.refl (fun _ z => z) (Dp.bl _)
  | un => rw [eg] at h1; exact h1.elim
  | sh d => rw [eg] at h1; exact h1.elim
  | own d => rw [eg] at h1; exact h1.elim
theorem sv_dIn {i : Nat} {x : Str} {px : Pos} (hu : X.A.units + 1 < cLine) (hx : PE X (.Name x px) (tVar i)) (he : PE X e (TEv X.K c a)) : PE X (.Compare e [.In] [.Name x px] pos) (TEv X.K c (.dIn i a)) :=
  PE.mono (pe_cmp (pc_din hu he hx) rfl) fun _ _ _ h => dIn_get h
theorem sw_dIn {i : Nat} {x : Str} {px : Pos} (hu : X.A.units + 1 < cLine) (hx : PE X (.Name x px) (tVar i)) (he : PE X e (TEv X.K c a)) : PT X (.Compare e [.In] [.Name x px] pos) (TTv X.K c (.dIn i a)) :=
  PT.mono (pt_cmp (pc_din hu he hx) rfl) fun _ _ _ h => dIn_get h
theorem sw_dNotIn {i : Nat} {x : Str} {px : Pos} (hu : X.A.units + 1 < cLine) (hx : PE X (.Name x px) (tVar i)) (he : PE X e (TEv X.K c a)) : PT X (.Compare e [.NotIn] [.Name x px] pos) (TTv X.K c (.op .not (.cons (.dIn i a) .nil))) := by
  refine PT.mono (pt_cmp (pc_dnotin hu he hx) rfl) fun σ H Q h => ?_
  have h' : TTv X.K c (.dIn i a) σ H fun k H1 => Q (!k) H1 := tt_not h
  have h2 := dIn_get h'
  obtain ⟨F, r, x, h3⟩ := h2
  refine ⟨F, r, x, ?_⟩
  cases ed : den c.call a r with
  | ok p =>
    rw [ed] at h3
    intro v F1 H1 x1 e1 s1 q1
    obtain ⟨u, hu', a', o, eu, g, k, ek, q⟩ := h3 v F1 H1 x1 e1 s1 q1
    cases ek
    exact ⟨u, hu', a', o, eu, g, _, rfl, q⟩
  | exc k => rw [ed] at h3; exact h3
  | stuck => rw [ed] at h3; exact h3
end
end Bm
end
section
set_option Elab.async false
set_option linter.all false
set_option maxRecDepth 100000
set_option maxHeartbeats 1000000
/-! What is walked. -/
namespace PySem
open Sem (wp)
open AutoSeq1 (wpAny_loadPart')
theorem meets_enumerate_newT (l : Addr) (items : Array Value) (ob : Obj) (hT : ob.cls = .type "tuple") (n : Nat) (hd : ob.data = .seq items n) :
    Meets (Builtin.«enumerate.__new__» ⟨[.type "enumerate", .ref l], []⟩) (fun _ R s => s.heap.get? l = some ob ∧
      R (.ok (.ret (.ref (s.heap.push { cls := .type "tuple_iterator", data := .fields #[.ref l, .int 0 0] }).objs.size)))
        { s with heap := (s.heap.push { cls := .type "tuple_iterator", data := .fields #[.ref l, .int 0 0] }).push { cls := .type "enumerate", data := .fields #[.none, .bool false, .ref s.heap.objs.size, rawInt 0, .none, .none] } }) :=
  .of_wp fun prog w A R s h => by
    obtain ⟨hp, g, d, tk, os⟩ := s; obtain ⟨hl, h⟩ := h
    have hsub := sub_enumerate
    have hL : Heap.IsTuple (Shared.heap ⟨hp, g, d, tk, os⟩) l items := ⟨_, hl, hT, n, hd⟩
    wp_walk using wpAny_loadPart' hl
    refine wpAny_stack_any fun st => wpAny_pure ?_
    split
    · rename_i c _ _ _ _ _
      cases (c == Value.type "enumerate")
      · wp_walk using wpAny_loadPart' hl, wpAny_pyIter_tuple hL
        exact ⟨_, rfl, h⟩
      · wp_walk using wpAny_loadPart' hl, wpAny_pyIter_tuple hL
        exact ⟨_, rfl, h⟩
    · wp_walk using wpAny_loadPart' hl, wpAny_pyIter_tuple hL
      exact ⟨_, rfl, h⟩
theorem call_enumerate_tuple {prog : Program} {w : World} {A : Around} {E : Value → Shared → Prop} {s : Shared} {l : Addr} {items : Array Value} {Q : Value → Shared → Prop} (hL : s.heap.IsTuple l items)
    (h : ∀ h', IsEnum h' (s.heap.objs.size + 1) s.heap.objs.size 0 .none → h'.IsTupleIter s.heap.objs.size l 0 → h'.objs.size = s.heap.objs.size + 2 →
      (∀ b o, s.heap.get? b = some o → h'.get? b = some o) → Q (.ref (s.heap.objs.size + 1)) { s with heap := h' }) :
    wpAny (model prog w) A (call (.type "enumerate") [.ref l]) Q E s := by
  obtain ⟨ob, hl, hc, n, hd⟩ := hL
  refine callType_new F.called_enumerate (by decide) (F.typeCall_enumerate_1 _) (F.newCall_enumerate_1 _) (fun obj => F.args_object_init_2 obj _) F.entry_enumerate_new
    (meets_enumerate_newT l items ob hc n hd) ⟨hl, ?_⟩
  have hz : (s.heap.push { cls := .type "tuple_iterator", data := .fields #[.ref l, .int 0 0] }).objs.size = s.heap.objs.size + 1 := Heap.size_push ..
  show _ ∧ _
  rw [hz]
  have he : IsEnum ((s.heap.push { cls := .type "tuple_iterator", data := .fields #[.ref l, .int 0 0] }).push
      { cls := .type "enumerate", data := .fields #[.none, .bool false, .ref s.heap.objs.size, rawInt 0, .none, .none] }) (s.heap.objs.size + 1) s.heap.objs.size 0 .none := by
    have := Heap.get?_push_size (s.heap.push { cls := .type "tuple_iterator", data := .fields #[.ref l, .int 0 0] })
      (o := { cls := .type "enumerate", data := .fields #[.none, .bool false, .ref s.heap.objs.size, rawInt 0, .none, .none] }) rfl
    rw [hz] at this; exact this
  refine ⟨⟨_, he, rfl⟩, h _ he ⟨_, Heap.get?_push_of_some _ (Heap.get?_push_size _ rfl), rfl, rfl⟩ (by rw [Heap.size_push, hz]) fun b o x => Heap.get?_push_of_some _ (Heap.get?_push_of_some _ x)⟩
theorem enum_end_tuple {prog : Program} {w : World} {A : Around} {E : Value → Shared → Prop} {s : Shared} {e it l : Addr} {i : Nat} {items : Array Value} {old : Value} {Q : Option Value → Shared → Prop} (hh : A.handled = none)
    (he : IsEnum s.heap e it i old) (hit : s.heap.IsTupleIter it l i) (hl : s.heap.IsTuple l items) (hx : items[i]? = none)
    (hQ : ∀ h', Heap.ExtBut it s.heap h' → Q none { s with heap := h' }) : wpAny (model prog w) A (pyNext (.ref e)) Q E s := by
  have hT : s.TypeIs (.ref e) "enumerate" := ⟨_, he, rfl⟩
  unfold pyNext
  refine wpAny_bind (wpAny_attempt (wpAny_callSpecial?_slot (name := Str.ofString "__next__") hT F.slot_enumerate_next
    (wpAny_call_entry F.slot_enumerate_next hT F.entry_enumerate_next ?_ (F.args_enumerate_next_1 _))))
  show wpAny _ _ (field (.ref e) 2 >>= _) _ _ _
  refine wpAny_bind (wpAny_field he rfl (x := .ref it) rfl ?_)
  refine wpAny_bind (wpAny_nextOf_tuple_end hh hit hl hx fun h' x he' hx' => ?_)
  obtain ⟨o, ho, hc⟩ := hx'
  refine wpAny_bind (wpAny_isInstance (T := "StopIteration") (b := true) ⟨o, ho, hc⟩ isSubtype_stop ?_)
  exact wpAny_pure (hQ _ he')
end PySem
namespace L2
open PySem PySem.Spec PyProof.Rows
/-- the tuple at a as it stands at each turn, each item in a new pair -/
def IteT (K : PySem.W.Frag) (a : Addr) : It :=
  ⟨fun i H => ∃ (xs : List V) (x : V), SqT K H a xs ∧ xs[i]? = some x, fun i H v H' => ∃ T x, v = .ref T ∧ H T = none ∧ H' = upd H T (.tup [.int (i : Nat), x]) ∧ ∀ xs, SqT K H a xs → xs[i]? = some x, fun i H => ∃ xs : List V, SqT K H a xs ∧ xs.length ≤ i⟩
theorem turn_enumT {P : Program} {w : World} {K : PySem.W.Frag} {elts : List Expr} {kk : Nat} {tpos : Pos} (a e it : Addr) :
    Turn P w K (.Tuple elts kk tpos) (IteT K a) [e, it] e (fun i h => (∃ old, IsEnum h e it ((i : Nat) : Int) old) ∧ h.IsTupleIter it a i ∧ e ≠ it) where
  mem := by simp
  obj := fun i h st b hb => by
    obtain ⟨⟨old, he⟩, ⟨o, ho, hc, hd⟩, _⟩ := st
    have e' : b = e ∨ b = it := by simpa using hb
    rcases e' with z | z
    · rw [z]; exact ⟨_, he, fun v q => nomatch q⟩
    · rw [z]; exact ⟨o, ho, fun v q => by rw [hd] at q; cases q⟩
  keep := fun i h h' st k => let ⟨⟨old, he⟩, hi, hne⟩ := st; ⟨⟨old, k e (by simp) _ he⟩, hi.at fun o q => k it (by simp) o q, hne⟩
  item := by
    intro X hP hw hK hc i pins s σ H E I hf st hg
    subst hP hw hK
    obtain ⟨⟨old, he⟩, hit, hne⟩ := st
    obtain ⟨xs, x, hq, hx⟩ := hg
    obtain ⟨its, rv, p, hz⟩ := I.tuple hq
    obtain ⟨u, hu, ru⟩ := rv.get hx
    have hel : e < s.heap.objs.size := Heap.lt_size he
    have hil : it < s.heap.objs.size := by obtain ⟨_, q, _⟩ := hit; exact Heap.lt_size q
    have hal : a < s.heap.objs.size := p.lt
    have hane : a ≠ it := fun z => by
      obtain ⟨o1, q1, c1, _⟩ := hit
      obtain ⟨o2, q2, c2, _⟩ := p
      rw [z, q1] at q2; cases q2; rw [c1] at c2; exact absurd c2 (by decide)
    have hae : e ≠ a := fun z => by
      obtain ⟨o2, q2, c2, _⟩ := p
      rw [← z, he] at q2; cases q2; exact absurd (show Value.type "enumerate" = Value.type "tuple" from c2) (by decide)
    have Dr := Draws.tuple (prog := X.prog) (w := X.w) (A := X.A.in1) (I.ok.hd hc) it a hane its.toArray
    have hlt : i < its.toArray.size := by
      have := (List.getElem?_eq_some_iff.mp hu).1
      simpa using this
    refine wpAny_pyNext_enum_itemD Dr he ⟨hit, p⟩ hlt hne (by simp [hne, hae]) fun y h' tk hy ho hst' hT hsz hk => ?_
    have hyu : y = u := by
      have e1 : its.toArray[i]? = some u := by simpa using hu
      rw [e1] at hy
      exact (Option.some.inj hy).symm
    subst hyu
    refine ⟨_, rfl, wpAny_letOwnedTupleGo_enum (s := { s with heap := h', toks := tk + 1 }) ho fun h'' he' sb => ?_⟩
    have hT2 : h''.get? s.heap.objs.size = some { cls := .type "tuple", data := .seq #[.int i tk, y] } := (sb.2 _ (Nat.ne_of_gt hel)).trans hT
    have new : ObjOk X.prog X.w (upd H s.heap.objs.size (.tup [.int (i : Nat), x])) h'' s.heap.objs.size (.tup [.int (i : Nat), x]) :=
      ⟨by show 2 ≤ sizeLine; decide, [.int i tk, y], .cons ⟨_, rfl⟩ (.cons ru .nil), ⟨_, hT2, rfl, _, rfl⟩⟩
    have I1 : Inv X pins σ (upd H s.heap.objs.size (.tup [.int (i : Nat), x])) { s with heap := h'', toks := tk + 1 } :=
      I.turnedNew (ch := [e, it]) (fun b ob hb q => (sb.2 b (fun z => hb (by simp [z]))).trans (hk b ob (fun z => hb (by simp [z])) (fun z => hb (by simp [z])) q)) hf (Nat.le_refl _) new
    refine ⟨.ref s.heap.objs.size, _, I1, rfl, ⟨_, x, rfl, I.hok.fresh (Nat.le_refl _), rfl, fun ys hy => by rw [I.tuple_inj hy hq]; exact hx⟩, ⟨⟨y, ?_⟩, hst'.1.at fun o q => (sb.2 it (Ne.symm hne)).trans q, hne⟩, fun b hb => ?_⟩
    · have e1 : ((i + 1 : Nat) : Int) = (i : Int) + 1 := by omega
      rw [e1]; exact he'
    · have hb' : b < s.heap.objs.size := by
        have e' : b = e ∨ b = it := by simpa using hb
        rcases e' with z | z
        · rw [z]; exact hel
        · rw [z]; exact hil
      rw [upd_ne (Nat.ne_of_lt hb')]
      exact (hf b hb).1
  done := by
    intro X hP hw hK hc i pins s σ H E I hf st hg
    subst hP hw hK
    obtain ⟨⟨old, he⟩, hit, hne⟩ := st
    obtain ⟨xs, hq, hx⟩ := hg
    obtain ⟨its, rv, p, hz⟩ := I.tuple hq
    obtain ⟨f0, f1, f2, f3, f4, f5⟩ := hf it (by simp)
    have hl := rv.length
    exact enum_end_tuple (I.ok.hd hc) he hit p (by simp; omega) fun h' eb => ⟨rfl, I.turned (t' := s.toks) (fun b o hb q => eb b o hb q) f0 f1 f3 f4 f5⟩
  self := fun A i s Q E st h => let ⟨⟨_, he⟩, _⟩ := st; wpAny_pyIter_enum he h
section
variable {X : Cx} {tg : Expr}
/-- a list, a tuple or a text that is walked -/
def iAny (K : PySem.W.Frag) (tl : TE) : TI := fun σ H R => tl σ H fun x H1 => (∃ a, x = .ref a ∧ (∃ xs, SqL K H1 a xs) ∧ R (Itl K a) H1) ∨ (∃ a, x = .ref a ∧ (∃ xs, SqT K H1 a xs) ∧ R (Itt K a) H1) ∨ ∃ z, x = .str z ∧ R (Its z) H1
theorem pi_any {l : Expr} {tl : TE} (hl : PE X l tl) : PI X tg l (iAny X.K tl) := by
  refine ⟨fun pins s σ H R I h => ?_⟩
  refine thn (hl.run pins s σ H _ I h) fun v s1 ⟨x, H1, I1, r1, q1⟩ => ?_
  rcases q1 with ⟨a, e, ⟨xs, hq⟩, q⟩ | ⟨a, e, ⟨xs, hq⟩, q⟩ | ⟨z, e, q⟩
  · subst e
    cases r1
    obtain ⟨its, rv, p, hz⟩ := I1.list hq
    refine wpAny_pyIter_list p.isList ?_
    refine ⟨s1.heap.objs.size, [s1.heap.objs.size], _, _, H1, rfl, I1.kept (t' := s1.toks) fun b o e => Heap.get?_push_of_some _ e, turn_list a _, ⟨_, Heap.get?_push_size _ rfl, rfl, rfl⟩, fun b hb => ?_, q⟩
    have e : b = s1.heap.objs.size := by simpa using hb
    subst e
    exact I1.fpOk (Nat.le_refl _) (I1.hok.fresh (Nat.le_refl _))
  · subst e
    cases r1
    obtain ⟨its, rv, p, hz⟩ := I1.tuple hq
    refine wpAny_pyIter_tuple p ?_
    refine ⟨s1.heap.objs.size, [s1.heap.objs.size], _, _, H1, rfl, I1.kept (t' := s1.toks) fun b o e => Heap.get?_push_of_some _ e, turn_tuple a _, ⟨_, Heap.get?_push_size _ rfl, rfl, rfl⟩, fun b hb => ?_, q⟩
    have e : b = s1.heap.objs.size := by simpa using hb
    subst e
    exact I1.fpOk (Nat.le_refl _) (I1.hok.fresh (Nat.le_refl _))
  · subst e
    obtain ⟨t, rfl⟩ := r1
    cases ha : z.cps.all (· < 128)
    · exact wpAny_pyIter_wide ha (pi_one (tk := s1.toks) I1 _ (turn_str _ z t "str_iterator" (.inr rfl)) ⟨_, Heap.get?_push_size _ rfl, rfl, rfl⟩ q)
    · exact wpAny_pyIter_ascii ha (pi_one (tk := s1.toks) I1 _ (turn_str _ z t "str_ascii_iterator" (.inl rfl)) ⟨_, Heap.get?_push_size _ rfl, rfl, rfl⟩ q)
/-- enumerate of a list or a tuple -/
def iEnumA (K : PySem.W.Frag) (ta : TA) : TI := fun σ H R => ta σ H fun vs H1 => (∃ a xs, vs = [.ref a] ∧ SqL K H1 a xs ∧ R (Ite K a) H1) ∨ ∃ a xs, vs = [.ref a] ∧ SqT K H1 a xs ∧ R (IteT K a) H1
theorem pi_enumA {e : Expr} {ta : TA} {p pos tpos : Pos} {elts : List Expr} {kk : Nat} (hg : Gl X "enumerate") (hm : X.mg "enumerate" = none) (ha : PA X [e] ta) (hs : starEach [e] X.env = [(false, eval e X.env)] := by rfl) :
    PI X (.Tuple elts kk tpos) (.Call (.Name "enumerate" p) [e] [] pos) (iEnumA X.K ta) := by
  refine ⟨fun pins s σ H R I h => ?_⟩
  refine PyProof.Rows.Call_ (ld_blt I hg hm boot_enumerate (PyProof.Rows.callWith_type1 (thn (ha.run pos pins s σ H _ I h) fun us s1 ⟨vs, H1, I1, r1, q1⟩ => ?_) hs rfl))
  rcases q1 with ⟨a, xs, ex, hq, q⟩ | ⟨a, xs, ex, hq, q⟩
  · subst ex
    cases r1 with
    | cons r rr =>
      cases rr
      cases r
      obtain ⟨its, rv, p', hz⟩ := I1.list hq
      refine call_enumerate_list p'.isList fun h' he hit hsz hk => wpAny_pyIter_enum he ?_
      have I2 : Inv X pins σ H1 { s1 with heap := h' } := I1.kept (t' := s1.toks) hk
      refine ⟨s1.heap.objs.size + 1, [s1.heap.objs.size + 1, s1.heap.objs.size], _, _, H1, rfl, I2, turn_enum a (s1.heap.objs.size + 1) s1.heap.objs.size, ⟨⟨.none, he⟩, hit, Nat.succ_ne_self _⟩, fun b hb => ?_, q⟩
      have e' : b = s1.heap.objs.size + 1 ∨ b = s1.heap.objs.size := by simpa using hb
      have hle : s1.heap.objs.size ≤ b := by
        rcases e' with z | z
        · rw [z]; exact Nat.le_add_right _ _
        · rw [z]; exact Nat.le_refl _
      exact I1.fpOk hle (I1.hok.fresh hle)
  · subst ex
    cases r1 with
    | cons r rr =>
      cases rr
      cases r
      obtain ⟨its, rv, p', hz⟩ := I1.tuple hq
      refine call_enumerate_tuple p' fun h' he hit hsz hk => wpAny_pyIter_enum he ?_
      have I2 : Inv X pins σ H1 { s1 with heap := h' } := I1.kept (t' := s1.toks) hk
      refine ⟨s1.heap.objs.size + 1, [s1.heap.objs.size + 1, s1.heap.objs.size], _, _, H1, rfl, I2, turn_enumT a (s1.heap.objs.size + 1) s1.heap.objs.size, ⟨⟨.none, he⟩, hit, Nat.succ_ne_self _⟩, fun b hb => ?_, q⟩
      have e' : b = s1.heap.objs.size + 1 ∨ b = s1.heap.objs.size := by simpa using hb
      have hle : s1.heap.objs.size ≤ b := by
        rcases e' with z | z
        · rw [z]; exact Nat.le_add_right _ _
        · rw [z]; exact Nat.le_refl _
      exact I1.fpOk hle (I1.hok.fresh hle)
end
end L2
end
section
set_option Elab.async false
set_option linter.all false
set_option maxRecDepth 100000
set_option maxHeartbeats 1000000
/-! Walks over data; comprehensions; raise. -/
namespace Bm
open PySem PySem.Spec L2

def qt (c : Cfg) : Cfg := { c with E := fun _ _ _ => False }
theorem yields_list {K : PySem.W.Frag} {F : Hp} {a : Addr} {xs : List V} {l : List D} (h : F a = some (.lst xs)) (q : DpAll K F xs l) : Yields K F (Itl K a) l where
  go := fun i H F' s1 s2 hi => by
    have hx : i < xs.length := by rw [dpa_len q]; exact hi
    exact ⟨xs, xs[i], .inl (.inl ((s1.trans s2) _ _ h)), List.getElem?_eq_getElem hx⟩
  stop := fun i H F' s1 s2 hi => ⟨xs, .inl (.inl ((s1.trans s2) _ _ h)), by rw [dpa_len q]; exact hi⟩
  yld := fun i H F' x H' _ s1 s2 y => by
    obtain ⟨e, y⟩ := y
    subst e
    have z := y xs (.inl (.inl ((s1.trans s2) _ _ h)))
    have hi : i < l.length := by rw [← dpa_len q]; exact (List.getElem?_eq_some_iff.mp z).1
    obtain ⟨v, e1, e2⟩ := dpa_get q (List.getElem?_eq_getElem hi)
    rw [z] at e1; cases e1
    exact ⟨F', Same.refl _, s2, fun _ _ _ => rfl, _, List.getElem?_eq_getElem hi, Dn.of (dp_same s1 _ _ e2)⟩
theorem yields_tup {K : PySem.W.Frag} {F : Hp} {a : Addr} {xs : List V} {l : List D} (h : F a = some (.tup xs)) (q : DpAll K F xs l) : Yields K F (Itt K a) l where
  go := fun i H F' s1 s2 hi => by
    have hx : i < xs.length := by rw [dpa_len q]; exact hi
    exact ⟨xs, xs[i], .inl (.inl ((s1.trans s2) _ _ h)), List.getElem?_eq_getElem hx⟩
  stop := fun i H F' s1 s2 hi => ⟨xs, .inl (.inl ((s1.trans s2) _ _ h)), by rw [dpa_len q]; exact hi⟩
  yld := fun i H F' x H' _ s1 s2 y => by
    obtain ⟨e, y⟩ := y
    subst e
    have z := y xs (.inl (.inl ((s1.trans s2) _ _ h)))
    have hi : i < l.length := by rw [← dpa_len q]; exact (List.getElem?_eq_some_iff.mp z).1
    obtain ⟨v, e1, e2⟩ := dpa_get q (List.getElem?_eq_getElem hi)
    rw [z] at e1; cases e1
    exact ⟨F', Same.refl _, s2, fun _ _ _ => rfl, _, List.getElem?_eq_getElem hi, Dn.of (dp_same s1 _ _ e2)⟩
theorem chars_len (l : List Nat) : (chars l).length = l.length := List.length_map ..
theorem yields_str {K : PySem.W.Frag} {F : Hp} (z : Str) : Yields K F (Its z) (chars (toL z)) where
  go := fun i H F' s1 s2 hi => by
    show i < z.cps.size
    rw [chars_len] at hi
    simpa [toL] using hi
  stop := fun i H F' s1 s2 hi => by
    show z.cps.size ≤ i
    rw [chars_len] at hi
    simpa [toL] using hi
  yld := fun i H F' x H' _ s1 s2 y => by
    obtain ⟨e, c, hc, ex⟩ := y
    subst e; subst ex
    refine ⟨F', Same.refl _, s2, fun _ _ _ => rfl, dS [c], ?_, Dp.str _⟩
    unfold chars toL
    rw [List.getElem?_map, Array.getElem?_toList, hc]
    rfl
theorem rangeFrom_get : ∀ (n : Nat) (i : Int) (k : Nat), (rangeFrom i n)[k]? = if k < n then some (.int (i + k)) else none
  | 0, i, k => by simp [rangeFrom]
  | n + 1, i, 0 => by simp [rangeFrom]
  | n + 1, i, k + 1 => by
    simp only [rangeFrom, List.getElem?_cons_succ]
    rw [rangeFrom_get n (i + 1) k]
    by_cases h : k < n
    · rw [if_pos h, if_pos (by omega)]; congr 2; omega
    · rw [if_neg h, if_neg (by omega)]
theorem rangeFrom_len : ∀ (n : Nat) (i : Int), (rangeFrom i n).length = n
  | 0, _ => rfl
  | n + 1, i => by simp [rangeFrom, rangeFrom_len n]
theorem yields_range {K : PySem.W.Frag} {F : Hp} (lo : Int) (n : Nat) : Yields K F (Itr lo n) (rangeFrom lo n) where
  go := fun i H F' s1 s2 hi => by rw [rangeFrom_len] at hi; exact hi
  stop := fun i H F' s1 s2 hi => by rw [rangeFrom_len] at hi; exact hi
  yld := fun i H F' x H' hi s1 s2 y => by
    obtain ⟨e, ex⟩ := y
    subst e; subst ex
    rw [rangeFrom_len] at hi
    exact ⟨F', Same.refl _, s2, fun _ _ _ => rfl, .int (lo + i), by rw [rangeFrom_get, if_pos hi], Dp.int _⟩
theorem enumFrom_get : ∀ (l : List D) (k i : Nat), (enumFrom k l)[i]? = (l[i]?).map fun x => .tuple [.int ((k + i : Nat) : Int), x]
  | [], k, i => by simp [enumFrom]
  | x :: r, k, 0 => by simp [enumFrom]
  | x :: r, k, i + 1 => by
    simp only [enumFrom, List.getElem?_cons_succ]
    rw [enumFrom_get r (k + 1) i]
    have : k + 1 + i = k + (i + 1) := by omega
    rw [this]
theorem enumFrom_len : ∀ (l : List D) (k : Nat), (enumFrom k l).length = l.length
  | [], _ => rfl
  | _ :: r, k => by simp [enumFrom, enumFrom_len r]
theorem enum_pair {K : PySem.W.Frag} {F' H : Hp} {T : Addr} {x : V} {i : Nat} {d : D} (s2 : Same F' H) (nT : H T = none) (e2 : Dp K F' x d) :
    ∃ F'', Same H (upd H T (.tup [.int (i : Nat), x])) ∧ Same F'' (upd H T (.tup [.int (i : Nat), x])) ∧ (∀ b u, H b = some u → F'' b = F' b) ∧ Dn K F'' (.ref T) (.tuple [.int ((i : Nat) : Int), d]) := by
  have g : Grow F' H (upd F' T (.tup [.int (i : Nat), x])) (upd H T (.tup [.int (i : Nat), x])) := Grow.alloc s2 nT
  refine ⟨_, same_upd nT, g.same, fun b u hb => (g.kp b u hb).1, Dp.tup upd_same (.cons (.int _) (.cons (dp_same (same_upd (s2.free nT)) _ _ e2) .nil))⟩
theorem yields_enumL {K : PySem.W.Frag} {F : Hp} {a : Addr} {xs : List V} {l : List D} (h : F a = some (.lst xs)) (q : DpAll K F xs l) : Yields K F (Ite K a) (enumFrom 0 l) where
  go := fun i H F' s1 s2 hi => by
    have hx : i < xs.length := by rw [dpa_len q]; rw [enumFrom_len] at hi; exact hi
    exact ⟨xs, xs[i], .inl (.inl ((s1.trans s2) _ _ h)), List.getElem?_eq_getElem hx⟩
  stop := fun i H F' s1 s2 hi => ⟨xs, .inl (.inl ((s1.trans s2) _ _ h)), by rw [dpa_len q]; rw [enumFrom_len] at hi; exact hi⟩
  yld := fun i H F' x H' _ s1 s2 y => by
    obtain ⟨T, v, ex, nT, eH, y⟩ := y
    subst ex; subst eH
    have z := y xs (.inl (.inl ((s1.trans s2) _ _ h)))
    have hi : i < l.length := by rw [← dpa_len q]; exact (List.getElem?_eq_some_iff.mp z).1
    obtain ⟨v', e1, e2⟩ := dpa_get q (List.getElem?_eq_getElem hi)
    rw [z] at e1; cases e1
    obtain ⟨F'', g1, g2, g3, g4⟩ := enum_pair (i := i) s2 nT (dp_same s1 _ _ e2)
    refine ⟨F'', g1, g2, g3, _, ?_, g4⟩
    rw [enumFrom_get, List.getElem?_eq_getElem hi, Nat.zero_add]
    rfl
theorem yields_enumT {K : PySem.W.Frag} {F : Hp} {a : Addr} {xs : List V} {l : List D} (h : F a = some (.tup xs)) (q : DpAll K F xs l) : Yields K F (IteT K a) (enumFrom 0 l) where
  go := fun i H F' s1 s2 hi => by
    have hx : i < xs.length := by rw [dpa_len q]; rw [enumFrom_len] at hi; exact hi
    exact ⟨xs, xs[i], .inl (.inl ((s1.trans s2) _ _ h)), List.getElem?_eq_getElem hx⟩
  stop := fun i H F' s1 s2 hi => ⟨xs, .inl (.inl ((s1.trans s2) _ _ h)), by rw [dpa_len q]; rw [enumFrom_len] at hi; exact hi⟩
  yld := fun i H F' x H' _ s1 s2 y => by
    obtain ⟨T, v, ex, nT, eH, y⟩ := y
    subst ex; subst eH
    have z := y xs (.inl (.inl ((s1.trans s2) _ _ h)))
    have hi : i < l.length := by rw [← dpa_len q]; exact (List.getElem?_eq_some_iff.mp z).1
    obtain ⟨v', e1, e2⟩ := dpa_get q (List.getElem?_eq_getElem hi)
    rw [z] at e1; cases e1
    obtain ⟨F'', g1, g2, g3, g4⟩ := enum_pair (i := i) s2 nT (dp_same s1 _ _ e2)
    refine ⟨F'', g1, g2, g3, _, ?_, g4⟩
    rw [enumFrom_get, List.getElem?_eq_getElem hi, Nat.zero_add]
    rfl
section
variable {X : Cx} {c : Cfg} {e e1 e2 : Expr} {es : List Expr} {a b m : E} {pos : Pos} {tg : Expr}
theorem si_seq (h : PE X e (TEv X.K c a)) : PI X tg e (TIv X.K c (.it .seq (.cons a .nil))) := by
  refine PI.mono (pi_any h) fun σ H R' ⟨F, r, x, h⟩ => ⟨F, r, x, ?_⟩
  simp only [den] at h
  cases ed : den c.call a r with
  | ok p =>
    obtain ⟨d, r1⟩ := p
    rw [ed] at h
    simp only [R.ok_bind] at h
    intro v F1 H1 x1 e1 s1 q1
    cases d with
    | list l =>
      have q1' : Dp X.K F1 v (.list l) := q1
      cases q1' with
      | lst h1 h2 => exact .inl ⟨_, rfl, ⟨_, .inl (.inl (x1.rel.same _ _ h1))⟩, h _ F1 H1 x1 e1 s1 (yields_list h1 h2)⟩
    | tuple l =>
      have q1' : Dp X.K F1 v (.tuple l) := q1
      cases q1' with
      | tup h1 h2 => exact .inr (.inl ⟨_, rfl, ⟨_, .inl (.inl (x1.rel.same _ _ h1))⟩, h _ F1 H1 x1 e1 s1 (yields_tup h1 h2)⟩)
    | str z =>
      have q1' : Dp X.K F1 v (.str z) := q1
      cases q1'
      exact .inr (.inr ⟨z, rfl, h _ F1 H1 x1 e1 s1 (yields_str z)⟩)
    | none => exact h.elim
    | bool _ => exact h.elim
    | int _ => exact h.elim
    | dict _ => exact h.elim
  | exc k => rw [ed] at h; exact h
  | stuck => rw [ed] at h; exact h
theorem tiv_it {K : PySem.W.Frag} {k : ItK} {σ : St} {H : Hp} {R' : It → Hp → Prop} {rr : List V → Hp → Prop} (h : TIv K c (.it k a) σ H R')
    (f : ∀ ds items vs F1 H1, DnAll K F1 vs ds → itD k ds = some items → Same F1 H1 → (∀ J, Yields K F1 J items → R' J H1) → rr vs H1) : TAv K c a σ H rr := by
  obtain ⟨F, r, x, h⟩ := h
  refine ⟨F, r, x, ?_⟩
  simp only [den] at h
  cases ed : den c.call a r with
  | ok p =>
    obtain ⟨d, r1⟩ := p
    rw [ed] at h
    simp only [R.ok_bind] at h
    cases d with
    | list ds =>
      simp only at h
      cases ei : itD k ds with
      | none => rw [ei] at h; exact h.elim
      | some items =>
        rw [ei] at h
        exact fun vs F1 H1 x1 e1 s1 q1 => f ds items vs F1 H1 q1 ei x1.rel.same fun J Y => h J F1 H1 x1 e1 s1 Y
    | none => exact h.elim
    | bool _ => exact h.elim
    | int _ => exact h.elim
    | str _ => exact h.elim
    | tuple _ => exact h.elim
    | dict _ => exact h.elim
  | exc k => rw [ed] at h; exact h
  | stuck => rw [ed] at h; exact h
theorem dn_int {K : PySem.W.Frag} {F : Hp} {v : V} {i : Int} (h : Dn K F v (.int i)) : v = .int i := by
  have h' : Dp K F v (.int i) := h
  cases h'; rfl
theorem si_range1 {p : Pos} (hg : Gl X "range") (hm : X.mg "range" = none) (ha : PA X [e] (TAv X.K c a)) (hs : starEach [e] X.env = [(false, eval e X.env)] := by rfl) : PI X tg (.Call (.Name "range" p) [e] [] pos) (TIv X.K c (.it .range1 a)) := by
  refine PI.mono (pi_range1 hg hm ha hs) fun σ H R h => tiv_it h fun ds items vs F1 H1 q ei sm hR => ?_
  match ds, q with
  | [d], .cons q1 .nil =>
    cases d with
    | int n =>
      simp only [itD, guardO] at ei
      by_cases hn : decide (-(lim : Int) ≤ n ∧ n ≤ lim) = true
      · rw [if_pos hn] at ei
        cases ei
        rw [decide_eq_true_eq] at hn
        have hv := dn_int q1
        subst hv
        have hl : (lim : Int) = 1000000 := rfl
        exact ⟨n, rfl, by omega, by omega, hR _ (yields_range 0 n.toNat)⟩
      · rw [if_neg hn] at ei; cases ei
    | none => cases ei
    | bool _ => cases ei
    | str _ => cases ei
    | list _ => cases ei
    | tuple _ => cases ei
    | dict _ => cases ei
  | [], .nil => cases ei
  | _ :: _ :: _, _ => simp [itD] at ei
theorem si_range2 {p : Pos} (hg : Gl X "range") (hm : X.mg "range" = none) (ha : PA X [e1, e2] (TAv X.K c a)) (hs : starEach [e1, e2] X.env = [(false, eval e1 X.env), (false, eval e2 X.env)] := by rfl) (hs2 : starEach [e2] X.env = [(false, eval e2 X.env)] := by rfl) :
    PI X tg (.Call (.Name "range" p) [e1, e2] [] pos) (TIv X.K c (.it .range2 a)) := by
  refine PI.mono (pi_range2 hg hm ha hs hs2) fun σ H R h => tiv_it h fun ds items vs F1 H1 q ei sm hR => ?_
  match ds, q with
  | [d1, d2], .cons q1 (.cons q2 .nil) =>
    cases d1 with
    | int m =>
      cases d2 with
      | int n =>
        simp only [itD, guardO] at ei
        by_cases hn : decide (-(lim : Int) ≤ m ∧ m ≤ lim ∧ -(lim : Int) ≤ n ∧ n ≤ lim) = true
        · rw [if_pos hn] at ei
          cases ei
          rw [decide_eq_true_eq] at hn
          have hv := dn_int q1
          have hw := dn_int q2
          subst hv; subst hw
          have hl : (lim : Int) = 1000000 := rfl
          exact ⟨m, n, rfl, ⟨by omega, by omega, by omega, by omega⟩, hR _ (yields_range m (n - m).toNat)⟩
        · rw [if_neg hn] at ei; cases ei
      | _ => cases ei
    | _ => cases ei
  | [], .nil => cases ei
  | [_], _ => simp [itD] at ei
  | _ :: _ :: _ :: _, _ => simp [itD] at ei
theorem si_enum {p tpos : Pos} {elts : List Expr} {kk : Nat} (hg : Gl X "enumerate") (hm : X.mg "enumerate" = none) (ha : PA X [e] (TAv X.K c a)) (hs : starEach [e] X.env = [(false, eval e X.env)] := by rfl) :
    PI X (.Tuple elts kk tpos) (.Call (.Name "enumerate" p) [e] [] pos) (TIv X.K c (.it .enum a)) := by
  refine PI.mono (pi_enumA hg hm ha hs) fun σ H R h => tiv_it h fun ds items vs F1 H1 q ei sm hR => ?_
  match ds, q with
  | [d], .cons q1 .nil =>
    cases d with
    | list l =>
      simp only [itD] at ei
      cases ei
      have q1' : Dp X.K F1 _ (.list l) := q1
      cases q1' with
      | lst h1 h2 => exact .inl ⟨_, _, rfl, .inl (.inl (sm _ _ h1)), hR _ (yields_enumL h1 h2)⟩
    | tuple l =>
      simp only [itD] at ei
      cases ei
      have q1' : Dp X.K F1 _ (.tuple l) := q1
      cases q1' with
      | tup h1 h2 => exact .inr ⟨_, _, rfl, .inl (.inl (sm _ _ h1)), hR _ (yields_enumT h1 h2)⟩
    | _ => cases ei
  | [], .nil => cases ei
  | _ :: _ :: _, _ => simp [itD] at ei

/-! ### raise -/
theorem takesN0 {X : Cx} : L2N.Takes X (fun _ _ _ _ => False) := fun _ _ h => by
  obtain ⟨_, _, _, _, _, _, _, _, _, _, _, _, _, _, _, _, no⟩ := h
  exact no.elim
/-- the class x, at C: it may be raised with a text -/
structure ExcAt (K : PySem.W.Frag) (mg : Str → Option Value) (x : Str) (C : Addr) : Prop where
  g : mg x = some (.ref C)
  xn : PySem.W.excIn K C [.type "ValueError", .type "Exception", .type "BaseException", .type "object"] "ValueError.__new__" = true
  kp : PySem.W.keepIn K (.ref C) = true
  sub : PySem.W.subIn K (.ref C) (.type "BaseException") = some true
  ty : PySem.W.typeIn K (.ref C) = some (.type "type")
theorem ss_raise {x t : Str} {C : Addr} {k j : Nat} {p p2 p3 : Pos} (hc : X.calm = true) (tk : L2N.Takes X fun cls d _ H => c.E cls d H) (q : ExcAt X.K X.mg x C) (hC : c.cl k = .ref C) (hg : Gl X x) (hdb : (x == ("__debug__" : Str)) = false := by decide) :
    PS X (.Raise (some (.Call (.Name x p) [.Constant (.str t) j p2] [] p3)) none pos) (TSv X.K c (.raise k)) := by
  refine PS.mono (L2N.ps_raise hc tk (L2N.pmk_own PySem.F.excBase_ValueError q.xn q.g q.kp (raises_own q.sub q.ty) hg hdb)) fun D σ H ⟨F, r, x, h⟩ => ?_
  show c.E (.ref C) none H
  rw [← hC]
  exact h F H x.tie x.rel.same x.kp

/-! ### comprehensions -/
theorem Stt.quiet {K : PySem.W.Frag} {r : Env} {σ : St} {H F : Hp} (x : Stt K c r σ H F) : Stt K (qt c) r σ H F := ⟨x.rel, x.tie, x.kp, x.own, x.pin⟩
theorem Stt.loud {K : PySem.W.Frag} {r : Env} {σ : St} {H F : Hp} (x : Stt K (qt c) r σ H F) : Stt K c r σ H F := ⟨x.rel, x.tie, x.kp, x.own, x.pin⟩
theorem getS_wipe (r : Env) (j : Nat) : ∀ is : List Nat, getS (wipeE r is) j = if j ∈ is then .un else getS r j
  | [] => by simp [wipeE]
  | i :: is => by
    have wl : ∀ is : List Nat, (wipeE r is).length = r.length := fun is => by
      induction is with
      | nil => rfl
      | cons i is ih => simp [wipeE, putS, ih]
    simp only [wipeE]
    rw [getS_put, getS_wipe r j is, wl]
    by_cases h : i = j
    · subst h
      simp only [List.mem_cons, true_or, if_true, true_and]
      by_cases h2 : i < r.length
      · rw [if_pos h2]
      · rw [if_neg h2]
        have : getS r i = .un := by
          unfold getS
          rw [List.getD_eq_getElem?_getD, List.getElem?_eq_none (by omega)]
          rfl
        rw [this]
        simp
    · rw [if_neg (fun z => h z.1)]
      simp only [List.mem_cons, show ¬ j = i from fun z => h z.symm, false_or]
theorem wipe_at (σ : St) (j : Nat) : ∀ is : List Nat, vAt (wipe σ is) j = if j ∈ is then none else vAt σ j
  | [] => by simp [wipe]
  | i :: is => by
    simp only [wipe]
    rw [vAt_set, wipe_at σ j is, wipe_length]
    by_cases h : i = j
    · subst h
      simp only [List.mem_cons, true_or, if_true, true_and]
      by_cases h2 : i < σ.length
      · rw [if_pos h2]
      · rw [if_neg h2]
        have : vAt σ i = none := by
          unfold vAt
          rw [List.getElem?_eq_none (by omega)]
          rfl
        rw [this]
        simp
    · rw [if_neg (fun z => h z.1)]
      simp only [List.mem_cons, show ¬ j = i from fun z => h z.symm, false_or]
theorem wipeE_len (r : Env) : ∀ is : List Nat, (wipeE r is).length = r.length
  | [] => rfl
  | i :: is => by simp [wipeE, putS, wipeE_len r is]
theorem backE_len (r' r : Env) : ∀ is : List Nat, (backE r' r is).length = r'.length
  | [] => rfl
  | i :: is => by simp [backE, putS, backE_len r' r is]
theorem getS_back (r' r : Env) (j : Nat) : ∀ is : List Nat, r'.length = r.length → getS (backE r' r is) j = if j ∈ is then getS r j else getS r' j
  | [], _ => by simp [backE]
  | i :: is, hl => by
    simp only [backE]
    rw [getS_put, getS_back r' r j is hl, backE_len]
    by_cases h : i = j
    · subst h
      simp only [List.mem_cons, true_or, if_true, true_and]
      by_cases h2 : i < r'.length
      · rw [if_pos h2]
      · rw [if_neg h2]
        have e1 : getS r i = .un := by
          unfold getS
          rw [List.getD_eq_getElem?_getD, List.getElem?_eq_none (by omega)]
          rfl
        have e2 : getS r' i = .un := by
          unfold getS
          rw [List.getD_eq_getElem?_getD, List.getElem?_eq_none (by omega)]
          rfl
        rw [e1, e2]
        simp
    · rw [if_neg (fun z => h z.1)]
      simp only [List.mem_cons, show ¬ j = i from fun z => h z.symm, false_or]
theorem Ef.transG {r r1 : Env} {σ σ1 : St} {H F H1 F1 H2 F2 : Hp} (a : Ef r σ F H F1 H1) (b : Ef r1 σ1 F1 H1 F2 H2) (s : ∀ a, Own r1 σ1 a → Own r σ a) : Ef r σ F H F2 H2 := fun c o h n => by
  have h1 := a c o h n
  have n1 : ¬ Own r1 σ1 c := fun q => n (s c q)
  obtain ⟨o1, e1⟩ := h1.2.ex
  refine ⟨(b c o1 e1 n1).1.trans h1.1, h1.2.trans fun o' e' => (b c o' e' n1).2⟩
theorem own_wipe {r : Env} {σ : St} {is : List Nat} {i : Nat} {a : Addr} (h : OwnAt (wipeE r is) (wipe σ is) i a) : i ∉ is ∧ OwnAt r σ i a := by
  obtain ⟨h1, h2⟩ := h
  rw [getS_wipe] at h1
  rw [wipe_at] at h2
  by_cases hi : i ∈ is
  · rw [if_pos hi] at h1; cases h1
  · rw [if_neg hi] at h1 h2; exact ⟨hi, h1, h2⟩
theorem Stt.wiped {K : PySem.W.Frag} {r : Env} {σ : St} {H F : Hp} (x : Stt K c r σ H F) (is : List Nat) : Stt K c (wipeE r is) (wipe σ is) H F := by
  refine ⟨⟨?_, x.rel.same, fun i => ?_, fun i j a p q => x.rel.inj i j a (own_wipe p).2 (own_wipe q).2⟩, x.tie, x.kp, fun b ⟨i, q⟩ => x.own b ⟨i, (own_wipe q).2⟩, fun b q => x.pin b (by
    rw [wipe_at] at q
    by_cases hi : 0 ∈ is
    · rw [if_pos hi] at q; cases q
    · rw [if_neg hi] at q; exact q)⟩
  · rw [wipeE_len, wipe_length]; exact x.rel.len
  · rw [getS_wipe, wipe_at]
    by_cases hi : i ∈ is
    · rw [if_pos hi]; trivial
    · rw [if_neg hi, if_neg hi]; exact x.rel.ok i
theorem st_ext {σ σ' : St} (h : ∀ i : Nat, σ[i]? = σ'[i]?) : σ = σ' := List.ext_getElem? h
theorem wipe_get (σ : St) (j : Nat) : ∀ is : List Nat, (wipe σ is)[j]? = if j ∈ is ∧ j < σ.length then some none else σ[j]?
  | [] => by simp [wipe]
  | i :: is => by
    simp only [wipe]
    rw [List.getElem?_set, wipe_get σ j is, wipe_length]
    by_cases h : i = j
    · subst h
      by_cases h2 : i < σ.length
      · simp [h2]
      · simp [h2]
    · simp [h, Ne.symm h]
theorem wipe_same {σ σ' : St} {is : List Nat} (h : ∀ i, i ∉ is → σ'[i]? = σ[i]?) (hl : σ'.length = σ.length) : wipe σ' is = wipe σ is := st_ext fun i => by
  rw [wipe_get, wipe_get, hl]
  by_cases hi : i ∈ is ∧ i < σ.length
  · rw [if_pos hi, if_pos hi]
  · rw [if_neg hi, if_neg hi]
    by_cases h2 : i ∈ is
    · have : ¬ i < σ.length := fun z => hi ⟨h2, z⟩
      rw [List.getElem?_eq_none (by omega), List.getElem?_eq_none (by omega)]
    · exact h i h2
theorem wipe_wipe (σ : St) (is : List Nat) : wipe (wipe σ is) is = wipe σ is := wipe_same (fun i hi => by rw [wipe_get, if_neg (fun z => hi z.1)]) (wipe_length σ is)
/-- behind the block: its own names as they were -/
theorem Stt.back {K : PySem.W.Frag} {r1 r2 : Env} {σ : St} {H1 F1 H F : Hp} {is : List Nat} (x1 : Stt K c r1 σ H1 F1) (x : Stt K c (wipeE r2 is) (wipe σ is) H F) (ef : Ef (wipeE r1 is) (wipe σ is) F1 H1 F H) (hl : r2.length = r1.length) (ow : ∀ a, Own (wipeE r2 is) (wipe σ is) a → Own (wipeE r1 is) (wipe σ is) a) :
    Stt K c (backE r2 r1 is) σ H F ∧ Ef r1 σ F1 H1 F H ∧ ∀ a, Own (backE r2 r1 is) σ a → Own r1 σ a := by
  have ef1 : Ef r1 σ F1 H1 F H := fun b o h n => ef b o h fun ⟨i, q⟩ => n ⟨i, (own_wipe q).2⟩
  have sF : Same F1 F := ef1.same x1.rel
  have key : ∀ i a, OwnAt (backE r2 r1 is) σ i a → (i ∈ is ∧ OwnAt r1 σ i a) ∨ (i ∉ is ∧ OwnAt (wipeE r2 is) (wipe σ is) i a) := fun i a ⟨h1, h2⟩ => by
    rw [getS_back _ _ _ _ hl] at h1
    by_cases hi : i ∈ is
    · rw [if_pos hi] at h1; exact .inl ⟨hi, h1, h2⟩
    · rw [if_neg hi] at h1; exact .inr ⟨hi, by rw [getS_wipe, if_neg hi]; exact h1, by rw [wipe_at, if_neg hi]; exact h2⟩
  have kept : ∀ i a, i ∈ is → OwnAt r1 σ i a → ¬ Own (wipeE r1 is) (wipe σ is) a := fun i a hi q ⟨j, z⟩ => by
    have z' := own_wipe z
    exact z'.1 (x1.rel.inj i j a q z'.2 ▸ hi)
  have ob : ∀ a, Own (backE r2 r1 is) σ a → Own r1 σ a := fun a ⟨i, q⟩ => by
    rcases key i a q with ⟨_, q⟩ | ⟨_, q⟩
    · exact ⟨i, q⟩
    · obtain ⟨j, z⟩ := ow a ⟨i, q⟩
      exact ⟨j, (own_wipe z).2⟩
  refine ⟨⟨⟨?_, x.rel.same, fun i => ?_, fun i j a p q => ?_⟩, x.tie, x.kp, fun b q => x1.own b (ob b q), x1.pin⟩, ef1, ob⟩
  · rw [backE_len, hl]; exact x1.rel.len
  · rw [getS_back _ _ _ _ hl]
    by_cases hi : i ∈ is
    · rw [if_pos hi]
      refine slot_same sF (fun a o1 o2 hf ⟨o, ho, mu⟩ => ?_) (x1.rel.ok i)
      have z := ef a o ho (kept i a hi ⟨o1, o2⟩)
      exact ⟨z.1.trans hf, (z.2.mut mu).trans ho.symm⟩
    · rw [if_neg hi]
      have z := x.rel.ok i
      rw [getS_wipe, if_neg hi, wipe_at, if_neg hi] at z
      exact z
  · rcases key i a p with ⟨hi, p⟩ | ⟨hi, p⟩
    · rcases key j a q with ⟨hj, q⟩ | ⟨hj, q⟩
      · exact x1.rel.inj i j a p q
      · exact absurd (ow a ⟨j, q⟩) (kept i a hi p)
    · rcases key j a q with ⟨hj, q⟩ | ⟨hj, q⟩
      · exact absurd (ow a ⟨i, p⟩) (kept j a hj q)
      · exact x.rel.inj i j a p q
end
end Bm
end
section
set_option Elab.async false
set_option linter.all false
set_option maxRecDepth 100000
set_option maxHeartbeats 1000000
/-! List comprehensions. -/
namespace Bm
open PySem PySem.Spec L2
section
variable {X : Cx} {c : Cfg} {e e1 e2 : Expr} {es : List Expr} {a b m : E} {pos : Pos} {tg : Expr}
theorem PTs.mono {ifs : List Expr} {t u : TT} (h : PTs X ifs t) (i : ∀ σ H Q, u σ H Q → t σ H Q) : PTs X ifs u := ⟨fun pins s σ H Q I q => h.run pins s σ H Q I (i σ H Q q)⟩
theorem st_nil : PTs X [] (TTv X.K c (.lit (.bool true))) := PTs.mono pts_nil fun σ H Q ⟨F, r, x, h⟩ => by
  obtain ⟨k, e, q⟩ := h (.bl true) F H x Ef.refl (fun _ z => z) (Dp.bl true)
  cases e
  exact q
theorem st_one (h : PT X e (TTv X.K c m)) : PTs X [e] (TTv X.K c m) := pts_one h
def tgs : Tg → List Nat
  | .name i => [i]
  | .tup is => is
  | .lst is => is
theorem putAll_length : ∀ {is : List Nat} {ds : List D} {r r' : Env}, putAll r is ds = some r' → r'.length = r.length
  | [], [], _, _, h => by simp only [putAll] at h; cases h; rfl
  | _ :: _, _ :: _, _, _, h => by simp only [putAll] at h; rw [putAll_length h]; simp [putS]
  | [], _ :: _, _, _, h => by cases h
  | _ :: _, [], _, _, h => by cases h
theorem own_put_sh {r : Env} {σ : St} {i : Nat} {d : D} {v : V} (hl : r.length = σ.length) {b : Addr} (h : Own (putS r i (.sh d)) (σ.set i (some v)) b) : Own r σ b := by
  obtain ⟨j, h1, h2⟩ := h
  rw [getS_put] at h1
  rw [vAt_set] at h2
  by_cases hj : i = j ∧ i < σ.length
  · rw [if_pos ⟨hj.1, by omega⟩] at h1; cases h1
  · rw [if_neg (by rw [hl]; exact hj)] at h1
    rw [if_neg hj] at h2
    exact ⟨j, h1, h2⟩
/-- what a target leaves: nothing more is owned -/
def TGo (K : PySem.W.Frag) (c : Cfg) (tg : Tg) (g : TG) : Prop := ∀ (v : V) (d : D) (r r' : Env) (σ : St) (F H : Hp) (Q : St → Hp → Prop), Stt K c r σ H F → Dn K F v d → bindT tg d r = some r' →
  (∀ σ', Stt K c r' σ' H F → (∀ i, i ∉ tgs tg → σ'[i]? = σ[i]?) → σ'.length = σ.length → (∀ b, Own r' σ' b → Own r σ b) → Q σ' H) → g v σ H Q
theorem to_name {K : PySem.W.Frag} {i : Nat} (hz : ZOk c [i] := by first | exact .inr (by decide) | exact .inl (by assumption)) : TGo K c (.name i) (gName i) := by
  intro v d r r' σ F H Q x q e h
  simp only [bindT] at e
  cases e
  refine h _ (x.put_sh hz q) (fun j hj => ?_) (List.length_set ..) fun b z => own_put_sh x.rel.len z
  rw [List.getElem?_set_ne (fun z => hj (by simp [tgs, z]))]
theorem to_names {K : PySem.W.Frag} : ∀ (is : List Nat) (hz : ZOk c is) (vs : List V) (ds : List D) (r r' : Env) (σ : St) (F H : Hp) (Q : St → Hp → Prop), Stt K c r σ H F → DpAll K F vs ds → putAll r is ds = some r' →
    (∀ σ', Stt K c r' σ' H F → (∀ i, i ∉ is → σ'[i]? = σ[i]?) → σ'.length = σ.length → (∀ b, Own r' σ' b → Own r σ b) → Q σ' H) → gNames is vs σ H Q
  | [], hz, vs, ds, r, r', σ, F, H, Q, x, q, e, h => by
    cases ds with
    | nil =>
      cases q
      simp only [putAll] at e
      cases e
      exact ⟨rfl, h σ x (fun _ _ => rfl) rfl fun _ z => z⟩
    | cons d ds => cases e
  | i :: is, hz, vs, ds, r, r', σ, F, H, Q, x, q, e, h => by
    cases ds with
    | nil => cases e
    | cons d ds =>
      cases q with
      | cons q1 q2 =>
        simp only [putAll] at e
        refine ⟨_, _, rfl, to_names is hz.tail _ _ _ _ _ F H Q (x.put_sh hz.head (Dn.of q1)) q2 e fun σ' x' k hl ow => h σ' x' (fun j hj => ?_) (hl.trans (List.length_set ..)) fun b z => own_put_sh x.rel.len (ow b z)⟩
        rw [k j (fun z => hj (List.mem_cons_of_mem _ z)), List.getElem?_set_ne (fun z => hj (by rw [z]; exact List.mem_cons_self))]
theorem to_tup {K : PySem.W.Frag} {is : List Nat} {n : Nat} (hn : is.length = n) (hz : ZOk c is := by first | exact .inr (by decide) | exact .inl (by assumption)) : TGo K c (.tup is) (gTup K n (gNames is)) := by
  intro v d r r' σ F H Q x q e h
  cases d with
  | tuple ds =>
    have q' : Dp K F v (.tuple ds) := q
    cases q' with
    | tup h1 h2 =>
      simp only [bindT] at e
      refine ⟨_, _, rfl, .inl (.inl (x.rel.same _ _ h1)), ?_, to_names is hz _ ds r r' σ F H Q x h2 e h⟩
      rw [dpa_len h2, putAll_len e, hn]
  | _ => cases e
theorem TGo.v {K : PySem.W.Frag} {t : Tg} {g : TG} (h : TGo K c t g) : TGv K c t g := fun v d r r' σ F H Q x q e f => h v d r r' σ F H Q x q e fun σ' x' k hl _ => f σ' x' (fun i hi => k i (by
  cases t with
  | name j => simpa [tgs] using hi
  | tup is => exact hi
  | lst is => exact hi)) hl
def OkL (K : PySem.W.Frag) (c : Cfg) (r : Env) (σ : St) (F H : Hp) (y : R (D × Env)) (Q : VK) : Prop :=
  match y with
  | .ok (.list ys, r') => ∀ (A : Addr) (vs : List V) (F' H' : Hp), Stt K c r' σ H' F' → Ef r σ F H F' H' → (∀ a, Own r' σ a → Own r σ a) → H' A = some (.lst vs) → F' A = none → ¬ Own r' σ A → DpAll K F' vs ys → (c.W.O0 A ∨ c.W.H0 A = none) → (∀ b o, H b = some o → ¬ Own r σ b → A ≠ b) → Q (.ref A) H'
  | .exc k => ∀ (F' H' : Hp), c.J H' → Same F' H' → Kp c.W F' H' → c.E (c.cl k) none H'
  | _ => False
def lcEnd (r1 : Env) (is : List Nat) (y : R (List D × Env)) : R (D × Env) := y.bind fun p => if p.1.length ≤ lim then .ok (.list p.1, backE p.2 r1 is) else .stuck
theorem den_lc (call : CallS) (is : List Nat) (t : Tg) (src cond elt : E) (r : Env) : den call (.lc is t src cond elt) r = (den call src r).bind fun (x, r1) => match x with
    | .list l => lcEnd r1 is (lcLoop (fun d r => bindT t d (wipeE r is)) (den call cond) (den call elt) l r1 [])
    | _ => .stuck := by
  simp only [den]
  cases den call src r with
  | ok p => obtain ⟨d, r1⟩ := p; cases d <;> rfl
  | exc k => rfl
  | stuck => rfl
theorem OkL.stuck_of {K : PySem.W.Frag} {r : Env} {σ : St} {F H : Hp} {Q : VK} {P : Prop} (h : OkL K c r σ F H .stuck Q) : P := h.elim
theorem bindT_len {t : Tg} {d : D} {r r' : Env} (h : bindT t d r = some r') : r'.length = r.length := by
  cases t with
  | name i => simp only [bindT] at h; cases h; simp [putS]
  | tup is =>
    cases d with
    | tuple ds => exact putAll_length h
    | _ => cases h
  | lst is =>
    cases d with
    | list ds => exact putAll_length h
    | _ => cases h
theorem lcLoop_acc {bind : D → Env → Option Env} {cond elt : Env → R (D × Env)} : ∀ {xs : List D} {r r2 : Env} {acc ys : List D}, lcLoop bind cond elt xs r acc = .ok (ys, r2) → acc.length ≤ ys.length
  | [], r, r2, acc, ys, h => by
    simp only [lcLoop] at h
    cases h
    rw [List.length_reverse]
    exact Nat.le_refl _
  | x :: xs, r, r2, acc, ys, h => by
    simp only [lcLoop] at h
    split at h
    · cases h
    · split at h
      · split at h
        · split at h
          · have := lcLoop_acc h
            rw [List.length_cons] at this
            omega
          · cases h
        · cases h
      · exact lcLoop_acc h
      · cases h
theorem lcLoop_exc {bind : D → Env → Option Env} {cond elt : Env → R (D × Env)} {k : Nat} : ∀ {xs : List D} {r : Env} {acc : List D}, lcLoop bind cond elt xs r acc ≠ .exc k
  | [], r, acc => by simp [lcLoop]
  | x :: xs, r, acc => by
    simp only [lcLoop]
    split
    · nofun
    · split
      · split
        · split
          · exact lcLoop_exc
          · nofun
        · nofun
      · exact lcLoop_exc
      · nofun
theorem lcLoop_lim {K : PySem.W.Frag} {r r1 r' : Env} {is : List Nat} {σ : St} {F H : Hp} {Q : VK} {bind : D → Env → Option Env} {cond elt : Env → R (D × Env)} {xs acc : List D} (h : OkL K c r σ F H (lcEnd r1 is (lcLoop bind cond elt xs r' acc)) Q) : acc.length ≤ lim := by
  cases e : lcLoop bind cond elt xs r' acc with
  | ok p =>
    obtain ⟨ys, r2⟩ := p
    rw [e] at h
    simp only [lcEnd, R.ok_bind] at h
    by_cases hl : ys.length ≤ lim
    · exact Nat.le_trans (lcLoop_acc e) hl
    · rw [if_neg hl] at h; exact h.elim
  | exc k => exact absurd e lcLoop_exc
  | stuck => rw [e] at h; exact h.elim
/-- what nobody owns and what is not frozen may be written -/
theorem Stt.poke {K : PySem.W.Frag} {r : Env} {σ : St} {H F : Hp} (x : Stt K c r σ H F) {p : Addr} {o o0 : HO} (h : H p = some o0) (mu0 : isMut o0) (mu : isMut o) (f : F p = none) (no : ¬ Own r σ p) (w : c.W.O0 p ∨ c.W.H0 p = none) : Stt K c r σ (upd H p o) F := by
  refine ⟨⟨x.rel.len, fun b u hb => ?_, fun i => ?_, x.rel.inj⟩, ?_, fun b u hb n => ?_, x.own, x.pin⟩
  · have nb : b ≠ p := fun z => by rw [z, f] at hb; cases hb
    rw [upd_ne nb]; exact x.rel.same b u hb
  · refine slot_same (Same.refl F) (fun b o1 o2 hf _ => ⟨hf, ?_⟩) (x.rel.ok i)
    have nb : b ≠ p := fun z => no ⟨i, o1, z ▸ o2⟩
    rw [upd_ne nb]
  · refine c.hJ H _ (fun b u hb => ?_) x.tie
    by_cases nb : b = p
    · subst nb; rw [h] at hb; cases hb; exact .inr mu0
    · rw [upd_ne nb]; exact .inl hb
  · have k := x.kp b u hb n
    have nb : b ≠ p := fun z => by
      rcases w with w | w
      · exact n (z ▸ w)
      · rw [← z, hb] at w; cases w
    rw [upd_ne nb]; exact k
/-- the block's loop -/
theorem tev_lc {K : PySem.W.Frag} {t : Tg} {g : TG} {src cond elt : E} {σ : St} {H : Hp} {Q : VK} (ht : TGo K (qt c) t g) {F : Hp} {r : Env} (x : Stt K c r σ H F)
    (hx : OkL K c r σ F H (den c.call (.lc (tgs t) t src cond elt) r) Q) : tLc (TIv K c src) g (TTv K (qt c) cond) (TEv K (qt c) elt) (tgs t) σ H Q := by
  rw [den_lc] at hx
  refine ⟨F, r, x, ?_⟩
  cases es : den c.call src r with
  | ok p =>
    obtain ⟨d, r1⟩ := p
    rw [es] at hx
    simp only [R.ok_bind] at hx
    cases d with
    | list items =>
      intro J F1 H1 x1 e1 s1 Y A nA
      simp only at hx
      have oA := x1.fresh nA
      have dA : ∀ b o, H b = some o → ¬ Own r σ b → A ≠ b := ef_ne e1 nA
      have nOw : ¬ Own (wipeE r1 (tgs t)) (wipe σ (tgs t)) A := fun z => by
        obtain ⟨i, q⟩ := z
        exact not_own x1.rel nA ⟨i, (own_wipe q).2⟩
      refine ⟨fun i k H2 => ∃ F' r' acc vs, Stt K (qt c) (wipeE r' (tgs t)) (wipe σ (tgs t)) H2 F' ∧ Ef (wipeE r1 (tgs t)) (wipe σ (tgs t)) F1 H1 F' H2 ∧ (∀ a, Own (wipeE r' (tgs t)) (wipe σ (tgs t)) a → Own (wipeE r1 (tgs t)) (wipe σ (tgs t)) a) ∧ r'.length = r1.length ∧ k = items.length - i ∧
          H2 A = some (.lst vs) ∧ F' A = none ∧ DpAll K F' vs acc.reverse ∧
          OkL K c r σ F H (lcEnd r1 (tgs t) (lcLoop (fun d r => bindT t d (wipeE r (tgs t))) (den c.call cond) (den c.call elt) (items.drop i) r' acc)) Q, ⟨_, F1, r1, [], [], ?_, ?_, fun _ z => z, rfl, rfl, upd_same, x1.rel.same.free nA, .nil, hx⟩, fun i k H2 hW => ?_⟩
      · exact (Grow.lay x1.rel.same nA).stt ((x1.quiet).wiped (tgs t)) (x1.jup nA)
      · exact (Grow.lay x1.rel.same nA).ef
      · obtain ⟨F', r', acc, vs, x2, ef2, ow2, hl2, ek, hA, fA, dA2, ok⟩ := hW
        have sF : Same F1 F' := ef2.same ((x1.wiped (tgs t)).rel)
        by_cases hi : i < items.length
        · refine .inr ⟨Y.go i H2 F' sF x2.rel.same hi, fun H3 => ∃ F' r' acc vs, Stt K (qt c) (wipeE r' (tgs t)) (wipe σ (tgs t)) H3 F' ∧ Ef (wipeE r1 (tgs t)) (wipe σ (tgs t)) F1 H1 F' H3 ∧ (∀ a, Own (wipeE r' (tgs t)) (wipe σ (tgs t)) a → Own (wipeE r1 (tgs t)) (wipe σ (tgs t)) a) ∧ r'.length = r1.length ∧
              H3 A = some (.lst vs) ∧ F' A = none ∧ DpAll K F' vs acc.reverse ∧
              OkL K c r σ F H (lcEnd r1 (tgs t) (lcLoop (fun d r => bindT t d (wipeE r (tgs t))) (den c.call cond) (den c.call elt) (items.drop (i + 1)) r' acc)) Q,
              fun H3 ⟨F3, r3, acc3, vs3, z1, z2, z3, z4, z5, z6, z7, z8⟩ => ⟨items.length - (i + 1), by omega, F3, r3, acc3, vs3, z1, z2, z3, z4, rfl, z5, z6, z7, z8⟩, fun v H3 y => ?_⟩
          obtain ⟨F3, g1, g2, g3, d, ed, qd⟩ := Y.yld i H2 F' v H3 hi sF x2.rel.same y
          obtain ⟨x3, ef3⟩ := x2.grown g1 g2 g3
          have ed' : items.drop i = d :: items.drop (i + 1) := by
            rw [List.getElem?_eq_getElem hi] at ed
            cases ed
            exact List.drop_eq_getElem_cons hi
          rw [ed'] at ok
          simp only [lcLoop] at ok
          cases eb : bindT t d (wipeE r' (tgs t)) with
          | none => rw [eb] at ok; exact ok.stuck_of
          | some r4 =>
            rw [eb] at ok
            simp only at ok
            refine ht v d _ r4 _ F3 H3 _ x3 qd eb fun σ4 x4 hk hlen ow4 => ⟨?_, ?_⟩
            · rw [wipe_same hk hlen, wipe_wipe]
            have hw4 : wipe σ4 (tgs t) = wipe σ (tgs t) := by rw [wipe_same hk hlen, wipe_wipe]
            have l4 : r4.length = r1.length := by rw [bindT_len eb, wipeE_len, hl2]
            have A3 : H3 A = some (.lst vs) := g1 _ _ hA
            have fA3 : F3 A = none := (g3 _ _ hA).trans fA
            have efA : Ef (wipeE r1 (tgs t)) (wipe σ (tgs t)) F1 H1 F3 H3 := ef2.transG ef3 ow2
            have own4 : ∀ b, Own r4 σ4 b → Own (wipeE r1 (tgs t)) (wipe σ (tgs t)) b := fun b z => ow2 b (ow4 b z)
            have nA4 : ∀ {r5 : Env}, (∀ b, Own r5 σ4 b → Own r4 σ4 b) → ¬ Own r5 σ4 A := fun h z => nOw (own4 _ (h _ z))
            -- a state with the names of the block, as the state between two turns
            have fin : ∀ {r5 : Env} {F5 H5 : Hp} {acc5 : List D} {vs5 : List V}, Stt K (qt c) r5 σ4 H5 F5 → Ef r4 σ4 F3 H3 F5 H5 → (∀ b, Own r5 σ4 b → Own r4 σ4 b) → r5.length = r1.length →
                Stt K (qt c) (wipeE r5 (tgs t)) (wipe σ (tgs t)) H5 F5 ∧ Ef (wipeE r1 (tgs t)) (wipe σ (tgs t)) F1 H1 F5 H5 ∧ (∀ a, Own (wipeE r5 (tgs t)) (wipe σ (tgs t)) a → Own (wipeE r1 (tgs t)) (wipe σ (tgs t)) a) := fun {r5 F5 H5 acc5 vs5} y1 y2 y3 y4 => by
              refine ⟨hw4 ▸ y1.wiped (tgs t), efA.transG y2 own4, fun b z => own4 b (y3 b ?_)⟩
              rw [← hw4] at z
              obtain ⟨j, z⟩ := z
              exact ⟨j, (own_wipe z).2⟩
            refine ⟨F3, r4, x4, ?_⟩
            cases ec : den c.call cond r4 with
            | ok p =>
              obtain ⟨dc, r5⟩ := p
              show OkE K (qt c) r4 σ4 F3 H3 (den c.call cond r4) _
              rw [ec] at ok ⊢
              intro u F5 H5 x5 e5 s5 q5
              have l5 : r5.length = r1.length := by rw [x5.rel.len, ← x4.rel.len, l4]
              have sF5 : Same F3 F5 := e5.same x4.rel
              have zA := e5 A _ A3 (nA4 fun _ z => z)
              cases dc with
              | bool kk =>
                refine ⟨kk, dn_bool q5, ?_⟩
                cases kk with
                | true =>
                  simp only at ok
                  refine iteT ⟨F5, r5, x5, ?_⟩
                  cases ee : den c.call elt r5 with
                  | ok p =>
                    obtain ⟨de, r6⟩ := p
                    show OkE K (qt c) r5 σ4 F5 H5 (den c.call elt r5) _
                    rw [ee] at ok ⊢
                    simp only at ok
                    intro w F6 H6 x6 e6 s6 q6
                    cases hn : nd de with
                    | false => rw [hn] at ok; exact ok.stuck_of
                    | true =>
                      rw [hn, if_pos rfl] at ok
                      have A5 : H5 A = some (.lst vs) := zA.2.mut trivial
                      have zA6 := e6 A _ A5 (nA4 s5)
                      have A6 : H6 A = some (.lst vs) := zA6.2.mut trivial
                      have fA6 : F6 A = none := zA6.1.trans (zA.1.trans fA3)
                      have sF6 : Same F5 F6 := e6.same x5.rel
                      have dvs : DpAll K F6 (vs ++ [w]) (de :: acc).reverse := by
                        rw [List.reverse_cons]
                        exact dpa_app (dpa_same (((Ef.same x2.rel ef3).trans sF5).trans sF6) _ _ dA2) (.cons (q6.dp (nd_of hn)) .nil)
                      refine ⟨vs, A6, ?_, ?_⟩
                      · have := lcLoop_lim ok
                        rw [List.length_cons] at this
                        have hv := dpa_len dA2
                        rw [List.length_reverse] at hv
                        rw [hv]
                        exact Nat.lt_of_lt_of_le (by omega) sizeLine_big
                      · have y6 := Stt.poke (o := .lst (vs ++ [w])) x6 A6 trivial trivial fA6 (nA4 fun b z => s5 b (s6 b z)) oA
                        have ef6 : Ef r4 σ4 F3 H3 F6 H6 := e5.trans e6 s5
                        obtain ⟨y1, y2, y3⟩ := fin (acc5 := acc) (vs5 := vs) x6 ef6 (fun b z => s5 b (s6 b z)) (by rw [x6.rel.len, ← x4.rel.len, l4])
                        have y1' := Stt.poke (o := .lst (vs ++ [w])) y1 A6 trivial trivial fA6 (fun z => nOw (y3 _ z)) oA
                        refine ⟨F6, r6, de :: acc, vs ++ [w], y1', fun b o hb nb => ?_, y3, by rw [x6.rel.len, ← x4.rel.len, l4], upd_same, fA6, dvs, ok⟩
                        have nb' : b ≠ A := ne_of_none hb nA
                        rw [upd_ne nb']
                        exact y2 b o hb nb
                  | exc k => rw [ee] at ok; exact ok.stuck_of
                  | stuck => rw [ee] at ok; exact ok.stuck_of
                | false =>
                  refine iteF ?_
                  simp only at ok
                  obtain ⟨y1, y2, y3⟩ := fin (acc5 := acc) (vs5 := vs) x5 e5 s5 l5
                  exact ⟨F5, r5, acc, vs, y1, y2, y3, l5, zA.2.mut trivial, zA.1.trans fA3, dpa_same ((Ef.same x2.rel ef3).trans sF5) _ _ dA2, ok⟩
              | none => exact ok.stuck_of
              | int _ => exact ok.stuck_of
              | str _ => exact ok.stuck_of
              | list _ => exact ok.stuck_of
              | tuple _ => exact ok.stuck_of
              | dict _ => exact ok.stuck_of
            | exc k => rw [ec] at ok; exact ok.stuck_of
            | stuck => rw [ec] at ok; exact ok.stuck_of
        · refine .inl ⟨Y.stop i H2 F' sF x2.rel.same (by omega), ?_⟩
          rw [List.drop_eq_nil_of_le (by omega)] at ok
          simp only [lcLoop, lcEnd, R.ok_bind] at ok
          by_cases hlim : acc.reverse.length ≤ lim
          · rw [if_pos hlim] at ok
            obtain ⟨y1, y2, y3⟩ := Stt.back x1 x2.loud ef2 hl2 ow2
            refine ok A vs F' H2 y1 (e1.trans y2 s1) (fun a z => s1 a (y3 a z)) hA fA (fun z => ?_) dA2 oA dA
            exact not_own x1.rel nA (y3 A z)
          · rw [if_neg hlim] at ok; exact ok.stuck_of
    | none => exact hx.elim
    | bool _ => exact hx.elim
    | int _ => exact hx.elim
    | str _ => exact hx.elim
    | tuple _ => exact hx.elim
    | dict _ => exact hx.elim
  | exc k => rw [es] at hx; exact hx
  | stuck => rw [es] at hx; exact hx
theorem lc_list_of {is : List Nat} {t : Tg} {src cnd el : E} {r r' : Env} {d : D} (h : den c.call (.lc is t src cnd el) r = .ok (d, r')) : ∃ ys, d = .list ys := by
  rw [den_lc] at h
  cases es : den c.call src r with
  | ok p =>
    obtain ⟨ds, r1⟩ := p
    rw [es] at h
    simp only [R.ok_bind] at h
    cases ds with
    | list l =>
      simp only [lcEnd] at h
      cases el2 : lcLoop (fun d r => bindT t d (wipeE r is)) (den c.call cnd) (den c.call el) l r1 [] with
      | ok p =>
        rw [el2] at h
        simp only [R.ok_bind] at h
        by_cases hl : p.1.length ≤ lim
        · rw [if_pos hl] at h; cases h; exact ⟨_, rfl⟩
        · rw [if_neg hl] at h; cases h
      | exc k => rw [el2] at h; cases h
      | stuck => rw [el2] at h; cases h
    | none => cases h
    | bool _ => cases h
    | int _ => cases h
    | str _ => cases h
    | tuple _ => cases h
    | dict _ => cases h
  | exc k => rw [es] at h; cases h
  | stuck => rw [es] at h; cases h
/-- [elt for tg in iter if ..] -/
theorem sv_lc {elt iter : Expr} {ifs : List Expr} {scope : Scope} {own : List (Str × Nat)} {t : Tg} {g : TG} {src cnd el : E} (hc : X.calm = true) (hN : X.N.Nodup) (hi : PI X tg iter (TIv X.K c src)) (ok : BlkOk X.N X.env.scope scope own) (ht : TGo X.K (qt c) t g) (ho : own.map (·.2) = tgs t)
    (hg : ∀ (s : Shared) (H : Hp) (C : Addr) (cl : List (Str × Addr)) (fp : List Addr), PG (X.blk s H scope (compEnvC scope cl C X.env) fp) tg g)
    (hif : ∀ (s : Shared) (H : Hp) (C : Addr) (cl : List (Str × Addr)) (fp : List Addr), PTs (X.blk s H scope (compEnvC scope cl C X.env) fp) ifs (TTv X.K (qt c) cnd))
    (he : ∀ (s : Shared) (H : Hp) (C : Addr) (cl : List (Str × Addr)) (fp : List Addr), PE (X.blk s H scope (compEnvC scope cl C X.env) fp) elt (TEv X.K (qt c) el)) (hs : ∀ x, foldedSetIterable iter X.env x = pure x := by intro _; rfl) :
    PE X (.ListComp elt [⟨tg, iter, ifs, 0⟩] scope pos) (TEv X.K c (.lc (tgs t) t src cnd el)) := by
  refine PE.mono (pe_lc hc hN hi ok hg hif he hs) fun σ H Q ⟨F, r, x, h⟩ => ?_
  rw [ho]
  refine tev_lc ht x ?_
  cases ed : den c.call (.lc (tgs t) t src cnd el) r with
  | ok p =>
    obtain ⟨d, r'⟩ := p
    rw [ed] at h
    obtain ⟨ys, rfl⟩ := lc_list_of ed
    · intro A vs F' H' x' ef ow hA fA nO dA oA dD
      refine h (.ref A) (upd F' A (.lst vs)) H' ?_ ?_ ow (Dp.lst upd_same (dpa_same (same_upd fA) _ _ dA))
      · refine ⟨⟨x'.rel.len, fun b o hb => ?_, fun i => ?_, x'.rel.inj⟩, x'.tie, fun b o hb n => ?_, x'.own, x'.pin⟩
        · by_cases hbA : b = A
          · subst hbA; rw [upd_same] at hb; cases hb; exact hA
          · rw [upd_ne hbA] at hb; exact x'.rel.same b o hb
        · refine slot_same (same_upd fA) (fun b o1 o2 hf _ => ⟨?_, rfl⟩) (x'.rel.ok i)
          rw [upd_ne (fun (z : b = A) => nO ⟨i, o1, z ▸ o2⟩)]; exact hf
        · have k := x'.kp b o hb n
          refine ⟨?_, k.2⟩
          rw [upd_ne (fun z => ?_)]
          · exact k.1
          · rcases oA with w | w
            · exact n (by rw [z]; exact w)
            · rw [← z, hb] at w; cases w
      · intro b o hb nb
        have k := ef b o hb nb
        refine ⟨?_, k.2⟩
        rw [upd_ne (fun z => dD b o hb nb z.symm)]; exact k.1
  | exc k => rw [ed] at h; exact h
  | stuck => rw [ed] at h; exact h
/-- .. held as a new list -/
theorem okL_of {K : PySem.W.Frag} {is : List Nat} {t : Tg} {src cnd el : E} {r : Env} {σ : St} {F H : Hp} {Q : VK} (h : OkF K c 1 r σ F H (den c.call (.lc is t src cnd el) r) Q) : OkL K c r σ F H (den c.call (.lc is t src cnd el) r) Q := by
  cases ed : den c.call (.lc is t src cnd el) r with
  | ok p =>
    obtain ⟨d, r'⟩ := p
    rw [ed] at h
    obtain ⟨ys, rfl⟩ := lc_list_of ed
    intro A vs F' H' x' ef ow hA fA nO dA oA dD
    exact h (.ref A) F' H' x' ef ow ⟨A, rfl, fA, nO, vs, ys, rfl, hA, dA⟩ fun a k _ ev => by
      cases ev
      exact ⟨oA, dD⟩
  | exc k => rw [ed] at h; exact h
  | stuck => rw [ed] at h; exact h
theorem sf_lc {elt iter : Expr} {ifs : List Expr} {scope : Scope} {own : List (Str × Nat)} {t : Tg} {g : TG} {src cnd el : E} (hc : X.calm = true) (hN : X.N.Nodup) (hi : PI X tg iter (TIv X.K c src)) (ok : BlkOk X.N X.env.scope scope own) (ht : TGo X.K (qt c) t g) (ho : own.map (·.2) = tgs t)
    (hg : ∀ (s : Shared) (H : Hp) (C : Addr) (cl : List (Str × Addr)) (fp : List Addr), PG (X.blk s H scope (compEnvC scope cl C X.env) fp) tg g)
    (hif : ∀ (s : Shared) (H : Hp) (C : Addr) (cl : List (Str × Addr)) (fp : List Addr), PTs (X.blk s H scope (compEnvC scope cl C X.env) fp) ifs (TTv X.K (qt c) cnd))
    (he : ∀ (s : Shared) (H : Hp) (C : Addr) (cl : List (Str × Addr)) (fp : List Addr), PE (X.blk s H scope (compEnvC scope cl C X.env) fp) elt (TEv X.K (qt c) el)) (hs : ∀ x, foldedSetIterable iter X.env x = pure x := by intro _; rfl) :
    PE X (.ListComp elt [⟨tg, iter, ifs, 0⟩] scope pos) (TEf X.K c 1 (.lc (tgs t) t src cnd el)) := by
  refine PE.mono (pe_lc hc hN hi ok hg hif he hs) fun σ H Q ⟨F, r, x, h⟩ => ?_
  rw [ho]
  exact tev_lc ht x (okL_of h)
/-- y = [elt for ..], the store within the block -/
theorem ss_lcM {i : Nat} {y : Str} {py spos : Pos} {elt iter : Expr} {ifs : List Expr} {scope : Scope} {own : List (Str × Nat)} {t : Tg} {g : TG} {src cnd el : E} (hc : X.calm = true) (hN : X.N.Nodup) (hy : X.N[i]? = some y) (hyl : X.env.scope.names.lookup y = some .local)
    (hsw : swapsWith (.ListComp elt [⟨tg, iter, ifs, 0⟩] scope pos) (some (.Name y py)) spos.line X.env = pure true) (hi : PI X tg iter (TIv X.K c src)) (ok : BlkOk X.N X.env.scope scope own) (ht : TGo X.K (qt c) t g) (ho : own.map (·.2) = tgs t)
    (hg : ∀ (s : Shared) (H : Hp) (C : Addr) (cl : List (Str × Addr)) (fp : List Addr), PG (X.blk s H scope (compEnvC scope cl C X.env) fp) tg g)
    (hif : ∀ (s : Shared) (H : Hp) (C : Addr) (cl : List (Str × Addr)) (fp : List Addr), PTs (X.blk s H scope (compEnvC scope cl C X.env) fp) ifs (TTv X.K (qt c) cnd))
    (he : ∀ (s : Shared) (H : Hp) (C : Addr) (cl : List (Str × Addr)) (fp : List Addr), PE (X.blk s H scope (compEnvC scope cl C X.env) fp) elt (TEv X.K (qt c) el)) (hs : ∀ x, foldedSetIterable iter X.env x = pure x := by intro _; rfl) (hz : ZOk c [i] := by first | exact .inr (by decide) | exact .inl (by assumption)) :
    PS X (.Assign [.Name y py] (.ListComp elt [⟨tg, iter, ifs, 0⟩] scope pos) spos) (TSv X.K c (.asgM i 1 (.lc (tgs t) t src cnd el))) := by
  refine PS.mono (ps_setLc hc hN hy hyl hsw hi ok hg hif he hs) fun D σ H ⟨F, r, x, h⟩ => ?_
  show tLc _ _ _ _ _ σ H _
  rw [ho]
  refine tev_lc ht x ?_
  rw [denS_asgM] at h
  cases ed : den c.call (.lc (tgs t) t src cnd el) r with
  | ok p =>
    obtain ⟨d, r'⟩ := p
    rw [ed] at h
    obtain ⟨ys, rfl⟩ := lc_list_of ed
    simp only [slotM] at h
    intro A vs F' H' x' ef ow hA fA nO dA oA dD
    have fr : FrOk X.K r' σ F' H' 1 (.ref A) (.list ys) := ⟨A, rfl, fA, nO, vs, ys, rfl, hA, dA⟩
    exact h _ H' F' (x'.putF hz fr (fun a k _ ev => by cases ev; exact oA) rfl) (ef.same x.rel)
  | exc k => rw [ed] at h; exact h
  | stuck => rw [ed] at h; exact h
/-- .. shared -/
theorem Stt.frz1 {K : PySem.W.Frag} {r : Env} {σ : St} {H F : Hp} (x : Stt K c r σ H F) {A : Addr} {vs : List V} {l : List D} (hA : H A = some (.lst vs)) (fA : F A = none) (nO : ¬ Own r σ A) (oA : c.W.O0 A ∨ c.W.H0 A = none) (dA : DpAll K F vs l) :
    Stt K c r σ H (upd F A (.lst vs)) ∧ Same F (upd F A (.lst vs)) ∧ Dn K (upd F A (.lst vs)) (.ref A) (.list l) := by
  refine ⟨⟨⟨x.rel.len, fun b o hb => ?_, fun i => ?_, x.rel.inj⟩, x.tie, fun b o hb n => ?_, x.own, x.pin⟩, same_upd fA, Dp.lst upd_same (dpa_same (same_upd fA) _ _ dA)⟩
  · by_cases hbA : b = A
    · subst hbA; rw [upd_same] at hb; cases hb; exact hA
    · rw [upd_ne hbA] at hb; exact x.rel.same b o hb
  · refine slot_same (same_upd fA) (fun b o1 o2 hf _ => ⟨?_, rfl⟩) (x.rel.ok i)
    rw [upd_ne (fun (z : b = A) => nO ⟨i, o1, z ▸ o2⟩)]; exact hf
  · have k := x.kp b o hb n
    refine ⟨?_, k.2⟩
    rw [upd_ne (fun z => ?_)]
    · exact k.1
    · rcases oA with w | w
      · exact n (by rw [z]; exact w)
      · rw [← z, hb] at w; cases w
theorem ss_lcS {i : Nat} {y : Str} {py spos : Pos} {elt iter : Expr} {ifs : List Expr} {scope : Scope} {own : List (Str × Nat)} {t : Tg} {g : TG} {src cnd el : E} (hc : X.calm = true) (hN : X.N.Nodup) (hy : X.N[i]? = some y) (hyl : X.env.scope.names.lookup y = some .local)
    (hsw : swapsWith (.ListComp elt [⟨tg, iter, ifs, 0⟩] scope pos) (some (.Name y py)) spos.line X.env = pure true) (hi : PI X tg iter (TIv X.K c src)) (ok : BlkOk X.N X.env.scope scope own) (ht : TGo X.K (qt c) t g) (ho : own.map (·.2) = tgs t)
    (hg : ∀ (s : Shared) (H : Hp) (C : Addr) (cl : List (Str × Addr)) (fp : List Addr), PG (X.blk s H scope (compEnvC scope cl C X.env) fp) tg g)
    (hif : ∀ (s : Shared) (H : Hp) (C : Addr) (cl : List (Str × Addr)) (fp : List Addr), PTs (X.blk s H scope (compEnvC scope cl C X.env) fp) ifs (TTv X.K (qt c) cnd))
    (he : ∀ (s : Shared) (H : Hp) (C : Addr) (cl : List (Str × Addr)) (fp : List Addr), PE (X.blk s H scope (compEnvC scope cl C X.env) fp) elt (TEv X.K (qt c) el)) (hs : ∀ x, foldedSetIterable iter X.env x = pure x := by intro _; rfl) (hz : ZOk c [i] := by first | exact .inr (by decide) | exact .inl (by assumption)) :
    PS X (.Assign [.Name y py] (.ListComp elt [⟨tg, iter, ifs, 0⟩] scope pos) spos) (TSv X.K c (.asg (.name i) (.lc (tgs t) t src cnd el))) := by
  refine PS.mono (ps_setLc hc hN hy hyl hsw hi ok hg hif he hs) fun D σ H ⟨F, r, x, h⟩ => ?_
  show tLc _ _ _ _ _ σ H _
  rw [ho]
  refine tev_lc ht x ?_
  rw [denS_asg] at h
  cases ed : den c.call (.lc (tgs t) t src cnd el) r with
  | ok p =>
    obtain ⟨d, r'⟩ := p
    rw [ed] at h
    obtain ⟨ys, rfl⟩ := lc_list_of ed
    simp only [bindT] at h
    intro A vs F' H' x' ef ow hA fA nO dA oA dD
    obtain ⟨y1, y2, y3⟩ := x'.frz1 hA fA nO oA dA
    exact h _ H' _ (y1.put_sh hz y3) ((ef.same x.rel).trans y2)
  | exc k => rw [ed] at h; exact h
  | stuck => rw [ed] at h; exact h
end
end Bm
end
section
set_option Elab.async false
set_option linter.all false
set_option maxRecDepth 100000
set_option maxHeartbeats 1000000
namespace Bm
open PySem PySem.Spec L2
theorem sto_ok {K : PySem.W.Frag} {c : Cfg} {i k : Nat} {r r' : Env} {σ : St} {H F : Hp} (x : Stt K c r σ H F) {v : V} {d : D} (q : Dp K F v d) (e : sto i k d r = some r') {Q : St → Hp → Prop} (h : ∀ H', Stt K c r' σ H' F → Q σ H') : gSub (tVar i) (tVar k) rSetL v σ H Q := by
  unfold sto at e
  split at e
  · rename_i l j ei ek
    cases ep : ixOf l.length j with
    | none => rw [ep] at e; cases e
    | some p =>
      rw [ep] at e
      cases e
      have z := x.rel.ok i
      rw [ei] at z
      obtain ⟨a1, ws, z1, z2, z3, z4⟩ := z
      have y := x.rel.ok k
      rw [ek] at y
      obtain ⟨u, y1, y2⟩ := y
      have eu : u = .int j := by
        have q2' : Dp K F u (.int j) := y2
        cases q2'; rfl
      subst eu
      refine ⟨.ref a1, vAt_some z1, .int j, vAt_some y1, a1, ws, j, p, rfl, rfl, z3, ?_, ?_⟩
      · rw [dpa_len z4, ← ixOf_N]; exact ep
      · exact h _ (x.write (i := i) ⟨by rw [ei]; rfl, z1⟩ trivial ⟨a1, ws.set p v, rfl, z2, upd_same, dpa_set q p z4⟩ rfl)
  · cases e
section
variable {X : Cx} {c : Cfg} {e : Expr} {a : E} {pos : Pos}
theorem ss_sto2 {i k1 k2 : Nat} {x y1 y2 : Str} {px px2 p1 p2 tp1 tp2 pt : Pos} {kt : Nat} (he : PE X e (TEv X.K c a))
    (hg : PG X (.Tuple [.Subscript (.Name x px) (.Name y1 p1) tp1, .Subscript (.Name x px2) (.Name y2 p2) tp2] kt pt) (gTup X.K 2 (gCons (gSub (tVar i) (tVar k1) rSetL) (gCons (gSub (tVar i) (tVar k2) rSetL) gNil))))
    (hs : swapsWithSole [.Tuple [.Subscript (.Name x px) (.Name y1 p1) tp1, .Subscript (.Name x px2) (.Name y2 p2) tp2] kt pt] e pos.line X.env = pure false := by rfl) (hw : swappedStores [.Tuple [.Subscript (.Name x px) (.Name y1 p1) tp1, .Subscript (.Name x px2) (.Name y2 p2) tp2] kt pt] e X.env = pure none := by rfl)
    (h1 : (assignEach [.Tuple [.Subscript (.Name x px) (.Name y1 p1) tp1, .Subscript (.Name x px2) (.Name y2 p2) tp2] kt pt] X.env).map (·.2) = [assign (.Tuple [.Subscript (.Name x px) (.Name y1 p1) tp1, .Subscript (.Name x px2) (.Name y2 p2) tp2] kt pt) X.env] := by rfl) :
    PS X (.Assign [.Tuple [.Subscript (.Name x px) (.Name y1 p1) tp1, .Subscript (.Name x px2) (.Name y2 p2) tp2] kt pt] e pos) (TSv X.K c (.sto2 i k1 k2 a)) := by
  refine PS.mono (ps_asg he hg hs hw h1) fun D σ H ⟨F, r, x, h⟩ => ⟨F, r, x, ?_⟩
  simp only [denS] at h
  cases ed : den c.call a r with
  | exc k => rw [ed] at h; exact h
  | stuck => rw [ed] at h; exact h
  | ok p =>
    obtain ⟨d, r1⟩ := p
    rw [ed] at h
    intro v F1 H1 x1 e1 s1 q1
    cases d with
    | tuple ds =>
      match ds with
      | [d1, d2] =>
        simp only at h
        cases hd : nd d1 && nd d2 with
        | false => rw [hd] at h; exact h.elim
        | true =>
          rw [hd, if_pos rfl] at h
          obtain ⟨n1, n2⟩ := Bool.and_eq_true_iff.mp hd
          cases g1 : sto i k1 d1 r1 with
          | none => rw [g1] at h; exact h.elim
          | some r2 =>
            rw [g1] at h
            simp only [Option.bind_some] at h
            cases g2 : sto i k2 d2 r2 with
            | none => rw [g2] at h; exact h.elim
            | some r3 =>
              rw [g2] at h
              have q' : Dp X.K F1 v (.tuple [d1, d2]) := q1
              cases q' with
              | tup t1 t2 =>
                match t2 with
                | .cons w1 (.cons w2 .nil) =>
                  refine ⟨_, _, rfl, .inl (.inl (x1.rel.same _ _ t1)), rfl, _, _, rfl, sto_ok x1 w1 g1 fun H2 x2 => ⟨_, _, rfl, sto_ok x2 w2 g2 fun H3 x3 => ⟨rfl, ?_⟩⟩⟩
                  exact h σ H3 F1 x3 (e1.same x.rel)
      | [] => exact h.elim
      | [_] => exact h.elim
      | _ :: _ :: _ :: _ => exact h.elim
    | none => exact h.elim
    | bool _ => exact h.elim
    | int _ => exact h.elim
    | str _ => exact h.elim
    | list _ => exact h.elim
    | dict _ => exact h.elim
end
end Bm
end
section
set_option Elab.async false
set_option linter.all false
set_option maxRecDepth 100000
set_option maxHeartbeats 1000000
/-! The operations: their rules from the data. -/
namespace Bm
open PySem PySem.Spec L2

/-- what an operation that gives a scalar, or lays a new object, has to show -/
abbrev Wish (K : PySem.W.Frag) (F H : Hp) (d : D) (Q : VK) : Prop := ∀ (v : V) (F' H' : Hp), Same H H' → Same F' H' → (∀ b u, H b = some u → F' b = F b) → Dn K F' v d → Q v H'
theorem Wish.here {K : PySem.W.Frag} {F H : Hp} {d : D} {Q : VK} (w : Wish K F H d Q) (s : Same F H) {v : V} (h : Dn K F v d) : Q v H := w v F H (Same.refl _) s (fun _ _ _ => rfl) h
theorem Wish.lay {K : PySem.W.Frag} {F H : Hp} {d : D} {Q : VK} (w : Wish K F H d Q) (s : Same F H) {p : Addr} {o : HO} (np : H p = none) (h : Dn K (upd F p o) (.ref p) d) : Q (.ref p) (upd H p o) :=
  w _ (upd F p o) (upd H p o) (same_upd np) (Grow.alloc s np).same (fun b u hb => upd_ne (ne_of_none hb np)) h
theorem Wish.lst {K : PySem.W.Frag} {F H : Hp} {l : List D} {Q : VK} (w : Wish K F H (.list l) Q) (s : Same F H) {p : Addr} {vs : List V} (np : H p = none) (h : DpAll K F vs l) : Q (.ref p) (upd H p (.lst vs)) :=
  w.lay s np (Dp.lst upd_same (dpa_same (same_upd (s.free np)) _ _ h))
theorem Wish.tup {K : PySem.W.Frag} {F H : Hp} {l : List D} {Q : VK} (w : Wish K F H (.tuple l) Q) (s : Same F H) {p : Addr} {vs : List V} (np : H p = none) (h : DpAll K F vs l) : Q (.ref p) (upd H p (.tup vs)) :=
  w.lay s np (Dp.tup upd_same (dpa_same (same_upd (s.free np)) _ _ h))
theorem guardO_some {α : Type} {b : Bool} {x : Option α} {a : α} (h : guardO b x = some a) : b = true ∧ x = some a := by
  unfold guardO at h
  cases b with
  | true => exact ⟨rfl, h⟩
  | false => cases h
theorem dn_str {K : PySem.W.Frag} {F : Hp} {v : V} {z : Str} (h : Dn K F v (.str z)) : v = .str z := by
  have h' : Dp K F v (.str z) := h
  cases h'; rfl
theorem dn_list {K : PySem.W.Frag} {F : Hp} {v : V} {l : List D} (h : Dn K F v (.list l)) : ∃ a vs, v = .ref a ∧ F a = some (.lst vs) ∧ DpAll K F vs l := by
  have h' : Dp K F v (.list l) := h
  cases h' with | lst h1 h2 => exact ⟨_, _, rfl, h1, h2⟩
theorem dn_tuple {K : PySem.W.Frag} {F : Hp} {v : V} {l : List D} (h : Dn K F v (.tuple l)) : ∃ a vs, v = .ref a ∧ F a = some (.tup vs) ∧ DpAll K F vs l := by
  have h' : Dp K F v (.tuple l) := h
  cases h' with | tup h1 h2 => exact ⟨_, _, rfl, h1, h2⟩
theorem len_toL (s : Str) : (toL s).length = s.length := by simp [toL, Str.length]
theorem st_app (a b : Str) : st (toL a ++ toL b) = a ++ b := by
  cases a; cases b
  show Str.mk _ = Str.append _ _
  unfold Str.append
  simp [toL]
theorem lim_line {n : Nat} (h : n ≤ lim) : n ≤ sizeLine := Nat.le_trans h sizeLine_big
/-- two operands: the shape of OpS -/
theorem ops2 {K : PySem.W.Frag} {o : Op} {rr : R2} (h : ∀ (d1 d2 d : D) (x y : V) (F H : Hp) (Q : VK), Same F H → Dn K F x d1 → Dn K F y d2 → opD o [d1, d2] = some d → Wish K F H d Q → rr x y H Q)
    (n : ∀ l, l.length ≠ 2 → opD o l = none) : OpS K o fun vs H Q => ∃ x y, vs = [x, y] ∧ rr x y H Q := by
  intro ds d vs F H Q s q e w
  match ds, q with
  | [d1, d2], .cons q1 (.cons q2 .nil) => exact ⟨_, _, rfl, h d1 d2 d _ _ F H Q s q1 q2 e w⟩
  | [], _ => rw [n [] (by simp)] at e; cases e
  | [_], _ => rw [n _ (by simp)] at e; cases e
  | _ :: _ :: _ :: _, _ => rw [n _ (by simp)] at e; cases e
theorem ops1 {K : PySem.W.Frag} {o : Op} {rr : List V → Hp → VK → Prop} (h : ∀ (d1 d : D) (x : V) (F H : Hp) (Q : VK), Same F H → Dn K F x d1 → opD o [d1] = some d → Wish K F H d Q → rr [x] H Q)
    (n : ∀ l, l.length ≠ 1 → opD o l = none) : OpS K o rr := by
  intro ds d vs F H Q s q e w
  match ds, q with
  | [d1], .cons q1 .nil => exact h d1 d _ F H Q s q1 e w
  | [], _ => rw [n [] (by simp)] at e; cases e
  | _ :: _ :: _, _ => rw [n _ (by simp)] at e; cases e
section
variable {X : Cx} {c : Cfg} {e e1 e2 e3 : Expr} {es : List Expr} {a b m : E} {pos : Pos}
def rAddA (K : PySem.W.Frag) : R2 := fun x y H Q => (rI0 fun i j => .int (i + j)) x y H Q ∨ (∃ i j, x = .str i ∧ y = .str j ∧ i.length + j.length ≤ sizeLine ∧ Q (.str (i ++ j)) H) ∨ rCat x y H Q ∨ rCatA K x y H Q
theorem op_addA : OpR X (binaryOp .Add) (rAddA X.K) := op_add.or (op_add_str.or (op_cat.or op_catA))
theorem os_add {K : PySem.W.Frag} : OpS K .add fun vs H Q => ∃ x y, vs = [x, y] ∧ rAddA K x y H Q := by
  refine ops2 (fun d1 d2 d x y F H Q s q1 q2 e w => ?_) (fun l hl => ?_)
  · cases d1 with
    | int i =>
      cases d2 with
      | int j =>
        simp only [opD, dop_add] at e; cases e
        have h1 := dn_int q1; have h2 := dn_int q2
        subst h1; subst h2
        exact .inl ⟨i, j, rfl, rfl, w.here s (Dp.int _)⟩
      | _ => cases e
    | str i =>
      cases d2 with
      | str j =>
        simp only [opD, dop_add] at e
        obtain ⟨hl, e⟩ := guardO_some e
        cases e
        have h1 := dn_str q1; have h2 := dn_str q2
        subst h1; subst h2
        rw [decide_eq_true_eq, len_toL, len_toL] at hl
        refine .inr (.inl ⟨i, j, rfl, rfl, lim_line hl, w.here s ?_⟩)
        rw [show dS (toL i ++ toL j) = .str (i ++ j) by unfold dS; rw [st_app]]
        exact Dp.str _
      | _ => cases e
    | list i =>
      cases d2 with
      | list j =>
        simp only [opD, dop_add] at e
        obtain ⟨hl, e⟩ := guardO_some e
        cases e
        obtain ⟨a1, vs, rfl, h1, h2⟩ := dn_list q1
        obtain ⟨a2, us, rfl, h3, h4⟩ := dn_list q2
        rw [decide_eq_true_eq, ← dpa_len h2, ← dpa_len h4] at hl
        exact .inr (.inr (.inl ⟨a1, a2, vs, us, rfl, rfl, s _ _ h1, s _ _ h3, lim_line hl, fun p np => w.lst s np (dpa_app h2 h4)⟩))
      | _ => cases e
    | tuple i =>
      cases d2 with
      | tuple j =>
        simp only [opD, dop_add] at e
        obtain ⟨hl, e⟩ := guardO_some e
        cases e
        obtain ⟨a1, vs, rfl, h1, h2⟩ := dn_tuple q1
        obtain ⟨a2, us, rfl, h3, h4⟩ := dn_tuple q2
        rw [decide_eq_true_eq, ← dpa_len h2, ← dpa_len h4] at hl
        refine .inr (.inr (.inr ⟨a1, a2, vs, us, rfl, rfl, .inl (.inl (s _ _ h1)), .inl (.inl (s _ _ h3)), lim_line hl, fun z => ?_, fun _ z => ?_, fun _ _ p np => w.tup s np (dpa_app h2 h4)⟩))
        · subst z; cases h2
          exact w.here s q2
        · subst z; cases h4
          rw [List.append_nil] at w
          exact w.here s q1
      | _ => cases e
    | _ => cases e
  · match l, hl with
    | [], _ => rfl
    | [x], _ => cases x <;> rfl
    | x :: y :: z :: r, _ => cases x <;> cases y <;> rfl
    | [_, _], h => exact absurd rfl h
theorem sv_add (ha : PE X e1 (TEv X.K c a)) (hb : PE X e2 (TEv X.K c b)) : PE X (.BinOp e1 .Add e2 pos) (TEv X.K c (.op .add (.cons a (.cons b .nil)))) := sv_bin os_add op_addA ha hb
/-- ints alone -/
theorem os_int2 {K : PySem.W.Frag} {o : Op} {C : Int → Int → Prop} {f : Int → Int → Int} (h : ∀ l d, opD o l = some d → ∃ i j, l = [.int i, .int j] ∧ d = .int (f i j) ∧ C i j) : OpS K o fun vs H Q => ∃ x y, vs = [x, y] ∧ (rI C fun i j => .int (f i j)) x y H Q := by
  intro ds d vs F H Q s q e w
  obtain ⟨i, j, rfl, rfl, hC⟩ := h ds d e
  match q with
  | .cons q1 (.cons q2 .nil) =>
    have h1 := dn_int q1; have h2 := dn_int q2
    subst h1; subst h2
    exact ⟨_, _, rfl, i, j, rfl, rfl, hC, Wish.here w s (Dp.int _)⟩
theorem os_cmp2 {K : PySem.W.Frag} {o : Op} {f : Int → Int → Bool} (h : ∀ l d, opD o l = some d → ∃ i j, l = [.int i, .int j] ∧ d = .bool (f i j)) : OpS K o fun vs H Q => ∃ x y, vs = [x, y] ∧ (rI0 fun i j => .bl (f i j)) x y H Q := by
  intro ds d vs F H Q s q e w
  obtain ⟨i, j, rfl, rfl⟩ := h ds d e
  match q with
  | .cons q1 (.cons q2 .nil) =>
    have h1 := dn_int q1; have h2 := dn_int q2
    subst h1; subst h2
    exact ⟨_, _, rfl, i, j, rfl, rfl, Wish.here w s (Dp.bl _)⟩
theorem op_subT : OpR X (binaryOp .Sub) (rI (fun _ _ => True) fun i j => .int (i - j)) := opI fun _ _ _ _ _ _ _ _ q => PyProof.Rows.sub_int q
theorem sub_of {l : List D} {d : D} (h : opD .sub l = some d) : ∃ i j, l = [.int i, .int j] ∧ d = .int (i - j) ∧ True := by
  simp only [opD] at h
  unfold dop_sub at h
  split at h
  · cases h; exact ⟨_, _, rfl, rfl, trivial⟩
  · cases h
theorem sv_sub (ha : PE X e1 (TEv X.K c a)) (hb : PE X e2 (TEv X.K c b)) : PE X (.BinOp e1 .Sub e2 pos) (TEv X.K c (.op .sub (.cons a (.cons b .nil)))) := sv_bin (os_int2 fun _ _ h => sub_of h) op_subT ha hb
theorem mod_of {l : List D} {d : D} (h : opD .mod l = some d) : ∃ i j, l = [.int i, .int j] ∧ d = .int (i % j) ∧ 0 < j := by
  simp only [opD] at h
  unfold dop_mod at h
  split at h
  · obtain ⟨h1, h2⟩ := guardO_some h
    cases h2
    exact ⟨_, _, rfl, rfl, of_decide_eq_true h1⟩
  · cases h
theorem sv_mod (ha : PE X e1 (TEv X.K c a)) (hb : PE X e2 (TEv X.K c b)) : PE X (.BinOp e1 .Mod e2 pos) (TEv X.K c (.op .mod (.cons a (.cons b .nil)))) := sv_bin (os_int2 (C := fun _ j => 0 < j) fun _ _ h => mod_of h) op_mod ha hb
theorem fdiv_of {l : List D} {d : D} (h : opD .fdiv l = some d) : ∃ i j, l = [.int i, .int j] ∧ d = .int (i / j) ∧ CDivW i j := by
  simp only [opD] at h
  unfold dop_fdiv at h
  split at h
  · obtain ⟨h1, h2⟩ := guardO_some h
    cases h2
    have h1 := of_decide_eq_true h1
    refine ⟨_, _, rfl, rfl, h1.1, ?_⟩
    exact Nat.lt_trans (PySem.Flt.log2_lt_of (by decide) h1.2) (by decide)
  · cases h
theorem sv_fdiv (ha : PE X e1 (TEv X.K c a)) (hb : PE X e2 (TEv X.K c b)) : PE X (.BinOp e1 .FloorDiv e2 pos) (TEv X.K c (.op .fdiv (.cons a (.cons b .nil)))) := sv_bin (os_int2 (C := CDivW) fun _ _ h => fdiv_of h) op_fdivW ha hb
theorem pow_of {l : List D} {d : D} (h : opD .pow l = some d) : ∃ i j, l = [.int i, .int j] ∧ d = .int (i ^ j.toNat) ∧ CPow i j := by
  simp only [opD] at h
  unfold dop_pow at h
  split at h
  · obtain ⟨h1, h2⟩ := guardO_some h
    cases h2
    have h1 := of_decide_eq_true h1
    exact ⟨_, _, rfl, rfl, h1.1, by omega, by omega⟩
  · cases h
theorem sv_pow (ha : PE X e1 (TEv X.K c a)) (hb : PE X e2 (TEv X.K c b)) : PE X (.BinOp e1 .Pow e2 pos) (TEv X.K c (.op .pow (.cons a (.cons b .nil)))) := sv_bin (os_int2 (C := CPow) fun _ _ h => pow_of h) op_pow ha hb
theorem le_of {l : List D} {d : D} (h : opD .le l = some d) : ∃ i j, l = [.int i, .int j] ∧ d = .bool (decide (i ≤ j)) := by
  simp only [opD] at h; unfold dop_le at h
  split at h
  · cases h; exact ⟨_, _, rfl, rfl⟩
  · cases h
theorem gt_of {l : List D} {d : D} (h : opD .gt l = some d) : ∃ i j, l = [.int i, .int j] ∧ d = .bool (decide (j < i)) := by
  simp only [opD] at h; unfold dop_gt at h
  split at h
  · cases h; exact ⟨_, _, rfl, rfl⟩
  · cases h
theorem ge_of {l : List D} {d : D} (h : opD .ge l = some d) : ∃ i j, l = [.int i, .int j] ∧ d = .bool (decide (j ≤ i)) := by
  simp only [opD] at h; unfold dop_ge at h
  split at h
  · cases h; exact ⟨_, _, rfl, rfl⟩
  · cases h
theorem os_le {K : PySem.W.Frag} : OpS K .le fun vs H Q => ∃ x y, vs = [x, y] ∧ (rI0 fun i j => .bl (decide (i ≤ j))) x y H Q := os_cmp2 fun _ _ h => le_of h
theorem os_gt {K : PySem.W.Frag} : OpS K .gt fun vs H Q => ∃ x y, vs = [x, y] ∧ (rI0 fun i j => .bl (decide (j < i))) x y H Q := os_cmp2 fun _ _ h => gt_of h
theorem os_ge {K : PySem.W.Frag} : OpS K .ge fun vs H Q => ∃ x y, vs = [x, y] ∧ (rI0 fun i j => .bl (decide (j ≤ i))) x y H Q := os_cmp2 fun _ _ h => ge_of h
def rLtA : R2 := fun x y H Q => (rI0 fun i j => .bl (decide (i < j))) x y H Q ∨ ∃ i j, x = .str i ∧ y = .str j ∧ Q (.bl (decide (i.cps.toList < j.cps.toList))) H
theorem op_ltA : OpR X (compareOp .Lt) rLtA := op_lt.or op_lt_str
theorem os_lt {K : PySem.W.Frag} : OpS K .lt fun vs H Q => ∃ x y, vs = [x, y] ∧ rLtA x y H Q := by
  intro ds d vs F H Q s q e w
  simp only [opD] at e; unfold dop_lt at e
  split at e
  · cases e
    match q with
    | .cons q1 (.cons q2 .nil) =>
      have h1 := dn_int q1; have h2 := dn_int q2
      subst h1; subst h2
      exact ⟨_, _, rfl, .inl ⟨_, _, rfl, rfl, Wish.here w s (Dp.bl _)⟩⟩
  · cases e
    match q with
    | .cons q1 (.cons q2 .nil) =>
      have h1 := dn_str q1; have h2 := dn_str q2
      subst h1; subst h2
      exact ⟨_, _, rfl, .inr ⟨_, _, rfl, rfl, Wish.here w s (Dp.bl _)⟩⟩
  · cases e
/-- -a -/
theorem sv_neg (ha : PE X e1 (TEv X.K c a)) : PE X (.UnaryOp .USub e1 pos) (TEv X.K c (.op .neg (.cons a .nil))) := by
  refine PE.mono (pe_un un_neg ha) fun σ H Q ⟨F, r, x, h⟩ => ?_
  simp only [den] at h
  refine ⟨F, r, x, ?_⟩
  cases ea : den c.call a r with
  | ok p =>
    obtain ⟨d, r1⟩ := p
    rw [ea] at h
    simp only [R.ok_bind] at h
    intro v F1 H1 x1 e1 s1 q1
    cases d with
    | int k => exact ⟨k, dn_int q1, h (.int (-k)) F1 H1 x1 e1 s1 (Dp.int _)⟩
    | none => exact h.elim
    | bool _ => exact h.elim
    | str _ => exact h.elim
    | list _ => exact h.elim
    | tuple _ => exact h.elim
    | dict _ => exact h.elim
  | exc k => rw [ea] at h; exact h
  | stuck => rw [ea] at h; exact h.elim
/-- == and != of data -/
theorem plain_nd {d : D} (h : d.plain = true) : nd d = true := by
  cases d <;> first | rfl | cases h
theorem op_eqP (hu : X.A.units + 60 < cLine) : OpR X (compareOp .Eq) (fun x y H Q => ∃ F d e, Same F H ∧ Dp X.K F x d ∧ Dp X.K F y e ∧ d.plain = true ∧ e.plain = true ∧ d.depth ≤ 60 ∧ Q (.bl (PyData.eqv d e)) H) := by
  intro pins s σ H x y v u Q I rx ry h
  obtain ⟨F, d, e, sm, hd, he, pd, pe, dd, q⟩ := h
  obtain ⟨as, r1⟩ := L2.Dp.reads I d x v (hd.l2 sm) rx
  obtain ⟨bs, r2⟩ := L2.Dp.reads I e y u (he.l2 sm) ry
  exact PySem.SeqAt.eq_plain r1 r2 pd pe (by have := Nat.min_le_left d.depth e.depth; omega) ⟨.bl _, H, I, rfl, q⟩
end
end Bm
end
section
set_option Elab.async false
set_option linter.all false
set_option maxRecDepth 100000
set_option maxHeartbeats 1000000
/-! More operations. -/
namespace Bm
open PySem PySem.Spec L2
section
variable {X : Cx} {c : Cfg} {e e1 e2 e3 : Expr} {es : List Expr} {a b m : E} {pos : Pos}
/-! == != in, not in -/
def rD2 (K : PySem.W.Frag) (G : D → D → D → Prop) (f : D → D → Bool) : R2 := fun x y H Q => ∃ F d e, Same F H ∧ Dp K F x d ∧ Dp K F y e ∧ G d e d ∧ Q (.bl (f d e)) H
def gEq : D → D → D → Prop := fun d e _ => d.plain = true ∧ e.plain = true ∧ d.depth ≤ 60
theorem op_eqP' (hu : X.A.units + 64 < cLine) : OpR X (compareOp .Eq) (rD2 X.K gEq fun d e => PyData.eqv d e) := by
  intro pins s σ H x y v u Q I rx ry h
  obtain ⟨F, d, e, sm, hd, he, ⟨pd, pe, dd⟩, q⟩ := h
  obtain ⟨as, r1⟩ := L2.Dp.reads I d x v (Dp.l2 sm _ _ hd) rx
  obtain ⟨bs, r2⟩ := L2.Dp.reads I e y u (Dp.l2 sm _ _ he) ry
  exact PySem.SeqAt.eq_plain r1 r2 pd pe (by have := Nat.min_le_left d.depth e.depth; omega) ⟨.bl _, H, I, rfl, q⟩
theorem op_neP' (hu : X.A.units + 64 < cLine) : OpR X (compareOp .NotEq) (rD2 X.K gEq fun d e => !PyData.eqv d e) := by
  intro pins s σ H x y v u Q I rx ry h
  obtain ⟨F, d, e, sm, hd, he, ⟨pd, pe, dd⟩, q⟩ := h
  obtain ⟨as, r1⟩ := L2.Dp.reads I d x v (Dp.l2 sm _ _ hd) rx
  obtain ⟨bs, r2⟩ := L2.Dp.reads I e y u (Dp.l2 sm _ _ he) ry
  exact PySem.SeqAt.ne_plain r1 r2 pd pe (by have := Nat.min_le_left d.depth e.depth; omega) ⟨.bl _, H, I, rfl, q⟩
theorem os_eq {K : PySem.W.Frag} : OpS K .eq fun vs H Q => ∃ x y, vs = [x, y] ∧ rD2 K gEq (fun d e => PyData.eqv d e) x y H Q := by
  intro ds d vs F H Q s q e w
  simp only [opD] at e; unfold dop_eq at e
  split at e
  · obtain ⟨h1, h2⟩ := guardO_some e
    cases h2
    simp only [Bool.and_eq_true, decide_eq_true_eq] at h1
    match q with
    | .cons q1 (.cons q2 .nil) => exact ⟨_, _, rfl, F, _, _, s, q1.dp (nd_of (plain_nd h1.1.1)), q2.dp (nd_of (plain_nd h1.1.2)), ⟨h1.1.1, h1.1.2, h1.2⟩, Wish.here w s (Dp.bl _)⟩
  · cases e
theorem os_ne {K : PySem.W.Frag} : OpS K .ne fun vs H Q => ∃ x y, vs = [x, y] ∧ rD2 K gEq (fun d e => !PyData.eqv d e) x y H Q := by
  intro ds d vs F H Q s q e w
  simp only [opD] at e; unfold dop_ne at e
  split at e
  · obtain ⟨h1, h2⟩ := guardO_some e
    cases h2
    simp only [Bool.and_eq_true, decide_eq_true_eq] at h1
    match q with
    | .cons q1 (.cons q2 .nil) => exact ⟨_, _, rfl, F, _, _, s, q1.dp (nd_of (plain_nd h1.1.1)), q2.dp (nd_of (plain_nd h1.1.2)), ⟨h1.1.1, h1.1.2, h1.2⟩, Wish.here w s (Dp.bl _)⟩
  · cases e
theorem sv_eq (hu : X.A.units + 64 < cLine) (ha : PE X e1 (TEv X.K c a)) (hb : PE X e2 (TEv X.K c b)) : PE X (.Compare e1 [.Eq] [e2] pos) (TEv X.K c (.op .eq (.cons a (.cons b .nil)))) := sv_cmp os_eq (op_eqP' hu) ha hb (nomark _)
theorem sv_ne (hu : X.A.units + 64 < cLine) (ha : PE X e1 (TEv X.K c a)) (hb : PE X e2 (TEv X.K c b)) : PE X (.Compare e1 [.NotEq] [e2] pos) (TEv X.K c (.op .ne (.cons a (.cons b .nil)))) := sv_cmp os_ne (op_neP' hu) ha hb (nomark _)
theorem sw_eq (hu : X.A.units + 64 < cLine) (ha : PE X e1 (TEv X.K c a)) (hb : PE X e2 (TEv X.K c b)) : PT X (.Compare e1 [.Eq] [e2] pos) (TTv X.K c (.op .eq (.cons a (.cons b .nil)))) := sw_cmp os_eq (op_eqP' hu) ha hb (nomark _)
theorem sw_ne (hu : X.A.units + 64 < cLine) (ha : PE X e1 (TEv X.K c a)) (hb : PE X e2 (TEv X.K c b)) : PT X (.Compare e1 [.NotEq] [e2] pos) (TTv X.K c (.op .ne (.cons a (.cons b .nil)))) := sw_cmp os_ne (op_neP' hu) ha hb (nomark _)
theorem sv_lt (ha : PE X e1 (TEv X.K c a)) (hb : PE X e2 (TEv X.K c b)) : PE X (.Compare e1 [.Lt] [e2] pos) (TEv X.K c (.op .lt (.cons a (.cons b .nil)))) := sv_cmp os_lt op_ltA ha hb (nomark _)
theorem sw_lt (ha : PE X e1 (TEv X.K c a)) (hb : PE X e2 (TEv X.K c b)) : PT X (.Compare e1 [.Lt] [e2] pos) (TTv X.K c (.op .lt (.cons a (.cons b .nil)))) := sw_cmp os_lt op_ltA ha hb (nomark _)
theorem sw_gt (ha : PE X e1 (TEv X.K c a)) (hb : PE X e2 (TEv X.K c b)) : PT X (.Compare e1 [.Gt] [e2] pos) (TTv X.K c (.op .gt (.cons a (.cons b .nil)))) := sw_cmp os_gt op_gt ha hb (nomark _)
theorem sv_gt (ha : PE X e1 (TEv X.K c a)) (hb : PE X e2 (TEv X.K c b)) : PE X (.Compare e1 [.Gt] [e2] pos) (TEv X.K c (.op .gt (.cons a (.cons b .nil)))) := sv_cmp os_gt op_gt ha hb (nomark _)
theorem sw_ge (ha : PE X e1 (TEv X.K c a)) (hb : PE X e2 (TEv X.K c b)) : PT X (.Compare e1 [.GtE] [e2] pos) (TTv X.K c (.op .ge (.cons a (.cons b .nil)))) := sw_cmp os_ge op_ge ha hb (nomark _)
theorem sv_le (ha : PE X e1 (TEv X.K c a)) (hb : PE X e2 (TEv X.K c b)) : PE X (.Compare e1 [.LtE] [e2] pos) (TEv X.K c (.op .le (.cons a (.cons b .nil)))) := sv_cmp os_le op_le ha hb (nomark _)
theorem sw_le (ha : PE X e1 (TEv X.K c a)) (hb : PE X e2 (TEv X.K c b)) : PT X (.Compare e1 [.LtE] [e2] pos) (TTv X.K c (.op .le (.cons a (.cons b .nil)))) := sw_cmp os_le op_le ha hb (nomark _)
/-- a <= b <= c -/
theorem sv_lele {d : E} (h1 : PE X e1 (TEv X.K c a)) (h2 : PE X e2 (TEv X.K c b)) (h3 : PE X e3 (TEv X.K c d)) : PE X (.Compare e1 [.LtE, .LtE] [e2, e3] pos) (TEv X.K c (.chain .le .le a b d)) :=
  sv_chain os_le os_le op_le op_le h1 h2 h3 (by unfold lastMarks; unfold lastMarks; exact nomark _)
theorem sw_lele {d : E} (h1 : PE X e1 (TEv X.K c a)) (h2 : PE X e2 (TEv X.K c b)) (h3 : PE X e3 (TEv X.K c d)) : PT X (.Compare e1 [.LtE, .LtE] [e2, e3] pos) (TTv X.K c (.chain .le .le a b d)) :=
  sw_chain os_le os_le op_le op_le h1 h2 h3 (by unfold lastMarks; unfold lastMarks; exact nomark _)
theorem sv_lelt {d : E} (h1 : PE X e1 (TEv X.K c a)) (h2 : PE X e2 (TEv X.K c b)) (h3 : PE X e3 (TEv X.K c d)) : PE X (.Compare e1 [.LtE, .Lt] [e2, e3] pos) (TEv X.K c (.chain .le .lt a b d)) :=
  sv_chain os_le os_lt op_le op_ltA h1 h2 h3 (by unfold lastMarks; unfold lastMarks; exact nomark _)
/-- a is None -/
theorem none_dec {K : PySem.W.Frag} {F : Hp} {v : V} {d : D} (q : Dn K F v d) : decide (v = .non) = !notNone d := by
  cases d with
  | none => have q' : Dp K F v .none := q; cases q'; rfl
  | bool _ => have q' : Dp K F v (.bool _) := q; cases q'; rfl
  | int _ => have q' : Dp K F v (.int _) := q; cases q'; rfl
  | str _ => have q' : Dp K F v (.str _) := q; cases q'; rfl
  | list _ => have q' : Dp K F v (.list _) := q; cases q'; rfl
  | tuple _ => have q' : Dp K F v (.tuple _) := q; cases q'; rfl
  | dict _ => obtain ⟨a, kv, e, _⟩ := q; subst e; rfl
theorem tev_un {K : PySem.W.Frag} {o : Op} {σ : St} {H : Hp} {Q : VK} {G : V → Hp → Prop} (h : TEv K c (.op o (.cons a .nil)) σ H Q) (g : ∀ d d' v F1 H1, Same F1 H1 → Dn K F1 v d → opD o [d] = some d' → Wish K F1 H1 d' Q → G v H1) : TEv K c a σ H G := by
  obtain ⟨F, r, x, h⟩ := h
  simp only [den] at h
  refine ⟨F, r, x, ?_⟩
  cases ea : den c.call a r with
  | ok p =>
    obtain ⟨d, r1⟩ := p
    rw [ea] at h
    simp only [R.ok_bind] at h
    intro v F1 H1 x1 e1 s1 q1
    cases eo : opD o [d] with
    | none => rw [eo] at h; exact h.elim
    | some d' =>
      rw [eo] at h
      refine g d d' v F1 H1 x1.rel.same q1 eo fun v' F' H' h1 h2 h3 q' => ?_
      obtain ⟨x', ef⟩ := x1.grown h1 h2 h3
      exact h v' F' H' x' (e1.trans ef s1) s1 q'
  | exc k => rw [ea] at h; exact h
  | stuck => rw [ea] at h; exact h.elim
theorem isN_go {K : PySem.W.Frag} {σ : St} {H : Hp} {Q : VK} (h : TEv K c (.op .isN (.cons a .nil)) σ H Q) : tIsN (TEv K c a) σ H Q := tev_un h fun d d' v F1 H1 s q e w => by
  simp only [opD, dop_isN] at e
  cases e
  rw [none_dec q]
  exact w.here s (Dp.bl _)
theorem notN_go {K : PySem.W.Frag} {σ : St} {H : Hp} {Q : VK} (h : TEv K c (.op .notN (.cons a .nil)) σ H Q) : tNotN (TEv K c a) σ H Q := tev_un h fun d d' v F1 H1 s q e w => by
  simp only [opD, dop_notN] at e
  cases e
  rw [none_dec q]
  rw [Bool.not_not]
  exact w.here s (Dp.bl _)
theorem sv_isN {j} {pn : Pos} (ha : PE X e1 (TEv X.K c a)) : PE X (.Compare e1 [.Is] [.Constant .none j pn] pos) (TEv X.K c (.op .isN (.cons a .nil))) := PE.mono (pe_cmp (pc_isN ha)) fun _ _ _ h => isN_go h
theorem sw_isN {j} {pn : Pos} (ha : PE X e1 (TEv X.K c a)) : PT X (.Compare e1 [.Is] [.Constant .none j pn] pos) (TTv X.K c (.op .isN (.cons a .nil))) := PT.mono (pt_cmp (pc_isN ha)) fun _ _ _ h => isN_go h
theorem sv_notN {j} {pn : Pos} (ha : PE X e1 (TEv X.K c a)) : PE X (.Compare e1 [.IsNot] [.Constant .none j pn] pos) (TEv X.K c (.op .notN (.cons a .nil))) := PE.mono (pe_cmp (pc_notN ha)) fun _ _ _ h => notN_go h
theorem sw_notN {j} {pn : Pos} (ha : PE X e1 (TEv X.K c a)) : PT X (.Compare e1 [.IsNot] [.Constant .none j pn] pos) (TTv X.K c (.op .notN (.cons a .nil))) := PT.mono (pt_cmp (pc_notN ha)) fun _ _ _ h => notN_go h
/-! in -/
theorem sign1_eq {s : Str} {k : Nat} (h : sign1 s = some k) : s = ⟨#[k]⟩ := by
  unfold sign1 at h
  split at h
  · rename_i c e
    cases h
    rw [← st_toL s, e]
    rfl
  · cases h
def rIn (K : PySem.W.Frag) (neg : Bool) : R2 := fun x y H Q => (∃ i z, x = .str ⟨#[i]⟩ ∧ y = .str z ∧ Q (.bl (neg ^^ decide (i ∈ toL z))) H) ∨
  ∃ F d l, Same F H ∧ Dp K F x d ∧ (Dp K F y (.list l) ∨ Dp K F y (.tuple l)) ∧ d.plain = true ∧ PyData.plainAll l = true ∧ d.depth ≤ 60 ∧ Q (.bl (neg ^^ (l.any fun d' => PyData.eqv d' d))) H
theorem op_inA (hu : X.A.units + 64 < cLine) : OpR X (compareOp .In) (rIn X.K false) := by
  intro pins s σ H x y v u Q I rx ry h
  rcases h with ⟨i, z, rfl, rfl, q⟩ | ⟨F, d, l, sm, hd, hl, pd, pl, dd, q⟩
  · refine op_in_str pins s σ H _ _ v u Q I rx ry ⟨_, _, rfl, rfl, ?_⟩
    rw [PySem.StrLaws.found_one z i]
    rw [Bool.false_xor] at q
    exact q
  · obtain ⟨as, r1⟩ := L2.Dp.reads I d x v (Dp.l2 sm _ _ hd) rx
    rw [Bool.false_xor] at q
    have hm := Nat.min_le_right (PyData.depthAll l) d.depth
    rcases hl with hl | hl
    · obtain ⟨bs, r2⟩ := L2.Dp.reads I _ y u (Dp.l2 sm _ _ hl) ry
      exact PySem.SeqAt.in_list_data r2 r1 pl pd (by omega) ⟨.bl _, H, I, rfl, q⟩
    · obtain ⟨bs, r2⟩ := L2.Dp.reads I _ y u (Dp.l2 sm _ _ hl) ry
      exact PySem.SeqAt.in_tuple_data r2 r1 pl pd (by omega) ⟨.bl _, H, I, rfl, q⟩
theorem op_notInA (hu : X.A.units + 64 < cLine) : OpR X (compareOp .NotIn) (rIn X.K true) := by
  intro pins s σ H x y v u Q I rx ry h
  rcases h with ⟨i, z, rfl, rfl, q⟩ | ⟨F, d, l, sm, hd, hl, pd, pl, dd, q⟩
  · refine op_notin_str pins s σ H _ _ v u Q I rx ry ⟨_, _, rfl, rfl, ?_⟩
    rw [PySem.StrLaws.found_one z i]
    rw [Bool.true_xor] at q
    exact q
  · obtain ⟨as, r1⟩ := L2.Dp.reads I d x v (Dp.l2 sm _ _ hd) rx
    rw [Bool.true_xor] at q
    have hm := Nat.min_le_right (PyData.depthAll l) d.depth
    rcases hl with hl | hl
    · obtain ⟨bs, r2⟩ := L2.Dp.reads I _ y u (Dp.l2 sm _ _ hl) ry
      exact PySem.SeqAt.notIn_list_data r2 r1 pl pd (by omega) ⟨.bl _, H, I, rfl, q⟩
    · obtain ⟨bs, r2⟩ := L2.Dp.reads I _ y u (Dp.l2 sm _ _ hl) ry
      exact PySem.SeqAt.notIn_tuple_data r2 r1 pl pd (by omega) ⟨.bl _, H, I, rfl, q⟩
theorem os_in {K : PySem.W.Frag} : OpS K .isin fun vs H Q => ∃ x y, vs = [x, y] ∧ rIn K false x y H Q := by
  intro ds d vs F H Q s q e w
  simp only [opD] at e; unfold dop_isin at e
  split at e
  · rename_i i z
    cases e1 : sign1 i with
    | none => rw [e1] at e; cases e
    | some k =>
      rw [e1] at e
      cases e
      match q with
      | .cons q1 (.cons q2 .nil) =>
        have h1 := dn_str q1; have h2 := dn_str q2
        subst h1; subst h2
        refine ⟨_, _, rfl, .inl ⟨k, z, by rw [sign1_eq e1], rfl, ?_⟩⟩
        rw [Bool.false_xor]
        exact Wish.here w s (Dp.bl _)
  · obtain ⟨h1, h2⟩ := guardO_some e
    cases h2
    simp only [Bool.and_eq_true, decide_eq_true_eq] at h1
    match q with
    | .cons q1 (.cons q2 .nil) =>
      refine ⟨_, _, rfl, .inr ⟨F, _, _, s, q1.dp (nd_of (plain_nd h1.1.1)), .inl q2, h1.1.1, h1.1.2, h1.2, ?_⟩⟩
      rw [Bool.false_xor]
      exact Wish.here w s (Dp.bl _)
  · obtain ⟨h1, h2⟩ := guardO_some e
    cases h2
    simp only [Bool.and_eq_true, decide_eq_true_eq] at h1
    match q with
    | .cons q1 (.cons q2 .nil) =>
      refine ⟨_, _, rfl, .inr ⟨F, _, _, s, q1.dp (nd_of (plain_nd h1.1.1)), .inr q2, h1.1.1, h1.1.2, h1.2, ?_⟩⟩
      rw [Bool.false_xor]
      exact Wish.here w s (Dp.bl _)
  · cases e
theorem os_notin {K : PySem.W.Frag} : OpS K .notin fun vs H Q => ∃ x y, vs = [x, y] ∧ rIn K true x y H Q := by
  intro ds d vs F H Q s q e w
  simp only [opD] at e; unfold dop_notin at e
  split at e
  · rename_i i z
    cases e1 : sign1 i with
    | none => rw [e1] at e; cases e
    | some k =>
      rw [e1] at e
      cases e
      match q with
      | .cons q1 (.cons q2 .nil) =>
        have h1 := dn_str q1; have h2 := dn_str q2
        subst h1; subst h2
        refine ⟨_, _, rfl, .inl ⟨k, z, by rw [sign1_eq e1], rfl, ?_⟩⟩
        rw [Bool.true_xor]
        exact Wish.here w s (Dp.bl _)
  · obtain ⟨h1, h2⟩ := guardO_some e
    cases h2
    simp only [Bool.and_eq_true, decide_eq_true_eq] at h1
    match q with
    | .cons q1 (.cons q2 .nil) =>
      refine ⟨_, _, rfl, .inr ⟨F, _, _, s, q1.dp (nd_of (plain_nd h1.1.1)), .inl q2, h1.1.1, h1.1.2, h1.2, ?_⟩⟩
      rw [Bool.true_xor]
      exact Wish.here w s (Dp.bl _)
  · obtain ⟨h1, h2⟩ := guardO_some e
    cases h2
    simp only [Bool.and_eq_true, decide_eq_true_eq] at h1
    match q with
    | .cons q1 (.cons q2 .nil) =>
      refine ⟨_, _, rfl, .inr ⟨F, _, _, s, q1.dp (nd_of (plain_nd h1.1.1)), .inr q2, h1.1.1, h1.1.2, h1.2, ?_⟩⟩
      rw [Bool.true_xor]
      exact Wish.here w s (Dp.bl _)
  · cases e
theorem sv_in (hu : X.A.units + 64 < cLine) (ha : PE X e1 (TEv X.K c a)) (hb : PE X e2 (TEv X.K c b)) (hm : behindInMarks .In e2 = false := by rfl) : PE X (.Compare e1 [.In] [e2] pos) (TEv X.K c (.op .isin (.cons a (.cons b .nil)))) := sv_cmp os_in (op_inA hu) ha hb hm
theorem sw_in (hu : X.A.units + 64 < cLine) (ha : PE X e1 (TEv X.K c a)) (hb : PE X e2 (TEv X.K c b)) (hm : behindInMarks .In e2 = false := by rfl) : PT X (.Compare e1 [.In] [e2] pos) (TTv X.K c (.op .isin (.cons a (.cons b .nil)))) := sw_cmp os_in (op_inA hu) ha hb hm
theorem sv_notin (hu : X.A.units + 64 < cLine) (ha : PE X e1 (TEv X.K c a)) (hb : PE X e2 (TEv X.K c b)) (hm : behindInMarks .NotIn e2 = false := by rfl) : PE X (.Compare e1 [.NotIn] [e2] pos) (TEv X.K c (.op .notin (.cons a (.cons b .nil)))) := sv_cmp os_notin (op_notInA hu) ha hb hm
theorem sw_notin (hu : X.A.units + 64 < cLine) (ha : PE X e1 (TEv X.K c a)) (hb : PE X e2 (TEv X.K c b)) (hm : behindInMarks .NotIn e2 = false := by rfl) : PT X (.Compare e1 [.NotIn] [e2] pos) (TTv X.K c (.op .notin (.cons a (.cons b .nil)))) := sw_cmp os_notin (op_notInA hu) ha hb hm
/-! isinstance -/
theorem sv_isi {T : String} {x : Str} {p px : Pos} {o : Op} {f : D → Bool} (ho : ∀ l d, opD o l = some d → ∃ y, l = [y] ∧ nd y = true ∧ d = .bool (f y))
    (hr : ∀ (prog : Program) (w : World) (A : Around) (E : Value → Shared → Prop) (s : Shared) (Q : Value → Shared → Prop) (v : Value) (d : D) (as : List Addr), Reads s.heap v d as → (∀ tk, s.toks ≤ tk → Q (.bool (f d)) { s with toks := tk }) → wpAny (model prog w) A (call (.builtin "isinstance") [v, .type T]) Q E s)
    (hg : Gl X "isinstance") (hm : X.mg "isinstance" = none) (hgT : Gl X x) (hmT : X.mg x = none) (hvT : bootBuiltins x = some (.type T)) (ha : PE X e (TEv X.K c a)) (hv : bootBuiltins "isinstance" = some (.builtin "isinstance") := by decide +kernel) (hnT : x ≠ "__name__" := by decide) (hdT : (x == ("__debug__" : Str)) = false := by decide)
    (he : starEach [e, .Name x px] X.env = (false, eval e X.env) :: starEach [.Name x px] X.env := by rfl) (hpl : (backTo pos (starEach [.Name x px] X.env)).any (·.1) = false := by rfl) (he2 : starEach [.Name x px] X.env = (false, eval (.Name x px) X.env) :: starEach [] X.env := by rfl) :
    PE X (.Call (.Name "isinstance" p) [e, .Name x px] [] pos) (TEv X.K c (.op o (.cons a .nil))) := by
  have hc : CallR X (.builtin "isinstance") (fun xs H Q => ∃ F d y, xs = [y, .ty T] ∧ Same F H ∧ Dp X.K F y d ∧ Q (.bl (f d)) H) := by
    intro pins s σ H xs us Q I rr h
    obtain ⟨F, d, y, rfl, sm, hd, q⟩ := h
    obtain ⟨u1, u2, rfl, r1, r2⟩ := vals2 rr
    have e2 : u2 = .type T := r2
    subst e2
    obtain ⟨as, r1'⟩ := L2.Dp.reads I d y u1 (Dp.l2 sm _ _ hd) r1
    exact hr _ _ _ _ _ _ _ _ _ r1' fun tk _ => ⟨.bl _, H, I.tok _, rfl, q⟩
  refine PE.mono (pe_callB hc hg hm hv (pa_cons ha (pa_cons (pe_bltn (v := .ty T) hgT hmT hvT rfl hnT hdT) pa_nil he2) he) (by decide) (by decide) he hpl) fun σ H Q h => ?_
  exact tev_un h fun d d' v F1 H1 s q ed w => by
    obtain ⟨y, e1, e2, e3⟩ := ho _ _ ed
    cases e1
    subst e3
    exact ⟨F1, _, v, rfl, s, q.dp (nd_of e2), w.here s (Dp.bl _)⟩
theorem isint_of {l : List D} {d : D} (h : opD .isint l = some d) : ∃ y, l = [y] ∧ nd y = true ∧ d = .bool y.isInt := by
  simp only [opD] at h; unfold dop_isint at h
  split at h
  · obtain ⟨h1, h2⟩ := guardO_some h; cases h2; exact ⟨_, rfl, h1, rfl⟩
  · cases h
theorem isbool_of {l : List D} {d : D} (h : opD .isbool l = some d) : ∃ y, l = [y] ∧ nd y = true ∧ d = .bool y.isBool := by
  simp only [opD] at h; unfold dop_isbool at h
  split at h
  · obtain ⟨h1, h2⟩ := guardO_some h; cases h2; exact ⟨_, rfl, h1, rfl⟩
  · cases h
theorem isstr_of {l : List D} {d : D} (h : opD .isstr l = some d) : ∃ y, l = [y] ∧ nd y = true ∧ d = .bool y.isStr := by
  simp only [opD] at h; unfold dop_isstr at h
  split at h
  · obtain ⟨h1, h2⟩ := guardO_some h; cases h2; exact ⟨_, rfl, h1, rfl⟩
  · cases h
theorem istup_of {l : List D} {d : D} (h : opD .istup l = some d) : ∃ y, l = [y] ∧ nd y = true ∧ d = .bool y.isTuple := by
  simp only [opD] at h; unfold dop_istup at h
  split at h
  · obtain ⟨h1, h2⟩ := guardO_some h; cases h2; exact ⟨_, rfl, h1, rfl⟩
  · cases h
theorem boot_bool' : bootBuiltins "bool" = some (.type "bool") := by decide +kernel
theorem boot_int' : bootBuiltins "int" = some (.type "int") := by decide +kernel
theorem boot_str' : bootBuiltins "str" = some (.type "str") := by decide +kernel
theorem boot_tup' : bootBuiltins "tuple" = some (.type "tuple") := by decide +kernel
theorem boot_list' : bootBuiltins "list" = some (.type "list") := by decide +kernel
theorem boot_isi' : bootBuiltins "isinstance" = some (.builtin "isinstance") := by decide +kernel
theorem boot_len' : bootBuiltins "len" = some (.builtin "len") := by decide +kernel
theorem boot_sum' : bootBuiltins "sum" = some (.builtin "sum") := by decide +kernel
theorem boot_all' : bootBuiltins "all" = some (.builtin "all") := by decide +kernel
theorem boot_any' : bootBuiltins "any" = some (.builtin "any") := by decide +kernel
theorem boot_min' : bootBuiltins "min" = some (.builtin "min") := by decide +kernel
theorem boot_max' : bootBuiltins "max" = some (.builtin "max") := by decide +kernel
theorem boot_sorted' : bootBuiltins "sorted" = some (.builtin "sorted") := by decide +kernel
theorem sv_isint {p px : Pos} (hg : Gl X "isinstance") (hm : X.mg "isinstance" = none) (hgT : Gl X "int") (hmT : X.mg "int" = none) (ha : PE X e (TEv X.K c a)) (he : starEach [e, .Name "int" px] X.env = (false, eval e X.env) :: starEach [.Name "int" px] X.env := by rfl) :
    PE X (.Call (.Name "isinstance" p) [e, .Name "int" px] [] pos) (TEv X.K c (.op .isint (.cons a .nil))) := sv_isi (fun _ _ h => isint_of h) (fun _ _ _ _ _ _ _ _ _ r h => PySem.W.isinstance_int_data r h) hg hm hgT hmT boot_int' ha boot_isi' (by decide) (by decide) he
theorem sv_isbool {p px : Pos} (hg : Gl X "isinstance") (hm : X.mg "isinstance" = none) (hgT : Gl X "bool") (hmT : X.mg "bool" = none) (ha : PE X e (TEv X.K c a)) (he : starEach [e, .Name "bool" px] X.env = (false, eval e X.env) :: starEach [.Name "bool" px] X.env := by rfl) :
    PE X (.Call (.Name "isinstance" p) [e, .Name "bool" px] [] pos) (TEv X.K c (.op .isbool (.cons a .nil))) := sv_isi (fun _ _ h => isbool_of h) (fun _ _ _ _ _ _ _ _ _ r h => PySem.W.isinstance_bool_data r h) hg hm hgT hmT boot_bool' ha boot_isi' (by decide) (by decide) he
theorem sv_isstr {p px : Pos} (hg : Gl X "isinstance") (hm : X.mg "isinstance" = none) (hgT : Gl X "str") (hmT : X.mg "str" = none) (ha : PE X e (TEv X.K c a)) (he : starEach [e, .Name "str" px] X.env = (false, eval e X.env) :: starEach [.Name "str" px] X.env := by rfl) :
    PE X (.Call (.Name "isinstance" p) [e, .Name "str" px] [] pos) (TEv X.K c (.op .isstr (.cons a .nil))) := sv_isi (fun _ _ h => isstr_of h) (fun _ _ _ _ _ _ _ _ _ r h => PySem.W.isinstance_str_data r h) hg hm hgT hmT boot_str' ha boot_isi' (by decide) (by decide) he
theorem sv_istup {p px : Pos} (hg : Gl X "isinstance") (hm : X.mg "isinstance" = none) (hgT : Gl X "tuple") (hmT : X.mg "tuple" = none) (ha : PE X e (TEv X.K c a)) (he : starEach [e, .Name "tuple" px] X.env = (false, eval e X.env) :: starEach [.Name "tuple" px] X.env := by rfl) :
    PE X (.Call (.Name "isinstance" p) [e, .Name "tuple" px] [] pos) (TEv X.K c (.op .istup (.cons a .nil))) := sv_isi (fun _ _ h => istup_of h) (fun _ _ _ _ _ _ _ _ _ r h => PySem.W.isinstance_tuple_data r h) hg hm hgT hmT boot_tup' ha boot_isi' (by decide) (by decide) he
end
end Bm
end
section
set_option Elab.async false
set_option linter.all false
set_option maxRecDepth 100000
set_option maxHeartbeats 1000000
/-! Subscripts, slices, built-in functions, methods of texts. -/
namespace Bm
open PySem PySem.Spec L2
section
variable {X : Cx} {c : Cfg} {e e1 e2 e3 : Expr} {es : List Expr} {a b m : E} {pos : Pos}
theorem atI_ix {α : Type} {xs : List α} {i : Int} {k : Nat} {v : α} (h : ixOf xs.length i = some k) (hv : xs[k]? = some v) : atI xs i = some v := by
  unfold atI
  rw [← ixOf_N, h]
  exact hv
theorem os_item {K : PySem.W.Frag} : OpS K .item fun vs H Q => ∃ x y, vs = [x, y] ∧ (rIxL K x y H Q ∨ rIxT K x y H Q ∨ rIxS x y H Q) := by
  intro ds d vs F H Q s q e w
  simp only [opD] at e; unfold dop_item at e
  split at e
  · rename_i l i
    match q with
    | .cons q1 (.cons q2 .nil) =>
      obtain ⟨p, xs, rfl, h1, h2⟩ := dn_list q1
      have h3 := dn_int q2; subst h3
      cases ek : ixOf l.length i with
      | none => rw [ek] at e; cases e
      | some k =>
        rw [ek] at e
        obtain ⟨v, hv, hd⟩ := dpa_get h2 (show l[k]? = some d from e)
        rw [← dpa_len h2] at ek
        exact ⟨_, _, rfl, .inl ⟨p, xs, i, v, rfl, rfl, .inl (.inl (s _ _ h1)), atI_ix ek hv, Wish.here w s (Dn.of hd)⟩⟩
  · rename_i l i
    match q with
    | .cons q1 (.cons q2 .nil) =>
      obtain ⟨p, xs, rfl, h1, h2⟩ := dn_tuple q1
      have h3 := dn_int q2; subst h3
      cases ek : ixOf l.length i with
      | none => rw [ek] at e; cases e
      | some k =>
        rw [ek] at e
        obtain ⟨v, hv, hd⟩ := dpa_get h2 (show l[k]? = some d from e)
        rw [← dpa_len h2] at ek
        exact ⟨_, _, rfl, .inr (.inl ⟨p, xs, i, v, rfl, rfl, .inl (.inl (s _ _ h1)), atI_ix ek hv, Wish.here w s (Dn.of hd)⟩)⟩
  · rename_i z i
    match q with
    | .cons q1 (.cons q2 .nil) =>
      have h1 := dn_str q1; subst h1
      have h3 := dn_int q2; subst h3
      obtain ⟨hl, e⟩ := guardO_some e
      rw [decide_eq_true_eq, len_toL] at hl
      cases ek : ixOf (toL z).length i with
      | none => rw [ek] at e; cases e
      | some k =>
        rw [ek] at e
        cases ec : (toL z)[k]? with
        | none => simp only [Option.bind_some, ec] at e; cases e
        | some ch =>
          simp only [Option.bind_some, ec] at e
          cases e
          exact ⟨_, _, rfl, .inr (.inr ⟨z, i, ch, rfl, rfl, lim_line hl, atI_ix (xs := z.cps.toList) ek ec, Wish.here w s (Dp.str _)⟩)⟩
  · cases e
theorem sv_item (ha : PE X e1 (TEv X.K c a)) (hb : PE X e2 (TEv X.K c b)) (hs : PlainIx e2 := by exact fun _ _ => rfl) : PE X (.Subscript e1 e2 pos) (TEv X.K c (.op .item (.cons a (.cons b .nil)))) :=
  PE.mono (pe_ix ix_seq ha hb hs) fun _ _ _ h => tev_op2 (rr := rIx X.K) os_item h
/-- x[k], x an owned list -/
theorem sv_oitem {i : Nat} {x : Str} {px : Pos} (hx : PE X (.Name x px) (tVar i)) (hb : PE X e2 (TEv X.K c b)) (hs : PlainIx e2 := by exact fun _ _ => rfl) : PE X (.Subscript (.Name x px) e2 pos) (TEv X.K c (.oitem i b)) := by
  refine PE.mono (pe_ix ix_list hx hb hs) fun σ H Q ⟨F, r, x, h⟩ => ?_
  simp only [den] at h
  cases eo : isOwnL (getS r i) with
  | false => rw [eo] at h; exact h.elim
  | true =>
    rw [eo, if_pos rfl] at h
    obtain ⟨l0, el⟩ := isOwnL_ex eo
    have q0 := x.rel.ok i
    rw [el] at q0
    obtain ⟨a0, vs0, qv, _⟩ := q0
    refine ⟨.ref a0, vAt_some qv, F, r, x, OkE.bind h fun d r1 v F1 H1 ⟨x1, e1, s1, q1⟩ h1 => ?_⟩
    cases d with
    | int k =>
      simp only at h1
      cases eg : getS r1 i with
      | own l =>
        rw [eg] at h1
        simp only at h1
        have z := x1.rel.ok i
        rw [eg] at z
        obtain ⟨a1, ws, z1, z2, z3, z4⟩ := z
        rw [qv] at z1; cases z1
        have hk := dn_int q1; subst hk
        cases ep : ixOf l.length k with
        | none => rw [ep] at h1; exact h1.elim
        | some p =>
          rw [ep] at h1
          simp only [Option.bind_some] at h1
          cases ev : l[p]? with
          | none => rw [ev] at h1; exact h1.elim
          | some d =>
            rw [ev] at h1
            obtain ⟨u, hu, hd⟩ := dpa_get z4 ev
            rw [← dpa_len z4] at ep
            exact ⟨a0, ws, k, u, rfl, rfl, SqL.of z3, atI_ix ep hu, h1 u F1 H1 x1 Ef.refl (fun _ z => z) (Dn.of hd)⟩
      | un => rw [eg] at h1; exact h1.elim
      | sh d => rw [eg] at h1; exact h1.elim
      | dicT d => rw [eg] at h1; exact h1.elim
      | dicK d => rw [eg] at h1; exact h1.elim
    | none => exact h1.elim
    | bool _ => exact h1.elim
    | str _ => exact h1.elim
    | list _ => exact h1.elim
    | tuple _ => exact h1.elim
    | dict _ => exact h1.elim
/-! slices -/
theorem clamp_ix {n k d : Nat} {z : D} (h : clamp n d z = some k) : (z = .none ∧ k = d) ∨ ∃ i, z = .int i ∧ k = HT.sIx n d (some i) := by
  cases z with
  | none => simp only [clamp] at h; cases h; exact .inl ⟨rfl, rfl⟩
  | int i =>
    simp only [clamp] at h
    cases h
    refine .inr ⟨i, rfl, ?_⟩
    show _ = if i < 0 then (i + (n : Int)).toNat else min i.toNat n
    by_cases hi : 0 ≤ i
    · rw [if_pos hi, if_neg (by omega)]
    · rw [if_neg hi, if_pos (by omega)]
      omega
  | _ => cases h
theorem cut_eq {α : Type} (l : List α) (lo hi : Nat) : cut l lo hi = (l.drop lo).take (hi - lo) := by
  unfold cut
  rw [List.drop_take]
def rSl (K : PySem.W.Frag) : V → Option Int → Option Int → Hp → VK → Prop := fun x lo hi H Q => rSlL K x lo hi H Q ∨ rSlA K x lo hi H Q ∨ rSlS x lo hi H Q
theorem sl_any : SlR X (rSl X.K) := sl_list.or (sl_tupA.or sl_str)
theorem cut_dp {K : PySem.W.Frag} {F : Hp} {vs : List V} {l : List D} (h : DpAll K F vs l) (lo hi : Nat) : DpAll K F ((vs.drop lo).take (hi - lo)) (cut l lo hi) := by
  rw [cut_eq]
  exact dpa_take _ (dpa_drop _ h)
/-- a slice by its parts' data -/
theorem slice_go {K : PySem.W.Frag} {F H : Hp} {Q : VK} {x : V} {dx dl dh d : D} {lo hi : Option Int} (s : Same F H) (q : Dn K F x dx) (hlo : (dl = .none ∧ lo = none) ∨ ∃ i, dl = .int i ∧ lo = some i) (hhi : (dh = .none ∧ hi = none) ∨ ∃ i, dh = .int i ∧ hi = some i)
    (e : opD .slice [dx, dl, dh] = some d) (w : Wish K F H d Q) : rSl K x lo hi H Q := by
  have key : ∀ (n dd k : Nat) (z : D) (o : Option Int), ((z = .none ∧ o = none) ∨ ∃ i, z = .int i ∧ o = some i) → clamp n dd z = some k → k = HT.sIx n dd o := fun n dd k z o hz hc => by
    rcases clamp_ix hc with ⟨e1, e2⟩ | ⟨i, e1, e2⟩
    · rcases hz with ⟨_, e3⟩ | ⟨j, e3, _⟩
      · rw [e3, e2]; rfl
      · rw [e1] at e3; cases e3
    · rcases hz with ⟨e3, _⟩ | ⟨j, e3, e4⟩
      · rw [e1] at e3; cases e3
      · rw [e1] at e3; cases e3; rw [e4]; exact e2
  simp only [opD] at e
  cases dx with
  | list l =>
    simp only [dop_slice] at e
    obtain ⟨p, xs, rfl, h1, h2⟩ := dn_list q
    cases ea : clamp l.length 0 dl with
    | none => rw [ea] at e; cases e
    | some k1 =>
      rw [ea] at e
      cases eb : clamp l.length l.length dh with
      | none => simp only [Option.bind_some, eb] at e; cases e
      | some k2 =>
        simp only [Option.bind_some, eb, Option.map_some] at e
        cases e
        refine .inl ⟨p, xs, rfl, .inl (.inl (s _ _ h1)), fun p' np => ?_⟩
        have := cut_dp h2 k1 k2
        rw [key _ _ _ _ _ hlo ea, key _ _ _ _ _ hhi eb, ← dpa_len h2] at this
        rw [key _ _ _ _ _ hlo ea, key _ _ _ _ _ hhi eb, ← dpa_len h2] at w
        exact w.lst s np this
  | tuple l =>
    simp only [dop_slice] at e
    obtain ⟨p, xs, rfl, h1, h2⟩ := dn_tuple q
    cases ea : clamp l.length 0 dl with
    | none => rw [ea] at e; cases e
    | some k1 =>
      rw [ea] at e
      cases eb : clamp l.length l.length dh with
      | none => simp only [Option.bind_some, eb] at e; cases e
      | some k2 =>
        simp only [Option.bind_some, eb, Option.map_some] at e
        cases e
        have hk1 := key _ _ _ _ _ hlo ea
        have hk2 := key _ _ _ _ _ hhi eb
        refine .inr (.inl ⟨p, xs, rfl, .inl (.inl (s _ _ h1)), fun z => ?_, fun _ p' np => ?_⟩)
        · rw [dpa_len h2, ← hk1, ← hk2] at z
          have ec : cut l k1 k2 = l := by rw [z.1, z.2, cut_eq]; simp
          rw [ec] at w
          exact w.here s q
        · have := cut_dp h2 k1 k2
          rw [hk1, hk2, ← dpa_len h2] at this
          rw [hk1, hk2, ← dpa_len h2] at w
          exact w.tup s np this
  | str z =>
    simp only [dop_slice] at e
    have h1 := dn_str q; subst h1
    obtain ⟨hl, e⟩ := guardO_some e
    rw [decide_eq_true_eq, len_toL] at hl
    cases ea : clamp (toL z).length 0 dl with
    | none => rw [ea] at e; cases e
    | some k1 =>
      rw [ea] at e
      cases eb : clamp (toL z).length (toL z).length dh with
      | none => simp only [Option.bind_some, eb] at e; cases e
      | some k2 =>
        simp only [Option.bind_some, eb, Option.map_some] at e
        cases e
        refine .inr (.inr ⟨z, rfl, lim_line hl, ?_⟩)
        have hk1 := key _ _ _ _ _ hlo ea
        have hk2 := key _ _ _ _ _ hhi eb
        have : dS (cut (toL z) k1 k2) = .str (cutS z lo hi) := by
          unfold cutS dS st
          rw [cut_eq, hk1, hk2, len_toL]
          rfl
        rw [this] at w
        exact w.here s (Dp.str _)
  | none => cases e
  | bool _ => cases e
  | int _ => cases e
  | dict _ => cases e
theorem TEv.imp {K : PySem.W.Frag} {σ : St} {H : Hp} {Q Q' : VK} (h : TEv K c m σ H Q) (f : ∀ v H, Q v H → Q' v H) : TEv K c m σ H Q' := by
  obtain ⟨F, r, x, h⟩ := h
  refine ⟨F, r, x, ?_⟩
  cases e : den c.call m r with
  | ok p => rw [e] at h; exact fun v F' H' a b c d => f _ _ (h v F' H' a b c d)
  | exc k => rw [e] at h; exact h
  | stuck => rw [e] at h; exact h
theorem wish_of {K : PySem.W.Frag} {o : Op} {ds : List D} {r : Env} {σ : St} {F H : Hp} {Q : VK} (x : Stt K c r σ H F) (h : OkE K c r σ F H ((R.opt (opD o ds)).bind fun d => .ok (d, r)) Q) : ∃ d', opD o ds = some d' ∧ Wish K F H d' Q := by
  cases e : opD o ds with
  | none => rw [e] at h; exact h.elim
  | some d =>
    rw [e] at h
    refine ⟨d, rfl, fun v F' H' h1 h2 h3 q' => ?_⟩
    obtain ⟨x', ef⟩ := x.grown h1 h2 h3
    exact h v F' H' x' ef (fun _ z => z) q'
theorem bind_assoc' {α β γ : Type} (x : R α) (f : α → R β) (g : β → R γ) : (x.bind f).bind g = x.bind fun a => (f a).bind g := by cases x <;> rfl
/-- two, three operands, one after another: what is known behind the last -/
theorem tev_two {K : PySem.W.Frag} {o : Op} {σ : St} {H : Hp} {Q : VK} {G : V → V → Hp → Prop} (h : TEv K c (.op o (.cons a (.cons b .nil))) σ H Q)
    (g : ∀ d1 d2 d' x y F2 H2, Same F2 H2 → Dn K F2 x d1 → Dn K F2 y d2 → opD o [d1, d2] = some d' → Wish K F2 H2 d' Q → G x y H2) : TEv K c a σ H fun x H1 => TEv K c b σ H1 fun y H2 => G x y H2 := by
  obtain ⟨F, r, x, h⟩ := h
  simp only [den, bind_assoc', R.ok_bind] at h
  refine ⟨F, r, x, OkE.bind h fun d1 r1 v F1 H1 ⟨x1, _, _, q1⟩ h1 => ⟨F1, r1, x1, OkE.bind h1 fun d2 r2 u F2 H2 ⟨x2, e2, _, q2⟩ h2 => ?_⟩⟩
  obtain ⟨d', ed, w⟩ := wish_of (ds := [d1, d2]) x2 h2
  exact g d1 d2 d' v u F2 H2 x2.rel.same (dn_same (e2.same x1.rel) q1) q2 ed w
theorem tev_three {K : PySem.W.Frag} {o : Op} {e' : E} {σ : St} {H : Hp} {Q : VK} {G : V → V → V → Hp → Prop} (h : TEv K c (.op o (.cons a (.cons b (.cons e' .nil)))) σ H Q)
    (g : ∀ d1 d2 d3 d' x y z F2 H2, Same F2 H2 → Dn K F2 x d1 → Dn K F2 y d2 → Dn K F2 z d3 → opD o [d1, d2, d3] = some d' → Wish K F2 H2 d' Q → G x y z H2) : TEv K c a σ H fun x H1 => TEv K c b σ H1 fun y H2 => TEv K c e' σ H2 fun z H3 => G x y z H3 := by
  obtain ⟨F, r, x, h⟩ := h
  simp only [den, bind_assoc', R.ok_bind] at h
  refine ⟨F, r, x, OkE.bind h fun d1 r1 v F1 H1 ⟨x1, _, _, q1⟩ h1 => ⟨F1, r1, x1, OkE.bind h1 fun d2 r2 u F2 H2 ⟨x2, e2, _, q2⟩ h2 => ⟨F2, r2, x2, OkE.bind h2 fun d3 r3 t F3 H3 ⟨x3, e3, _, q3⟩ h3 => ?_⟩⟩⟩
  obtain ⟨d', ed, w⟩ := wish_of (ds := [d1, d2, d3]) x3 h3
  exact g d1 d2 d3 d' v u t F3 H3 x3.rel.same (dn_same (e3.same x2.rel) (dn_same (e2.same x1.rel) q1)) (dn_same (e3.same x2.rel) q2) q3 ed w
/-- a part of a slice: given -/
theorem part_int {K : PySem.W.Frag} {F : Hp} {v : V} {d dx dh dd : D} (q : Dn K F v d) (e : opD .slice [dx, d, dh] = some dd ∨ opD .slice [dx, dh, d] = some dd) : (d = .none) ∨ ∃ i, d = .int i ∧ v = .int i := by
  have hc : ∀ n k, clamp n k d ≠ none ∨ clamp n k d = none := fun n k => by cases clamp n k d <;> simp
  cases d with
  | none => exact .inl rfl
  | int i => exact .inr ⟨i, rfl, dn_int q⟩
  | bool _ => exfalso; rcases e with e | e <;> (cases dx <;> simp [opD, dop_slice, clamp, guardO] at e)
  | str _ => exfalso; rcases e with e | e <;> (cases dx <;> simp [opD, dop_slice, clamp, guardO] at e)
  | list _ => exfalso; rcases e with e | e <;> (cases dx <;> simp [opD, dop_slice, clamp, guardO] at e)
  | tuple _ => exfalso; rcases e with e | e <;> (cases dx <;> simp [opD, dop_slice, clamp, guardO] at e)
  | dict _ => exfalso; rcases e with e | e <;> (cases dx <;> simp [opD, dop_slice, clamp, guardO] at e)
end
end Bm
end
section
set_option Elab.async false
set_option linter.all false
set_option maxRecDepth 100000
set_option maxHeartbeats 1000000
/-! Slices; built-in functions over lists; displays; occurrences of one sign. -/
namespace Bm
open PySem PySem.Spec L2
/-! ### one sign in a text -/
section
open PySem.Builtin.Str PySem.StrLaws
theorem subAt1 (x : Str) (k i : Nat) (hi : i + 1 ≤ x.length) : subAt x ⟨#[k]⟩ i = decide ((toL x)[i]? = some k) := by
  have h := subAt_one x k i
  have hl : (⟨#[k]⟩ : Str).length = 1 := rfl
  rw [hl] at h
  by_cases hk : (toL x)[i]? = some k
  · rw [decide_eq_true hk]; exact (h.mpr hk).2
  · rw [decide_eq_false hk]
    cases hs : subAt x ⟨#[k]⟩ i with
    | false => rfl
    | true => exact absurd (h.mp ⟨hi, hs⟩) hk
/-- the loop over the places, for one sign -/
theorem occ1_loop (x : Str) (k limit : Nat) : ∀ (n a : Nat) (f : Array Nat) (free : Nat), a + n = x.length + 1 → free ≤ a →
    (forIn (List.range' a n) (f, free) (occBody x ⟨#[k]⟩ x.length limit)).run.fst.toList = f.toList ++ ((List.range' a n).filter fun i => decide ((toL x)[i]? = some k)).take (limit - f.size)
  | 0, a, f, free, _, _ => by simp
  | n + 1, a, f, free, ha, hf => by
    rw [List.range'_succ, List.forIn_cons]
    have hlk : (⟨#[k]⟩ : Str).length = 1 := rfl
    unfold occBody
    rw [hlk]
    by_cases hk : (toL x)[a]? = some k
    · have hlt : a < x.length := by
        have := (List.getElem?_eq_some_iff.mp hk).1
        rw [len_toL] at this; exact this
      rw [show (a :: List.range' (a + 1) n).filter (fun i => decide ((toL x)[i]? = some k)) = a :: (List.range' (a + 1) n).filter (fun i => decide ((toL x)[i]? = some k)) by rw [List.filter_cons, if_pos (decide_eq_true hk)]]
      by_cases hs : f.size < limit
      · rw [if_pos ⟨⟨⟨hs, hf⟩, by omega⟩, by rw [subAt1 x k a (by omega)]; exact decide_eq_true hk⟩]
        have ih := occ1_loop x k limit n (a + 1) (f.push a) (a + 1) (by omega) (Nat.le_refl _)
        unfold occBody at ih
        rw [hlk] at ih
        refine ih.trans ?_
        rw [Array.toList_push, Array.size_push, List.append_assoc]
        congr 1
        obtain ⟨j, hj⟩ : ∃ j, limit - f.size = j + 1 := ⟨limit - f.size - 1, by omega⟩
        rw [hj, List.take_succ_cons, show limit - (f.size + 1) = j by omega]
        rfl
      · rw [if_neg (fun z => hs z.1.1.1)]
        have ih := occ1_loop x k limit n (a + 1) f free (by omega) (by omega)
        unfold occBody at ih
        rw [hlk] at ih
        refine ih.trans ?_
        have hz : limit - f.size = 0 := by omega
        rw [hz, List.take_zero, List.take_zero]
    · rw [show (a :: List.range' (a + 1) n).filter (fun i => decide ((toL x)[i]? = some k)) = (List.range' (a + 1) n).filter (fun i => decide ((toL x)[i]? = some k)) by rw [List.filter_cons, if_neg (by simp [hk])]]
      have ih := occ1_loop x k limit n (a + 1) f free (by omega) (by omega)
      unfold occBody at ih
      rw [hlk] at ih
      by_cases hle : a + 1 ≤ x.length
      · rw [if_neg (fun z => by rw [subAt1 x k a hle] at z; exact hk (of_decide_eq_true z.2))]
        exact ih
      · rw [if_neg (fun z => hle z.1.2)]
        exact ih
theorem occ1 (x : Str) (k lo limit : Nat) (h : lo ≤ x.length) : occurrences x ⟨#[k]⟩ lo x.length limit = ((List.range' lo (x.length + 1 - lo)).filter fun i => decide ((toL x)[i]? = some k)).take limit := by
  rw [occ_eq, occ1_loop x k limit _ lo #[] lo (by omega) (Nat.le_refl _)]
  simp
/-- its places as a list's places -/
theorem filter_pos (l : List Nat) (k : Nat) : ∀ (n a : Nat), a + n = l.length + 1 → (((List.range' a n).filter fun i => decide (l[i]? = some k)).head? = posFrom k l a ∧ ((List.range' a n).filter fun i => decide (l[i]? = some k)).length = ((l.drop a).filter fun c => c == k).length)
  | 0, a, h => by
    have : l.drop a = [] := List.drop_eq_nil_of_le (by omega)
    simp [posFrom, this, posOf]
  | n + 1, a, h => by
    rw [List.range'_succ]
    obtain ⟨i1, i2⟩ := filter_pos l k n (a + 1) (by omega)
    by_cases hl : a < l.length
    · have hd : l.drop a = l[a] :: l.drop (a + 1) := List.drop_eq_getElem_cons hl
      have hg : l[a]? = some l[a] := List.getElem?_eq_getElem hl
      by_cases hk : l[a] = k
      · rw [List.filter_cons_of_pos (by rw [hg, hk]; simp)]
        unfold posFrom
        rw [hd]
        simp only [posOf, hk, if_true, List.head?_cons, Option.map_some, Nat.zero_add, List.length_cons]
        refine ⟨trivial, ?_⟩
        rw [List.filter_cons_of_pos (by simp), List.length_cons, i2]
      · rw [List.filter_cons_of_neg (by rw [hg]; simpa using hk)]
        refine ⟨?_, ?_⟩
        · rw [i1]
          unfold posFrom
          rw [hd]
          simp only [posOf, hk, if_false, Option.map_map]
          congr 1
          funext z
          simp only [Function.comp]
          omega
        · rw [i2, hd, List.filter_cons_of_neg (by simpa using hk)]
    · have hn : l[a]? = none := List.getElem?_eq_none (by omega)
      have hn0 : n = 0 := by omega
      subst hn0
      have hd : l.drop a = [] := List.drop_eq_nil_of_le (by omega)
      simp [hn, posFrom, hd, posOf]
theorem head_take {l : List Nat} : (match l.take 1 with | i :: _ => (i : Int) | [] => -1) = posInt l.head? := by
  cases l <;> rfl
theorem find1_eq (x : Str) (k : Nat) : Txt.find x ⟨#[k]⟩ = posInt (posOf k (toL x)) := by
  unfold Txt.find
  rw [occ1 x k 0 1 (Nat.zero_le _)]
  refine (head_take (l := ((List.range' 0 (x.length + 1 - 0)).filter fun i => decide ((toL x)[i]? = some k)))).trans ?_
  have := (filter_pos (toL x) k (x.length + 1 - 0) 0 (by rw [len_toL]; omega)).1
  rw [this]
  unfold posFrom
  rw [List.drop_zero]
  simp
theorem find3_eq (x : Str) (k : Nat) (i : Int) (h0 : 0 ≤ i) (h1 : i.toNat ≤ (toL x).length) : Txt.find3 x ⟨#[k]⟩ i = posInt (posFrom k (toL x) i.toNat) := by
  unfold Txt.find3
  have hf : fromIndex x.length i = i.toNat := by
    unfold fromIndex
    rw [if_neg (by omega)]
    omega
  rw [hf, occ1 x k i.toNat 1 (by rw [len_toL] at h1; exact h1)]
  refine (head_take (l := ((List.range' i.toNat (x.length + 1 - i.toNat)).filter fun i => decide ((toL x)[i]? = some k)))).trans ?_
  rw [(filter_pos (toL x) k (x.length + 1 - i.toNat) i.toNat (by rw [len_toL] at h1 ⊢; omega)).1]
theorem count1_eq (x : Str) (k : Nat) : Txt.count x ⟨#[k]⟩ = (((toL x).filter fun c => c == k).length : Nat) := by
  unfold Txt.count
  rw [occ1 x k 0 _ (Nat.zero_le _)]
  have h2 := (filter_pos (toL x) k (x.length + 1 - 0) 0 (by rw [len_toL]; omega)).2
  rw [List.drop_zero] at h2
  rw [List.length_take, h2]
  have : ((toL x).filter fun c => c == k).length ≤ x.length := by rw [← len_toL]; exact List.length_filter_le _ _
  congr 1
  omega
end
section
variable {X : Cx} {c : Cfg} {e e1 e2 e3 : Expr} {es : List Expr} {a b m : E} {pos : Pos}
/-! ### slices -/
theorem slice_int {dx dl dh dd : D} (e : opD .slice [dx, dl, dh] = some dd) : (dl = .none ∨ ∃ i, dl = .int i) ∧ (dh = .none ∨ ∃ i, dh = .int i) := by
  simp only [opD] at e
  have cl : ∀ {n k j : Nat} {z : D}, clamp n k z = some j → (z = .none ∨ ∃ i, z = .int i) := fun {n k j z} h => by
    cases z with
    | none => exact .inl rfl
    | int i => exact .inr ⟨i, rfl⟩
    | _ => cases h
  have go : ∀ {n : Nat} {α : Type} {f : Nat → Nat → α} {y : α}, ((clamp n 0 dl).bind fun a => (clamp n n dh).map fun b => f a b) = some y → (dl = .none ∨ ∃ i, dl = .int i) ∧ (dh = .none ∨ ∃ i, dh = .int i) := fun {n α f y} h => by
    cases h1 : clamp n 0 dl with
    | none => rw [h1] at h; cases h
    | some k =>
      rw [h1] at h
      cases h2 : clamp n n dh with
      | none => simp only [Option.bind_some, h2] at h; cases h
      | some k2 => exact ⟨cl h1, cl h2⟩
  cases dx with
  | list l => exact go e
  | tuple l => exact go e
  | str z => exact go (guardO_some e).2
  | none => cases e
  | bool _ => cases e
  | int _ => cases e
  | dict _ => cases e
theorem tev_lit {K : PySem.W.Frag} {d : D} {v : V} {σ : St} {H : Hp} {Q : VK} (h : TEv K c (.lit d) σ H Q) (q : ∀ F, Dn K F v d) : Q v H := by
  obtain ⟨F, r, x, h⟩ := h
  exact h v F H x Ef.refl (fun _ z => z) (q F)
theorem dn_none {K : PySem.W.Frag} {F : Hp} {v : V} (q : Dn K F v .none) : v = .non := by
  have q' : Dp K F v .none := q
  cases q'; rfl
theorem isI_int {K : PySem.W.Frag} {F : Hp} {v : V} {d : D} (q : Dn K F v d) (h : isI d = true) : ∃ i, d = .int i ∧ v = .int i := by
  cases d with
  | int i => exact ⟨i, rfl, dn_int q⟩
  | _ => cases h
theorem sv_slcL {p2 : Pos} {lo : E} (h1 : PE X e1 (TEv X.K c a)) (h2 : PE X e2 (TEv X.K c lo)) : PE X (.Subscript e1 (.Slice (some e2) none none p2) pos) (TEv X.K c (.slcL a lo)) := by
  refine PE.mono (pe_slice sl_any h1 (po_some h2) po_none) fun σ H Q ⟨F, r, x, h⟩ => ?_
  simp only [den] at h
  refine ⟨F, r, x, OkE.bind h fun d1 r1 v F1 H1 ⟨x1, _, _, q1⟩ h1 => ⟨F1, r1, x1, OkE.bind h1 fun d2 r2 u F2 H2 ⟨x2, e2, _, q2⟩ h2 => ?_⟩⟩
  simp only at h2
  cases hp2 : isI d2 with
  | false => rw [hp2] at h2; exact h2.elim
  | true =>
    rw [hp2, if_pos rfl] at h2
    obtain ⟨i, rfl, rfl⟩ := isI_int q2 hp2
    obtain ⟨d', ed, w⟩ := wish_of (o := .slice) (ds := [d1, .int i, .none]) x2 h2
    exact ⟨i, rfl, slice_go x2.rel.same (dn_same (e2.same x1.rel) q1) (.inr ⟨i, rfl, rfl⟩) (.inl ⟨rfl, rfl⟩) ed w⟩
theorem sv_slcH {p2 : Pos} {hi : E} (h1 : PE X e1 (TEv X.K c a)) (h2 : PE X e2 (TEv X.K c hi)) : PE X (.Subscript e1 (.Slice none (some e2) none p2) pos) (TEv X.K c (.slcH a hi)) := by
  refine PE.mono (pe_slice sl_any h1 po_none (po_some h2)) fun σ H Q ⟨F, r, x, h⟩ => ?_
  simp only [den] at h
  refine ⟨F, r, x, OkE.bind h fun d1 r1 v F1 H1 ⟨x1, _, _, q1⟩ h1 => ⟨F1, r1, x1, OkE.bind h1 fun d2 r2 u F2 H2 ⟨x2, e2, _, q2⟩ h2 => ?_⟩⟩
  simp only at h2
  cases hp2 : isI d2 with
  | false => rw [hp2] at h2; exact h2.elim
  | true =>
    rw [hp2, if_pos rfl] at h2
    obtain ⟨i, rfl, rfl⟩ := isI_int q2 hp2
    obtain ⟨d', ed, w⟩ := wish_of (o := .slice) (ds := [d1, .none, .int i]) x2 h2
    exact ⟨i, rfl, slice_go x2.rel.same (dn_same (e2.same x1.rel) q1) (.inl ⟨rfl, rfl⟩) (.inr ⟨i, rfl, rfl⟩) ed w⟩
theorem sv_slcB {p2 : Pos} {lo hi : E} (h1 : PE X e1 (TEv X.K c a)) (h2 : PE X e2 (TEv X.K c lo)) (h3 : PE X e3 (TEv X.K c hi)) : PE X (.Subscript e1 (.Slice (some e2) (some e3) none p2) pos) (TEv X.K c (.slcB a lo hi)) := by
  refine PE.mono (pe_slice sl_any h1 (po_some h2) (po_some h3)) fun σ H Q ⟨F, r, x, h⟩ => ?_
  simp only [den] at h
  refine ⟨F, r, x, OkE.bind h fun d1 r1 v F1 H1 ⟨x1, _, _, q1⟩ h1 => ⟨F1, r1, x1, OkE.bind h1 fun d2 r2 u F2 H2 ⟨x2, e2, _, q2⟩ h2 => ?_⟩⟩
  simp only at h2
  cases hp2 : isI d2 with
  | false => rw [hp2] at h2; exact h2.elim
  | true =>
    rw [hp2, if_pos rfl] at h2
    obtain ⟨i, rfl, rfl⟩ := isI_int q2 hp2
    refine ⟨i, rfl, F2, r2, x2, OkE.bind h2 fun d3 r3 t F3 H3 ⟨x3, e3, _, q3⟩ h3 => ?_⟩
    simp only at h3
    cases hp3 : isI d3 with
    | false => rw [hp3] at h3; exact h3.elim
    | true =>
      rw [hp3, if_pos rfl] at h3
      obtain ⟨j, rfl, rfl⟩ := isI_int q3 hp3
      obtain ⟨d', ed, w⟩ := wish_of (o := .slice) (ds := [d1, .int i, .int j]) x3 h3
      exact ⟨j, rfl, slice_go x3.rel.same (dn_same (e3.same x2.rel) (dn_same (e2.same x1.rel) q1)) (.inr ⟨i, rfl, rfl⟩) (.inr ⟨j, rfl, rfl⟩) ed w⟩
/-! ### built-in functions -/
theorem os_len {K : PySem.W.Frag} : OpS K .len (fun xs H Q => ∃ x n, xs = [x] ∧ LenV K x H n ∧ Q (.int n) H) := by
  intro ds d vs F H Q s q e w
  simp only [opD] at e; unfold dop_len at e
  split at e
  · obtain ⟨hl, e⟩ := guardO_some e
    cases e
    match q with
    | .cons q1 .nil =>
      have h1 := dn_str q1; subst h1
      rw [decide_eq_true_eq, len_toL] at hl
      rw [len_toL] at w
      exact ⟨_, _, rfl, ⟨lim_line hl, rfl⟩, Wish.here w s (Dp.int _)⟩
  · cases e
    match q with
    | .cons q1 .nil =>
      obtain ⟨p, xs, rfl, h1, h2⟩ := dn_list q1
      rw [← dpa_len h2] at w
      exact ⟨_, _, rfl, .inl ⟨xs, SqL.of (s _ _ h1), rfl⟩, Wish.here w s (Dp.int _)⟩
  · cases e
    match q with
    | .cons q1 .nil =>
      obtain ⟨p, xs, rfl, h1, h2⟩ := dn_tuple q1
      rw [← dpa_len h2] at w
      exact ⟨_, _, rfl, .inr ⟨xs, SqT.of (s _ _ h1), rfl⟩, Wish.here w s (Dp.int _)⟩
  · cases e
theorem sv_len {p : Pos} (hg : Gl X "len") (hm : X.mg "len" = none) (ha : PE X e (TEv X.K c a)) (he : starEach [e] X.env = (false, eval e X.env) :: starEach [] X.env := by rfl) : PE X (.Call (.Name "len" p) [e] [] pos) (TEv X.K c (.op .len (.cons a .nil))) :=
  sv_callB os_len call_len hg hm boot_len' (sa_cons ha sa_nil he) (by decide) (by decide) he rfl
theorem allBool_of {K : PySem.W.Frag} {F : Hp} : ∀ {l : List D} {bs : List Bool} {vs : List V}, allBool l = some bs → DpAll K F vs l → vs = bs.map V.bl
  | [], bs, vs, h, q => by cases h; cases q; rfl
  | d :: r, bs, vs, h, q => by
    cases d with
    | bool b =>
      simp only [allBool] at h
      cases hr : allBool r with
      | none => rw [hr] at h; cases h
      | some bs' =>
        rw [hr] at h; cases h
        cases q with
        | cons q1 q2 => cases q1; rw [allBool_of hr q2]; rfl
    | _ => cases h
theorem allInt_of {K : PySem.W.Frag} {F : Hp} : ∀ {l : List D} {bs : List Int} {vs : List V}, allInt l = some bs → DpAll K F vs l → vs = bs.map V.int
  | [], bs, vs, h, q => by cases h; cases q; rfl
  | d :: r, bs, vs, h, q => by
    cases d with
    | int b =>
      simp only [allInt] at h
      cases hr : allInt r with
      | none => rw [hr] at h; cases h
      | some bs' =>
        rw [hr] at h; cases h
        cases q with
        | cons q1 q2 => cases q1; rw [allInt_of hr q2]; rfl
    | _ => cases h
theorem allStr_of {K : PySem.W.Frag} {F : Hp} : ∀ {l : List D} {bs : List (List Nat)} {vs : List V}, allStr l = some bs → DpAll K F vs l → vs = (bs.map st).map V.str
  | [], bs, vs, h, q => by cases h; cases q; rfl
  | d :: r, bs, vs, h, q => by
    cases d with
    | str b =>
      simp only [allStr] at h
      cases hr : allStr r with
      | none => rw [hr] at h; cases h
      | some bs' =>
        rw [hr] at h; cases h
        cases q with
        | cons q1 q2 => cases q1; rw [allStr_of hr q2]; simp
    | _ => cases h
theorem os_all {K : PySem.W.Frag} : OpS K .all (rAll K) := by
  intro ds d vs F H Q s q e w
  simp only [opD] at e; unfold dop_all at e
  split at e
  · rename_i l
    cases hb : allBool l with
    | none => rw [hb] at e; cases e
    | some bs =>
      rw [hb] at e; cases e
      match q with
      | .cons q1 .nil =>
        obtain ⟨p, xs, rfl, h1, h2⟩ := dn_list q1
        have hv := allBool_of hb h2
        subst hv
        exact ⟨p, bs, rfl, SqL.of (s _ _ h1), Wish.here w s (Dp.bl _)⟩
  · cases e
theorem os_any {K : PySem.W.Frag} : OpS K .any (rAny K) := by
  intro ds d vs F H Q s q e w
  simp only [opD] at e; unfold dop_any at e
  split at e
  · rename_i l
    cases hb : allBool l with
    | none => rw [hb] at e; cases e
    | some bs =>
      rw [hb] at e; cases e
      match q with
      | .cons q1 .nil =>
        obtain ⟨p, xs, rfl, h1, h2⟩ := dn_list q1
        have hv := allBool_of hb h2
        subst hv
        exact ⟨p, bs, rfl, SqL.of (s _ _ h1), Wish.here w s (Dp.bl _)⟩
  · cases e
theorem os_sum {K : PySem.W.Frag} : OpS K .sum (rSum K) := by
  intro ds d vs F H Q s q e w
  simp only [opD] at e; unfold dop_sum at e
  split at e
  · rename_i l
    cases hb : allInt l with
    | none => rw [hb] at e; cases e
    | some bs =>
      rw [hb] at e; cases e
      match q with
      | .cons q1 .nil =>
        obtain ⟨p, xs, rfl, h1, h2⟩ := dn_list q1
        have hv := allInt_of hb h2
        subst hv
        exact ⟨p, bs, rfl, SqL.of (s _ _ h1), Wish.here w s (Dp.int _)⟩
  · cases e
theorem sv_all {p : Pos} (hc : X.calm = true) (hg : Gl X "all") (hm : X.mg "all" = none) (ha : PE X e (TEv X.K c a)) (he : starEach [e] X.env = (false, eval e X.env) :: starEach [] X.env := by rfl) : PE X (.Call (.Name "all" p) [e] [] pos) (TEv X.K c (.op .all (.cons a .nil))) :=
  sv_callB os_all (cr_all hc) hg hm boot_all' (sa_cons ha sa_nil he) (by decide) (by decide) he rfl
theorem sv_any {p : Pos} (hc : X.calm = true) (hg : Gl X "any") (hm : X.mg "any" = none) (ha : PE X e (TEv X.K c a)) (he : starEach [e] X.env = (false, eval e X.env) :: starEach [] X.env := by rfl) : PE X (.Call (.Name "any" p) [e] [] pos) (TEv X.K c (.op .any (.cons a .nil))) :=
  sv_callB os_any (cr_any hc) hg hm boot_any' (sa_cons ha sa_nil he) (by decide) (by decide) he rfl
theorem sv_sum {p : Pos} (hc : X.calm = true) (hg : Gl X "sum") (hm : X.mg "sum" = none) (ha : PE X e (TEv X.K c a)) (he : starEach [e] X.env = (false, eval e X.env) :: starEach [] X.env := by rfl) : PE X (.Call (.Name "sum" p) [e] [] pos) (TEv X.K c (.op .sum (.cons a .nil))) :=
  sv_callB os_sum (cr_sum hc) hg hm boot_sum' (sa_cons ha sa_nil he) (by decide) (by decide) he rfl
/-! tuple(list) -/
theorem os_tuple {K : PySem.W.Frag} : OpS K .tuple (fun xs H Q => ∃ p ys, xs = [.ref p] ∧ ((SqL K H p ys ∧ ∀ l, H l = none → Q (.ref l) (upd H l (.tup ys))) ∨ (SqT K H p ys ∧ Q (.ref p) H))) := by
  intro ds d vs F H Q s q e w
  simp only [opD] at e; unfold dop_tuple at e
  split at e
  · cases e
    match q with
    | .cons q1 .nil =>
      obtain ⟨p, xs, rfl, h1, h2⟩ := dn_list q1
      exact ⟨p, xs, rfl, .inl ⟨SqL.of (s _ _ h1), fun l nl => Wish.tup w s nl h2⟩⟩
  · cases e
theorem sv_tuple {p : Pos} (hg : Gl X "tuple") (hm : X.mg "tuple" = none) (ha : PE X e (TEv X.K c a)) (he : starEach [e] X.env = (false, eval e X.env) :: starEach [] X.env := by rfl) : PE X (.Call (.Name "tuple" p) [e] [] pos) (TEv X.K c (.op .tuple (.cons a .nil))) :=
  sv_callTy os_tuple call_tuple_of hg hm boot_tup' (sa_cons ha sa_nil he) (by decide) (by decide) he rfl
/-! displays -/
theorem dna_dpa {K : PySem.W.Frag} {F : Hp} : ∀ {vs : List V} {ds : List D}, DnAll K F vs ds → ds.all nd = true → DpAll K F vs ds
  | _, _, .nil, _ => .nil
  | _, _, .cons h t, ha => by
    rw [List.all_cons, Bool.and_eq_true] at ha
    exact .cons (h.dp (nd_of ha.1)) (dna_dpa t ha.2)
theorem sv_mkt {k} (ha : PA X es (TAv X.K c a)) : PE X (.Tuple es k pos) (TEv X.K c (.op .mkt a)) := by
  refine PE.mono (pe_tup ha) fun σ H Q h => ?_
  refine tev_op (rr := fun xs H1 Q => xs.length ≤ sizeLine ∧ ∀ p, H1 p = none → Q (.ref p) (upd H1 p (.tup xs))) ?_ h
  intro ds d vs F H Q s q e w
  simp only [opD] at e; unfold dop_mkt at e
  obtain ⟨h1, e⟩ := guardO_some e
  cases e
  rw [Bool.and_eq_true, decide_eq_true_eq] at h1
  have qd := dna_dpa q h1.2
  exact ⟨by rw [dpa_len qd]; exact lim_line h1.1, fun p np => Wish.tup w s np qd⟩
theorem sv_mkl (ha : PA X es (TAv X.K c a)) : PE X (.List es pos) (TEv X.K c (.op .mkl a)) := by
  refine PE.mono (pe_lst ha) fun σ H Q h => ?_
  refine tev_op (rr := fun xs H1 Q => xs.length ≤ sizeLine ∧ ∀ p, H1 p = none → Q (.ref p) (upd H1 p (.lst xs))) ?_ h
  intro ds d vs F H Q s q e w
  simp only [opD] at e; unfold dop_mkl at e
  obtain ⟨h1, e⟩ := guardO_some e
  cases e
  rw [Bool.and_eq_true, decide_eq_true_eq] at h1
  have qd := dna_dpa q h1.2
  exact ⟨by rw [dpa_len qd]; exact lim_line h1.1, fun p np => Wish.lst w s np qd⟩
/-! max(a, b), min(a, b) -/
theorem max2_of {l : List D} {d : D} (h : opD .max2 l = some d) : ∃ i j, l = [.int i, .int j] ∧ d = .int (if j > i then j else i) := by
  simp only [opD] at h; unfold dop_max2 at h
  split at h
  · cases h; exact ⟨_, _, rfl, rfl⟩
  · cases h
theorem min2_of {l : List D} {d : D} (h : opD .min2 l = some d) : ∃ i j, l = [.int i, .int j] ∧ d = .int (if j < i then j else i) := by
  simp only [opD] at h; unfold dop_min2 at h
  split at h
  · cases h; exact ⟨_, _, rfl, rfl⟩
  · cases h
theorem sv_max2 {p : Pos} (hc : X.calm = true) (hg : Gl X "max") (hm : X.mg "max" = none) (ha : PA X [e1, e2] (TAv X.K c a)) (he : starEach [e1, e2] X.env = (false, eval e1 X.env) :: starEach [e2] X.env := by rfl) (hpl : (backTo pos (starEach [e2] X.env)).any (·.1) = false := by rfl) : PE X (.Call (.Name "max" p) [e1, e2] [] pos) (TEv X.K c (.op .max2 a)) := by
  refine sv_callB (rr := fun xs H Q => ∃ i j, xs = [.int i, .int j] ∧ Q (.int (if j > i then j else i)) H) ?_ (call_max2 hc) hg hm boot_max' ha (by decide) (by decide) he hpl
  intro ds d vs F H Q s q e w
  obtain ⟨i, j, rfl, rfl⟩ := max2_of e
  match q with
  | .cons q1 (.cons q2 .nil) => exact ⟨i, j, by rw [dn_int q1, dn_int q2], Wish.here w s (Dp.int _)⟩
theorem sv_min2 {p : Pos} (hc : X.calm = true) (hg : Gl X "min") (hm : X.mg "min" = none) (ha : PA X [e1, e2] (TAv X.K c a)) (he : starEach [e1, e2] X.env = (false, eval e1 X.env) :: starEach [e2] X.env := by rfl) (hpl : (backTo pos (starEach [e2] X.env)).any (·.1) = false := by rfl) : PE X (.Call (.Name "min" p) [e1, e2] [] pos) (TEv X.K c (.op .min2 a)) := by
  refine sv_callB (rr := fun xs H Q => ∃ i j, xs = [.int i, .int j] ∧ Q (.int (if j < i then j else i)) H) ?_ (call_min2 hc) hg hm boot_min' ha (by decide) (by decide) he hpl
  intro ds d vs F H Q s q e w
  obtain ⟨i, j, rfl, rfl⟩ := min2_of e
  match q with
  | .cons q1 (.cons q2 .nil) => exact ⟨i, j, by rw [dn_int q1, dn_int q2], Wish.here w s (Dp.int _)⟩
end
end Bm
end
section
set_option Elab.async false
set_option linter.all false
set_option maxRecDepth 100000
set_option maxHeartbeats 1000000
/-! Methods of texts; products; sorted; min. -/
namespace Bm
open PySem PySem.Spec L2
section
variable {X : Cx} {c : Cfg} {e e1 e2 e3 : Expr} {es : List Expr} {a b m : E} {pos : Pos}
/-- x.m(e), x a text -/
theorem tev_meth {K : PySem.W.Frag} {o : Op} {σ : St} {H : Hp} {Q : VK} {G : V → List V → Hp → Prop} (h : TEv K c (.meth o a b) σ H Q)
    (g : ∀ z ds d' vs F2 H2, Same F2 H2 → DnAll K F2 vs ds → opD o (.str z :: ds) = some d' → Wish K F2 H2 d' Q → G (.str z) vs H2) : TEv K c a σ H fun x H1 => (∃ z, x = .str z) ∧ TAv K c b σ H1 fun vs H2 => G x vs H2 := by
  obtain ⟨F, r, x, h⟩ := h
  simp only [den] at h
  refine ⟨F, r, x, OkE.bind h fun d1 r1 v F1 H1 ⟨x1, _, _, q1⟩ h1 => ?_⟩
  cases d1 with
  | str z =>
    simp only at h1
    have hv := dn_str q1; subst hv
    refine ⟨⟨z, rfl⟩, F1, r1, x1, OkA.bind h1 ?_ ?_⟩
    · intro d r1 nl
      cases d <;> first | rfl | exact absurd rfl (nl _)
    · intro ds r2 vs F2 H2 x2 e2 s2 q2 h2
      obtain ⟨d', ed, w⟩ := wish_of (ds := .str z :: ds) x2 h2
      exact g z ds d' vs F2 H2 x2.rel.same q2 ed w
  | none => exact h1.elim
  | bool _ => exact h1.elim
  | int _ => exact h1.elim
  | list _ => exact h1.elim
  | tuple _ => exact h1.elim
  | dict _ => exact h1.elim
theorem tyV_str {K : PySem.W.Frag} {H : Hp} {x : V} (h : ∃ z, x = .str z) : tyV K "str" x H := by
  obtain ⟨z, rfl⟩ := h
  rfl
theorem sv_meth {o : Op} {name : Str} {id : String} {apos cpos : Pos} {rr : V → List V → Hp → VK → Prop} (slot : PySem.Slot "str" name id) (hty : typeOf (.builtin id) = pure (.type "method_descriptor")) (hm : MtR X id rr)
    (hr : ∀ z ds d' vs F H Q, Same F H → DnAll X.K F vs ds → opD o (.str z :: ds) = some d' → Wish X.K F H d' Q → rr (.str z) vs H Q)
    (ho : PE X e1 (TEv X.K c a)) (ha : PA X (e :: es) (TAv X.K c b)) (hbase : attributeBase e1 name X.env (eval e1 X.env) = eval e1 X.env := by rfl)
    (hfew : ((backTo cpos (starEach (e :: es) X.env)).all (fun x => !x.1) && (backToKw cpos (keywordEach [] X.env)).all (fun x => x.1.isSome)
      && decide ((e :: es).length + ([] : List Keyword).length + (if ([] : List Keyword).isEmpty then 0 else 1) < 30)) = true := by rfl)
    (hline : (apos.endLine == cpos.line) = true := by rfl) (hs : starEach (e :: es) X.env = (false, eval e X.env) :: starEach es X.env := by rfl) (hplain : (backTo cpos (starEach es X.env)).any (·.1) = false := by rfl) :
    PE X (.Call (.Attribute e1 name apos) (e :: es) [] cpos) (TEv X.K c (.meth o a b)) := by
  refine PE.mono (pe_bm PySem.F.plainAttrs_str slot hty hm ho ha hbase hfew hline hs hplain) fun σ H Q h => ?_
  have h2 := tev_meth (G := fun x vs H2 => rr x vs H2 Q) h fun z ds d' vs F2 H2 s q e w => hr z ds d' vs F2 H2 Q s q e w
  exact TEv.imp h2 fun x H1 ⟨h3, h4⟩ => ⟨tyV_str h3, h4⟩
theorem rr_find {K : PySem.W.Frag} : ∀ z ds d' vs F H Q, Same F H → DnAll K F vs ds → opD .find (.str z :: ds) = some d' → Wish K F H d' Q → (fun (x : V) (xs : List V) (H : Hp) (Q : VK) => ∃ a b, x = .str a ∧ xs = [.str b] ∧ Q (.int (Txt.find a b)) H) (.str z) vs H Q := by
  intro z ds d' vs F H Q s q e w
  simp only [opD] at e; unfold dop_find at e
  split at e
  · rename_i z' t heq
    cases heq
    match q with
    | .cons q1 .nil =>
      have h1 := dn_str q1; subst h1
      cases hk : sign1 t with
      | none => rw [hk] at e; cases e
      | some k =>
        rw [hk] at e; cases e
        refine ⟨z, t, rfl, rfl, ?_⟩
        rw [sign1_eq hk, find1_eq]
        exact w.here s (Dp.int _)
  · cases e
theorem rr_find2 {K : PySem.W.Frag} : ∀ z ds d' vs F H Q, Same F H → DnAll K F vs ds → opD .find2 (.str z :: ds) = some d' → Wish K F H d' Q → (fun (x : V) (xs : List V) (H : Hp) (Q : VK) => ∃ (a b : Str) (i : Int), x = .str a ∧ xs = [.str b, .int i] ∧ Q (.int (Txt.find3 a b i)) H) (.str z) vs H Q := by
  intro z ds d' vs F H Q s q e w
  simp only [opD] at e; unfold dop_find2 at e
  split at e
  · rename_i z' t i heq
    cases heq
    obtain ⟨hg, e⟩ := guardO_some e
    rw [decide_eq_true_eq] at hg
    match q with
    | .cons q1 (.cons q2 .nil) =>
      have h1 := dn_str q1; subst h1
      have h2 := dn_int q2; subst h2
      cases hk : sign1 t with
      | none => rw [hk] at e; cases e
      | some k =>
        rw [hk] at e; cases e
        refine ⟨z, t, i, rfl, rfl, ?_⟩
        rw [sign1_eq hk, find3_eq _ _ _ hg.1 hg.2]
        exact w.here s (Dp.int _)
  · cases e
theorem rr_count {K : PySem.W.Frag} : ∀ z ds d' vs F H Q, Same F H → DnAll K F vs ds → opD .count (.str z :: ds) = some d' → Wish K F H d' Q → (fun (x : V) (xs : List V) (H : Hp) (Q : VK) => ∃ a b, x = .str a ∧ xs = [.str b] ∧ Q (.int (Txt.count a b)) H) (.str z) vs H Q := by
  intro z ds d' vs F H Q s q e w
  simp only [opD] at e; unfold dop_count at e
  split at e
  · rename_i z' t heq
    cases heq
    match q with
    | .cons q1 .nil =>
      have h1 := dn_str q1; subst h1
      cases hk : sign1 t with
      | none => rw [hk] at e; cases e
      | some k =>
        rw [hk] at e; cases e
        refine ⟨z, t, rfl, rfl, ?_⟩
        rw [sign1_eq hk, count1_eq]
        exact w.here s (Dp.int _)
  · cases e
theorem joinL_eq (sep : List Nat) : ∀ l : List (List Nat), joinL sep l = TL.joinL sep l
  | [] => rfl
  | [_] => rfl
  | x :: y :: r => by
    show x ++ sep ++ joinL sep (y :: r) = x ++ (sep ++ TL.joinL sep (y :: r))
    rw [joinL_eq sep (y :: r), List.append_assoc]
theorem join_dS (sep : Str) (ss : List (List Nat)) : dS (joinL (toL sep) ss) = .str (Txt.join sep (ss.map st)) := by
  unfold dS
  congr 1
  rw [TL.join_eq]
  refine TL.ext_tl ?_
  rw [TL.tl_join]
  show toL (st _) = _
  rw [toL_st, joinL_eq]
  congr 1
  rw [List.map_map]
  conv => lhs; rw [← List.map_id ss]
  refine List.map_congr_left fun x _ => ?_
  show x = toL (st x)
  rw [toL_st]
theorem len_st (l : List Nat) : (st l).length = l.length := by simp [st, Str.length]
theorem rr_join {K : PySem.W.Frag} : ∀ z ds d' vs F H Q, Same F H → DnAll K F vs ds → opD .join (.str z :: ds) = some d' → Wish K F H d' Q → (fun (x : V) (xs : List V) (H : Hp) (Q : VK) => ∃ a p, ∃ ys : List Str, x = .str a ∧ xs = [.ref p] ∧ (SqL K H p (ys.map V.str) ∨ SqT K H p (ys.map V.str)) ∧
    (ys.map (·.length)).sum + ys.length * a.length ≤ 16777216 ∧ Q (.str (Txt.join a ys)) H) (.str z) vs H Q := by
  intro z ds d' vs F H Q s q e w
  have bnd : ∀ ss : List (List Nat), (ss.map List.length).sum + ss.length * (toL z).length ≤ lim → ((ss.map st).map (·.length)).sum + (ss.map st).length * z.length ≤ 16777216 := fun ss h => by
    rw [List.map_map, List.length_map]
    have e1 : ss.map ((fun x : Str => x.length) ∘ st) = ss.map List.length := List.map_congr_left fun x _ => len_st x
    rw [e1, ← len_toL]
    exact Nat.le_trans h (by decide)
  simp only [opD] at e; unfold dop_join at e
  split at e
  · rename_i z' l heq
    cases heq
    cases hs : allStr l with
    | none => rw [hs] at e; cases e
    | some ss =>
      rw [hs] at e
      obtain ⟨hg, e⟩ := guardO_some e
      cases e
      rw [decide_eq_true_eq] at hg
      match q with
      | .cons q1 .nil =>
        obtain ⟨p, xs, rfl, h1, h2⟩ := dn_list q1
        have hv := allStr_of hs h2
        subst hv
        refine ⟨z, p, ss.map st, rfl, rfl, .inl (SqL.of (s _ _ h1)), bnd ss hg, ?_⟩
        rw [join_dS] at w
        exact w.here s (Dp.str _)
  · rename_i z' l heq
    cases heq
    cases hs : allStr l with
    | none => rw [hs] at e; cases e
    | some ss =>
      rw [hs] at e
      obtain ⟨hg, e⟩ := guardO_some e
      cases e
      rw [decide_eq_true_eq] at hg
      match q with
      | .cons q1 .nil =>
        obtain ⟨p, xs, rfl, h1, h2⟩ := dn_tuple q1
        have hv := allStr_of hs h2
        subst hv
        refine ⟨z, p, ss.map st, rfl, rfl, .inr (SqT.of (s _ _ h1)), bnd ss hg, ?_⟩
        rw [join_dS] at w
        exact w.here s (Dp.str _)
  · cases e
/-! split by one plain sign -/
theorem splitBy_ne (k : Nat) : ∀ l, splitBy k l ≠ []
  | [] => by simp [splitBy]
  | a :: r => by
    simp only [splitBy]
    split
    · simp
    · split <;> simp
theorem spl_splitBy (k : Nat) : ∀ (l acc : List Nat), TL.spl [k] 0 acc l = (match splitBy k l with | x :: t => (acc ++ x) :: t | [] => [acc])
  | [], acc => by simp [TL.spl, splitBy]
  | a :: r, acc => by
    have hp : TL.pre [k] (a :: r) = decide (a = k) := by
      unfold TL.pre
      simp only [List.length_cons, List.length_nil, List.take_succ_cons, List.take_zero]
      by_cases h : a = k
      · simp [h]
      · simp [h]
    simp only [TL.spl, hp, splitBy]
    by_cases h : a = k
    · subst h
      simp only [decide_true, if_true, List.length_cons, List.length_nil]
      rw [spl_splitBy a r []]
      cases hs : splitBy a r with
      | nil => exact absurd hs (splitBy_ne a r)
      | cons x t => simp
    · simp only [h, decide_false, Bool.false_eq_true, if_false]
      rw [spl_splitBy k r (acc ++ [a])]
      cases hs : splitBy k r with
      | nil => exact absurd hs (splitBy_ne k r)
      | cons x t => simp
theorem split1_eq (z t : Str) (k : Nat) (ht : toL t = [k]) (hk : k < 128) : Txt.split z t = (splitBy k (toL z)).map st := by
  refine TL.map_tl_inj ?_
  have h1 : TL.tl t = [k] := ht
  rw [TL.split_spl z t (by rw [h1]; simp) (TL.kind_ok ?_), h1, spl_splitBy, List.map_map]
  · cases hs : splitBy k (TL.tl z) with
    | nil => exact absurd hs (splitBy_ne k _)
    | cons x r =>
      have e1 : splitBy k (toL z) = x :: r := hs
      rw [e1]
      simp only [List.nil_append]
      conv => lhs; rw [← List.map_id (x :: r)]
      refine List.map_congr_left fun y _ => ?_
      show y = toL (st y)
      rw [toL_st]
  · have e2 : t = ⟨#[k]⟩ := by rw [← st_toL t, ht]; rfl
    rw [e2]
    simp
    omega
theorem dpa_strs {K : PySem.W.Frag} {F : Hp} : ∀ l : List (List Nat), DpAll K F ((l.map st).map V.str) (l.map dS)
  | [] => .nil
  | x :: r => .cons (.str _) (dpa_strs r)
theorem rr_split {K : PySem.W.Frag} : ∀ z ds d' vs F H Q, Same F H → DnAll K F vs ds → opD .split (.str z :: ds) = some d' → Wish K F H d' Q → (fun (x : V) (xs : List V) (H : Hp) (Q : VK) => ∃ a b, x = .str a ∧ xs = [.str b] ∧ (b.length == 0) = false ∧ a.length + 2 ≤ sizeLine ∧ rNewStrs (Txt.split a b) H Q) (.str z) vs H Q := by
  intro z ds d' vs F H Q s q e w
  simp only [opD] at e; unfold dop_split at e
  split at e
  · rename_i z' t heq
    cases heq
    obtain ⟨hg, e⟩ := guardO_some e
    rw [decide_eq_true_eq, len_toL] at hg
    split at e
    · rename_i k hk
      obtain ⟨hk2, e⟩ := guardO_some e
      rw [decide_eq_true_eq] at hk2
      cases e
      match q with
      | .cons q1 .nil =>
        have h1 := dn_str q1; subst h1
        refine ⟨z, t, rfl, rfl, ?_, ?_, fun p np => ?_⟩
        · rw [← len_toL, hk]; rfl
        · have : lim = 1000000 := rfl
          rw [sizeLine_eq]; omega
        · rw [split1_eq z t k hk hk2]
          exact w.lst s np (dpa_strs _)
    · cases e
  · cases e
end
end Bm
end
section
set_option Elab.async false
set_option linter.all false
set_option maxRecDepth 100000
set_option maxHeartbeats 1000000
/-! Products; sorted; min; list(text). -/
namespace Bm
open PySem PySem.Spec L2
theorem foldl_rep (cs : Array Nat) : ∀ (n : Nat) (acc : Array Nat), ((List.replicate n cs).foldl (· ++ ·) acc).toList = acc.toList ++ (List.replicate n cs.toList).flatten
  | 0, acc => by simp
  | n + 1, acc => by
    rw [List.replicate_succ, List.foldl_cons, foldl_rep cs n (acc ++ cs)]
    simp [List.replicate_succ]
section
variable {X : Cx} {c : Cfg} {e e1 e2 e3 : Expr} {es : List Expr} {a b m : E} {pos : Pos}
/-- text * n -/
theorem op_mulS : OpR X (binaryOp .Mult) (fun x y H Q => ∃ z i, x = .str z ∧ y = .int i ∧ 0 ≤ i ∧ i ≤ 1000 ∧ z.length ≤ 1000 ∧ Q (.str (st (List.replicate i.toNat (toL z)).flatten)) H) := by
  intro pins s σ H x y v u Q I rx ry h
  obtain ⟨z, i, rfl, rfl, h0, h1, hz, q⟩ := h
  obtain ⟨t, rfl⟩ := rx
  obtain ⟨t', rfl⟩ := ry
  have hlen : z.length * i.toNat ≤ 1000000 := by
    have : i.toNat ≤ 1000 := by omega
    calc z.length * i.toNat ≤ 1000 * 1000 := Nat.mul_le_mul hz this
      _ = 1000000 := rfl
  refine PySem.P.mul_str ?_ (fun h2 _ => ?_) (fun h2 _ => ?_) ?_
  · rw [Bool.or_eq_false_iff, decide_eq_false_iff_not, decide_eq_false_iff_not]; omega
  · have h3 : (1 : Int) ≤ i := by omega
    have h4 : (9000000000000000 : Int) ≤ (2 ^ 63 - 1) / i := by
      rw [Int.le_ediv_iff_mul_le (by omega)]
      have : 9000000000000000 * i ≤ 9000000000000000 * 1000 := Int.mul_le_mul_of_nonneg_left h1 (by decide)
      exact Int.le_trans this (by decide)
    omega
  · unfold PySem.Builtin.Str.tooLong
    rw [decide_eq_false_iff_not, sizeLine_eq]
    omega
  · have lenr : ∀ k : Nat, (List.replicate k (toL z)).flatten.length = k * z.length := fun k => by
      simp [len_toL]
    by_cases c1 : i < 1
    · rw [if_pos c1]
      refine ⟨by decide, .str Str.empty, H, I.tok _, ⟨_, rfl⟩, ?_⟩
      have e0 : i.toNat = 0 := by omega
      rw [e0] at q
      exact q
    · rw [if_neg c1]
      by_cases c2 : (i == 1 || z.length == 0) = true
      · rw [if_pos c2]
        refine ⟨.str z, H, I, ⟨_, rfl⟩, ?_⟩
        have e1 : st (List.replicate i.toNat (toL z)).flatten = z := by
          rw [Bool.or_eq_true, beq_iff_eq, beq_iff_eq] at c2
          rcases c2 with c2 | c2
          · subst c2
            show st (List.replicate 1 (toL z)).flatten = z
            simp
          · have hz0 : toL z = [] := List.eq_nil_of_length_eq_zero (by rw [len_toL]; exact c2)
            have : (List.replicate i.toNat (toL z)).flatten = toL z := by rw [hz0]; simp
            rw [this, st_toL]
        rw [e1] at q
        exact q
      · rw [if_neg c2]
        have e2 : (⟨(List.replicate i.toNat z.cps).foldl (· ++ ·) #[]⟩ : Str) = st (List.replicate i.toNat (toL z)).flatten := by
          refine TL.ext_tl ?_
          show ((List.replicate i.toNat z.cps).foldl (· ++ ·) #[]).toList = toL (st _)
          rw [foldl_rep, toL_st]
          rfl
        rw [e2]
        refine ⟨?_, .str _, H, I.tok _, ⟨_, rfl⟩, q⟩
        rw [len_st, lenr, sizeLine_eq]
        rw [Nat.mul_comm]
        omega
def rMulA (K : PySem.W.Frag) : R2 := fun x y H Q => (rI CMul fun i j => .int (i * j)) x y H Q ∨ (rI CMulW fun i j => .int (i * j)) x y H Q ∨ (∃ z i, x = .str z ∧ y = .int i ∧ 0 ≤ i ∧ i ≤ 1000 ∧ z.length ≤ 1000 ∧ Q (.str (st (List.replicate i.toNat (toL z)).flatten)) H) ∨ rRep x y H Q ∨ rRepT K x y H Q
theorem op_mulA : OpR X (binaryOp .Mult) (rMulA X.K) := op_mul.or (op_mulW.or (op_mulS.or (op_rep.or op_repT)))
theorem dpa_rep {K : PySem.W.Frag} {F : Hp} {vs : List V} {l : List D} (h : DpAll K F vs l) : ∀ n : Nat, DpAll K F (List.replicate n vs).flatten (List.replicate n l).flatten
  | 0 => .nil
  | n + 1 => by
    rw [List.replicate_succ, List.replicate_succ, List.flatten_cons, List.flatten_cons]
    exact dpa_app h (dpa_rep h n)
theorem os_mul {K : PySem.W.Frag} : OpS K .mul fun vs H Q => ∃ x y, vs = [x, y] ∧ rMulA K x y H Q := by
  intro ds d vs F H Q s q e w
  simp only [opD] at e; unfold dop_mul at e
  split at e
  · rename_i i j
    obtain ⟨hg, e⟩ := guardO_some e
    cases e
    match q with
    | .cons q1 (.cons q2 .nil) =>
      have h1 := dn_int q1; have h2 := dn_int q2
      subst h1; subst h2
      rw [Bool.or_eq_true, decide_eq_true_eq, decide_eq_true_eq] at hg
      rcases hg with hg | hg
      · exact ⟨_, _, rfl, .inr (.inl ⟨i, j, rfl, rfl, wide_mul hg.1 hg.2 (by decide) (by decide) (by decide), Wish.here w s (Dp.int _)⟩)⟩
      · exact ⟨_, _, rfl, .inl ⟨i, j, rfl, rfl, .inr hg, Wish.here w s (Dp.int _)⟩⟩
  · rename_i z j
    obtain ⟨hg, e⟩ := guardO_some e
    cases e
    rw [decide_eq_true_eq, len_toL] at hg
    match q with
    | .cons q1 (.cons q2 .nil) =>
      have h1 := dn_str q1; have h2 := dn_int q2
      subst h1; subst h2
      exact ⟨_, _, rfl, .inr (.inr (.inl ⟨z, j, rfl, rfl, hg.1, hg.2.1, hg.2.2, Wish.here w s (Dp.str _)⟩))⟩
  · rename_i l j
    obtain ⟨hg, e⟩ := guardO_some e
    cases e
    rw [decide_eq_true_eq] at hg
    match q with
    | .cons q1 (.cons q2 .nil) =>
      obtain ⟨p, xs, rfl, h1, h2⟩ := dn_list q1
      have h3 := dn_int q2; subst h3
      refine ⟨_, _, rfl, .inr (.inr (.inr (.inl ⟨p, j, xs, rfl, rfl, s _ _ h1, by omega, by omega, ?_, fun p' np => Wish.lst w s np (dpa_rep h2 _)⟩)))⟩
      rw [dpa_len h2, sizeLine_eq]
      have : j.toNat ≤ 1000 := by omega
      have := Nat.mul_le_mul hg.2.2 this
      omega
  · rename_i l j
    obtain ⟨hg, e⟩ := guardO_some e
    cases e
    rw [Bool.and_eq_true, decide_eq_true_eq] at hg
    match q with
    | .cons q1 (.cons q2 .nil) =>
      obtain ⟨p, xs, rfl, h1, h2⟩ := dn_tuple q1
      have h3 := dn_int q2; subst h3
      refine ⟨_, _, rfl, .inr (.inr (.inr (.inr ⟨p, j, xs, rfl, rfl, .inl (.inl (s _ _ h1)), fun z => ?_, hg.1.1, hg.1.2.1, by rw [dpa_len h2]; exact hg.1.2.2, fun p' np => Wish.tup w s np (dpa_rep h2 _)⟩)))⟩
      subst z; cases h2
      exact absurd hg.2 (by simp)
  · cases e
theorem sv_mul (ha : PE X e1 (TEv X.K c a)) (hb : PE X e2 (TEv X.K c b)) : PE X (.BinOp e1 .Mult e2 pos) (TEv X.K c (.op .mul (.cons a (.cons b .nil)))) := sv_bin os_mul op_mulA ha hb
/-- int(flag) -/
theorem sv_int_of {p : Pos} (hg : Gl X "int") (hm : X.mg "int" = none) (ha : PE X e (TEv X.K c a)) (he : starEach [e] X.env = (false, eval e X.env) :: starEach [] X.env := by rfl) : PE X (.Call (.Name "int" p) [e] [] pos) (TEv X.K c (.op .int (.cons a .nil))) := by
  refine sv_callTy (rr := fun xs H Q => (∃ i, xs = [.int i] ∧ Q (.int i) H) ∨ ∃ k, xs = [.bl k] ∧ Q (.int (if k then 1 else 0)) H) ?_ call_int1 hg hm boot_int' (sa_cons ha sa_nil he) (by decide) (by decide) he rfl
  intro ds d vs F H Q s q e w
  simp only [opD] at e; unfold dop_int at e
  split at e
  · cases e
    match q with
    | .cons q1 .nil => exact .inr ⟨_, by rw [dn_bool q1], Wish.here w s (Dp.int _)⟩
  · cases e
/-! ### sorted -/
theorem dle_le : (fun x y => dle x y) = PySem.W.dataLe false (fun d : D => d) := by
  rw [PySem.W.dataLe_eq]
  rfl
theorem dle_total : PySem.W.TotalLe dle := by
  have h : PySem.W.TotalLe (PySem.W.dataLe false (fun d : D => d)) := PySem.W.sortLe_total _ _ _
  rw [← dle_le] at h
  exact h
theorem ins_mem (x : D) : ∀ (l : List D) (y : D), y ∈ ins dle x l → y = x ∨ y ∈ l
  | [], y, h => by simp [ins] at h; exact .inl h
  | z :: r, y, h => by
    simp only [ins] at h
    split at h
    · rcases List.mem_cons.mp h with h | h
      · exact .inl h
      · exact .inr h
    · rcases List.mem_cons.mp h with h | h
      · exact .inr (h ▸ List.mem_cons_self)
      · rcases ins_mem x r y h with h | h
        · exact .inl h
        · exact .inr (List.mem_cons_of_mem _ h)
theorem ins_sorted (x : D) : ∀ l : List D, l.Pairwise (fun a b => dle a b = true) → (ins dle x l).Pairwise (fun a b => dle a b = true)
  | [], _ => by simp [ins]
  | z :: r, h => by
    simp only [ins]
    obtain ⟨h1, h2⟩ := List.pairwise_cons.mp h
    split
    · rename_i hx
      refine List.pairwise_cons.mpr ⟨fun y hy => ?_, h⟩
      rcases List.mem_cons.mp hy with hy | hy
      · subst hy; exact hx
      · exact dle_total.trans _ _ _ hx (h1 y hy)
    · rename_i hx
      refine List.pairwise_cons.mpr ⟨fun y hy => ?_, ins_sorted x r h2⟩
      rcases ins_mem x r y hy with hy | hy
      · subst hy
        rcases dle_total.total y z with t | t
        · exact absurd t hx
        · exact t
      · exact h1 y hy
theorem ins_filter (x c : D) : ∀ l : List D, l.Pairwise (fun a b => dle a b = true) → (ins dle x l).filter (PySem.W.sameRank dle c) = (x :: l).filter (PySem.W.sameRank dle c)
  | [], _ => rfl
  | z :: r, h => by
    simp only [ins]
    obtain ⟨h1, h2⟩ := List.pairwise_cons.mp h
    split
    · rfl
    · rename_i hx
      rw [List.filter_cons, ins_filter x c r h2, List.filter_cons, List.filter_cons, List.filter_cons]
      by_cases hxc : PySem.W.sameRank dle c x = true
      · by_cases hzc : PySem.W.sameRank dle c z = true
        · exfalso
          unfold PySem.W.sameRank at hxc hzc
          rw [Bool.and_eq_true] at hxc hzc
          exact hx (dle_total.trans _ _ _ hxc.2 hzc.1)
        · simp [hxc, hzc]
      · simp [hxc]
theorem isort_sorted : ∀ l : List D, (isort dle l).Pairwise (fun a b => dle a b = true)
  | [] => .nil
  | x :: r => ins_sorted x _ (isort_sorted r)
theorem isort_filter (c : D) : ∀ l : List D, (isort dle l).filter (PySem.W.sameRank dle c) = l.filter (PySem.W.sameRank dle c)
  | [] => rfl
  | x :: r => by
    show (ins dle x (isort dle r)).filter _ = _
    rw [ins_filter x c _ (isort_sorted r), List.filter_cons, List.filter_cons, isort_filter c r]
theorem isort_merge (l : List D) : isort dle l = l.mergeSort dle := PySem.W.sort_unique dle_total (isort_sorted l) fun c => isort_filter c l
theorem alikeAs_mem {x : D} : ∀ {l : List D}, alikeAs x l = true → ∀ y ∈ l, PySem.W.alike x y = true ∧ PySem.W.alike y x = true
  | [], _, y, h => by cases h
  | z :: r, h, y, hy => by
    simp only [alikeAs, Bool.and_eq_true] at h
    rcases List.mem_cons.mp hy with hy | hy
    · subst hy; exact h.1
    · exact alikeAs_mem h.2 y hy
theorem allAlike_mem : ∀ {l : List D}, allAlike l = true → PySem.W.AllAlike l
  | [], _ => fun d hd => by cases hd
  | x :: r, h => by
    simp only [allAlike, Bool.and_eq_true] at h
    intro d hd d' hd'
    rcases List.mem_cons.mp hd with z | z
    · rcases List.mem_cons.mp hd' with z' | z'
      · rw [z, z']; exact h.1.1
      · rw [z]; exact (alikeAs_mem h.1.2 d' z').1
    · rcases List.mem_cons.mp hd' with z' | z'
      · rw [z']; exact (alikeAs_mem h.1.2 d z).2
      · exact allAlike_mem h.2 d z d' z'
theorem sortable_of {l : List D} (h : sortable l = true) : PySem.W.Sortable l := by
  unfold sortable at h
  rw [Bool.or_eq_true] at h
  rcases h with h | h
  · refine .inl fun d hd => ?_
    have := List.all_eq_true.mp h d hd
    split at this
    · exact ⟨_, _, rfl⟩
    · cases this
  · refine .inr fun d hd => ?_
    have := List.all_eq_true.mp h d hd
    split at this
    · cases this
    · cases this
    · cases this
    · rename_i n1 n2 n3
      exact ⟨fun e => n1 e, fun xs e => n2 xs e⟩
theorem depth_mem : ∀ {l : List D} {d : D}, d ∈ l → d.depth ≤ PyData.depthAll l
  | x :: r, d, h => by
    rw [PyData.depthAll]
    rcases List.mem_cons.mp h with h | h
    · subst h; exact Nat.le_max_left _ _
    · exact Nat.le_trans (depth_mem h) (Nat.le_max_right _ _)
/-! sorted(list) -/
theorem each_of_dpa {K : PySem.W.Frag} {F : Hp} : ∀ {vs : List V} {ds : List D}, DpAll K F vs ds → ∀ p ∈ vs.zip ds, Dp K F p.1 p.2
  | _, _, .nil, p, h => by cases h
  | _, _, .cons h1 h2, p, h => by
    rw [List.zip_cons_cons] at h
    rcases List.mem_cons.mp h with h | h
    · subst h; exact h1
    · exact each_of_dpa h2 p h
theorem dpa_of_each {K : PySem.W.Frag} {F : Hp} : ∀ (bs : List (V × D)), (∀ p ∈ bs, Dp K F p.1 p.2) → DpAll K F (bs.map (·.1)) (bs.map (·.2))
  | [], _ => .nil
  | p :: r, h => .cons (h p List.mem_cons_self) (dpa_of_each r fun q hq => h q (List.mem_cons_of_mem _ hq))
theorem vals_each : ∀ {us : List Value} {bs : List (V × D)}, PySem.W.EachIs (fun (v : Value) (b : V × D) => RelV b.1 v) us bs → Vals (bs.map (·.1)) us
  | _, _, .nil => .nil
  | _, _, .cons h t => .cons h (vals_each t)
theorem each_zip {F H : Hp} {X : Cx} {pins : List (Addr × Obj)} {σ : St} {s : Shared} (I : Inv X pins σ H s) (sm : Same F H) : ∀ {vs : List V} {ds : List D} {us : List Value}, DpAll X.K F vs ds → Vals vs us →
    PySem.W.EachIs (fun (v : Value) (b : V × D) => RelV b.1 v) us (vs.zip ds) ∧ PySem.W.EachIs (fun (v : Value) (b : V × D) => ∃ as, Reads s.heap v b.2 as) us (vs.zip ds)
  | _, _, _, .nil, .nil => ⟨.nil, .nil⟩
  | _, _, _, .cons h1 h2, .cons r1 r2 => by
    obtain ⟨e1, e2⟩ := each_zip I sm h2 r2
    rw [List.zip_cons_cons]
    exact ⟨.cons r1 e1, .cons (L2.Dp.reads I _ _ _ (Dp.l2 sm _ _ h1) r1) e2⟩
def rSorted (K : PySem.W.Frag) : List V → Hp → VK → Prop := fun xs H Q => ∃ F a vs l, xs = [.ref a] ∧ Same F H ∧ F a = some (.lst vs) ∧ DpAll K F vs l ∧ allAlike l = true ∧ sortable l = true ∧ l.length ≤ lim ∧ PyData.depthAll l ≤ 60 ∧
  ∀ p us, H p = none → DpAll K F us (isort dle l) → Q (.ref p) (upd H p (.lst us))
theorem cr_sortedD (hu : X.A.units + 64 < cLine) : CallR X (.builtin "sorted") (rSorted X.K) := by
  intro pins s σ H xs us Q I rr h
  obtain ⟨F, a, vs, l, rfl, sm, ha, hd, al, so, hlim, dp, q⟩ := h
  obtain ⟨u, rfl, rx⟩ := vals1 rr
  cases rx
  obtain ⟨its, rv, pl, hz⟩ := I.list (SqL.of (sm _ _ ha))
  obtain ⟨ea, er⟩ := each_zip I sm hd rv
  have hm : (vs.zip l).map (·.2) = l := by
    rw [List.map_snd_zip]
    rw [dpa_len hd]; exact Nat.le_refl _
  refine PySem.W.sorted_data (bs := vs.zip l) (enc := (·.2)) (R := fun (v : Value) (b : V × D) => RelV b.1 v) pl.isList ea er (by rw [hm]; exact allAlike_mem al) (by rw [hm]; exact sortable_of so) ?_ (fun b hb => ?_) fun out hlen eo => ?_
  · rw [List.length_zip, dpa_len hd, Nat.min_self]; exact lim_line hlim
  · have hmem : b.2 ∈ l := by
      have : b.2 ∈ (vs.zip l).map (·.2) := List.mem_map.mpr ⟨b, hb, rfl⟩
      rw [hm] at this; exact this
    have := depth_mem hmem
    omega
  · have hk : ∀ b o, s.heap.get? b = some o → (PyProof.Rows.sortedAll s.heap its out.toArray).get? b = some o := fun b o e => PyProof.Rows.sortedAll_old e
    obtain ⟨ec, hc⟩ := PyProof.Rows.sortedAll_at s.heap its out.toArray
    have hv : Vals (((vs.zip l).mergeSort (PySem.W.dataLe false (·.2))).map (·.1)) out := vals_each eo
    have np : H (s.heap.objs.size + 1) = none := I.hok.fresh (Nat.le_succ _)
    have new : ObjOk X.prog X.w (upd H (s.heap.objs.size + 1) (.lst (((vs.zip l).mergeSort (PySem.W.dataLe false (·.2))).map (·.1)))) (PyProof.Rows.sortedAll s.heap its out.toArray) (s.heap.objs.size + 1) (.lst (((vs.zip l).mergeSort (PySem.W.dataLe false (·.2))).map (·.1))) := by
      refine ⟨?_, out, ec, hv, hc⟩
      rw [List.length_map, List.length_mergeSort, List.length_zip, dpa_len hd, Nat.min_self]; exact lim_line hlim
    refine ⟨.ref (s.heap.objs.size + 1), _, I.laid (t' := s.toks) hk (Nat.le_succ _) new, rfl, q _ _ np ?_⟩
    have hs : ((vs.zip l).mergeSort (PySem.W.dataLe false (·.2))).map (·.2) = isort dle l := by
      rw [isort_merge]
      conv => rhs; rw [← hm]
      exact PySem.W.sort_maps (fun p : V × D => p.2) fun a _ b _ => rfl
    rw [← hs]
    exact dpa_of_each _ fun p hp => each_of_dpa hd p ((List.mergeSort_perm _ _).mem_iff.mp hp)
/-! sorted(text) -/
theorem chars_alike (l : List Nat) : PySem.W.AllAlike (chars l) := fun d hd d' hd' => by
  obtain ⟨x, _, rfl⟩ := List.mem_map.mp hd
  obtain ⟨y, _, rfl⟩ := List.mem_map.mp hd'
  rfl
theorem chars_sortable (l : List Nat) : PySem.W.Sortable (chars l) := .inr fun d hd => by
  obtain ⟨x, _, rfl⟩ := List.mem_map.mp hd
  exact ⟨fun e => (by cases e), fun _ e => (by cases e)⟩
theorem signs_each {z : Str} {acc : Array Value} (h : ItemsOf (SignAt z) acc z.cps.size) (h' : Heap) :
    PySem.W.EachIs (fun (v : Value) (b : V × D) => RelV b.1 v) acc.toList ((toL z).map fun k => (V.str ⟨#[k]⟩, dS [k])) ∧ PySem.W.EachIs (fun (v : Value) (b : V × D) => ∃ as, Reads h' v b.2 as) acc.toList ((toL z).map fun k => (V.str ⟨#[k]⟩, dS [k])) := by
  have hl : acc.toList.length = ((toL z).map fun k => (V.str ⟨#[k]⟩, dS [k])).length := by
    rw [List.length_map, Array.length_toList, h.1]; rfl
  have key : ∀ p ∈ acc.toList.zip ((toL z).map fun k => (V.str ⟨#[k]⟩, dS [k])), ∃ k t, p = (Value.str ⟨#[k]⟩ t, (V.str ⟨#[k]⟩, dS [k])) := fun p hp => by
    obtain ⟨i, hi⟩ := List.getElem?_of_mem hp
    rw [List.getElem?_zip_eq_some] at hi
    obtain ⟨h1, h2⟩ := hi
    rw [Array.getElem?_toList] at h1
    obtain ⟨k, t, hk, hv⟩ := h.2 i _ h1
    rw [List.getElem?_map] at h2
    have hk' : (toL z)[i]? = some k := by unfold toL; rw [Array.getElem?_toList]; exact hk
    rw [hk'] at h2
    refine ⟨k, t, ?_⟩
    obtain ⟨p1, p2⟩ := p
    simp only at hv h2
    rw [hv]
    simp only [Option.map_some, Option.some.injEq] at h2
    rw [← h2]
  refine ⟨PySem.W.EachIs.of_zip hl fun p hp => ?_, PySem.W.EachIs.of_zip hl fun p hp => ?_⟩
  · obtain ⟨k, t, rfl⟩ := key p hp
    exact ⟨t, rfl⟩
  · obtain ⟨k, t, rfl⟩ := key p hp
    exact ⟨_, Reads.str _ _⟩
theorem laid_s {pins : List (Addr × Obj)} {σ : St} {H : Hp} {s s' : Shared} {p : Addr} {ob : HO} (I : Inv X pins σ H s) (k : ∀ b u, s.heap.get? b = some u → s'.heap.get? b = some u) (hp : s.heap.get? p = none) (hn : H p = none) (g : s'.gens = s.gens) (o : s'.os = s.os)
    (new : ObjOk X.prog X.w (upd H p ob) s'.heap p ob) : Inv X pins σ (upd H p ob) s' := by
  have J : Inv X pins σ (upd H p ob) { s with heap := s'.heap, gens := s'.gens, drawn := s'.drawn, toks := s'.toks } :=
    I.call (ch := []) (Un.laidN k hp hn) (I.hok.laidN k hn new) (by rw [g]; exact I.bare) (fun _ z => nomatch z)
  have e : s' = { s with heap := s'.heap, gens := s'.gens, drawn := s'.drawn, toks := s'.toks } := by
    cases s'
    cases s
    cases o
    rfl
  rw [e]
  exact J
def rSortedS (K : PySem.W.Frag) : List V → Hp → VK → Prop := fun xs H Q => ∃ F z, xs = [.str z] ∧ Same F H ∧ z.length ≤ lim ∧ ∀ p us, H p = none → DpAll K F us (isort dle (chars (toL z))) → Q (.ref p) (upd H p (.lst us))
theorem cr_sortedS' (hc : X.calm = true) (hu : X.A.units + 64 < cLine) : CallR X (.builtin "sorted") (rSortedS X.K) := by
  intro pins s σ H xs us Q I rr h
  obtain ⟨F, z, rfl, sm, hl, q⟩ := h
  obtain ⟨u, rfl, rx⟩ := vals1 rr
  obtain ⟨t, rfl⟩ := rx
  have hh : X.A.handled = none := I.ok.hd hc
  have hzl : z.cps.size ≤ sizeLine := lim_line hl
  refine PySem.Calls.call_function_entry PyProof.Rows.kind_sorted PyProof.Rows.plain_sorted PyProof.Rows.entry_sorted (PyProof.Rows.args_sorted1 _) ?_
  unfold Builtin.«sorted»
  refine wpAny_bind (m := checkCount "sorted" 1 1 _) (wpAny_pure ?_)
  refine wpAny_bind (wpAny_collect_str (A := X.A.in1) hh z t (fun s1 acc k1 g1 d1 o1 hacc => ?_) hzl)
  have hal : acc.toList.length = z.length := by rw [Array.length_toList, hacc.1]; rfl
  refine wpAny_bind (wpAny_newList ?_ (by rw [hal]; exact lim_line hl))
  have hoL : (s1.heap.push (PyProof.Rows.seqObj "list" acc.toList.toArray 0)).get? s1.heap.objs.size = some (PyProof.Rows.seqObj "list" acc.toList.toArray 0) := Heap.get?_push_size _ rfl
  have sg := signs_each hacc (PySem.W.sortingHeap (s1.heap.push (PyProof.Rows.seqObj "list" acc.toList.toArray 0)) s1.heap.objs.size acc.toList)
  have hm : ((toL z).map fun k => (V.str ⟨#[k]⟩, dS [k])).map (·.2) = chars (toL z) := by
    rw [List.map_map]; rfl
  have hbl : ((toL z).map fun k => (V.str ⟨#[k]⟩, dS [k])).length = z.length := by rw [List.length_map]; rfl
  have hal' : PySem.W.AllAlike (((toL z).map fun k => (V.str ⟨#[k]⟩, dS [k])).map (·.2)) := by rw [hm]; exact chars_alike _
  refine wpAny_bind (wpAny_holding (wpAny_call_entry PyProof.Rows.slot_list_sort ⟨_, hoL, rfl⟩ PyProof.Rows.entry_list_sort (PySem.W.list_sort_vals (κ := PySem.W.dataKind (PySem.W.sortingHeap (s1.heap.push (PyProof.Rows.seqObj "list" acc.toList.toArray 0)) s1.heap.objs.size acc.toList) (((toL z).map fun k => (V.str ⟨#[k]⟩, dS [k])).map (·.2))) hoL (PySem.W.SortsAt.data (PySem.W.each_map (R := fun v d => ∃ as, Reads (PySem.W.sortingHeap (s1.heap.push (PyProof.Rows.seqObj "list" acc.toList.toArray 0)) s1.heap.objs.size acc.toList) v d as) (fun p : V × D => p.2) sg.2) hal' (by rw [hm]; exact chars_sortable _) ?_) (by rw [hal]; exact lim_line hl) ⟨.none, rfl, ?_⟩) (PyProof.Rows.args_list_sort _)))
  · intro d hd
    rw [hm] at hd
    obtain ⟨k, _, rfl⟩ := List.mem_map.mp hd
    show _ + (PyData.str _).depth < _
    simp only [PyData.depth]
    omega
  · have eo := PySem.W.sortVals_data false sg.1 sg.2 hal'
    generalize PySem.W.sortVals _ false acc.toList acc.toList = out at eo
    obtain ⟨c, hc'⟩ := PyProof.Rows.sortedHeap_at (vs := acc.toList) (out := out.toArray) hoL
    have hv := vals_each eo
    have hn0 : s.heap.get? s1.heap.objs.size = none := by
      cases e : s.heap.get? s1.heap.objs.size with
      | none => rfl
      | some o => exact absurd (Heap.lt_size (k1 _ _ e)) (Nat.lt_irrefl _)
    have hH : H s1.heap.objs.size = none := (I.hok.kept k1).fresh (Nat.le_refl _)
    refine wpAny_pure ⟨_, rfl, .ref s1.heap.objs.size, _, laid_s (p := s1.heap.objs.size) (ob := .lst _) I (fun b u e => ?_) hn0 hH g1 o1 ⟨?_, out, c, hv, hc'⟩, rfl, q _ _ hH ?_⟩
    · have q := k1 b u e
      have hlt := Heap.lt_size q
      show (PyProof.Rows.sortedHeap (s1.heap.push (PyProof.Rows.seqObj "list" acc.toList.toArray 0)) s1.heap.objs.size acc.toList out.toArray).get? b = some u
      rw [PyProof.Rows.sortedHeap_old (Nat.ne_of_lt hlt) (by rw [PyProof.Rows.size_push']; exact Nat.lt_succ_of_lt hlt)]
      exact Heap.get?_push_of_some _ q
    · rw [List.length_map, List.length_mergeSort, hbl]; exact lim_line hl
    · have hs : (((toL z).map fun k => (V.str ⟨#[k]⟩, dS [k])).mergeSort (PySem.W.dataLe false (·.2))).map (·.2) = isort dle (chars (toL z)) := by
        rw [isort_merge]
        conv => rhs; rw [← hm]
        exact PySem.W.sort_maps (fun p : V × D => p.2) fun a _ b _ => rfl
      rw [← hs]
      refine dpa_of_each _ fun p hp => ?_
      obtain ⟨k, _, rfl⟩ := List.mem_map.mp ((List.mergeSort_perm _ _).mem_iff.mp hp)
      exact Dp.str _
end
end Bm
end
section
set_option Elab.async false
set_option linter.all false
set_option maxRecDepth 100000
set_option maxHeartbeats 1000000
namespace Bm
open PySem PySem.Spec L2
variable {X : Cx} {c : Cfg} {e : Expr} {a : E} {pos : Pos}
theorem CallR.or2 {f : Value} {r1 r2 : List V → Hp → VK → Prop} (h1 : CallR X f r1) (h2 : CallR X f r2) : CallR X f (fun xs H Q => r1 xs H Q ∨ r2 xs H Q) := by
  intro pins s σ H xs us Q I rr h
  rcases h with h | h
  · exact h1 pins s σ H xs us Q I rr h
  · exact h2 pins s σ H xs us Q I rr h
theorem os_sorted {K : PySem.W.Frag} : OpS K .sorted (fun xs H Q => rSorted K xs H Q ∨ rSortedS K xs H Q) := by
  intro ds d vs F H Q s q e w
  simp only [opD] at e; unfold dop_sorted at e
  split at e
  · obtain ⟨hl, e⟩ := guardO_some e
    cases e
    simp only [Bool.and_eq_true, decide_eq_true_eq] at hl
    match q with
    | .cons q1 .nil =>
      obtain ⟨p, xs, rfl, h1, h2⟩ := dn_list q1
      exact .inl ⟨F, p, xs, _, rfl, s, h1, h2, hl.1.1.1, hl.1.1.2, hl.1.2, hl.2, fun p us np hd => Wish.lst w s np hd⟩
  · obtain ⟨hl, e⟩ := guardO_some e
    cases e
    match q with
    | .cons q1 .nil =>
      have h1 := dn_str q1; subst h1
      rw [decide_eq_true_eq, len_toL] at hl
      exact .inr ⟨F, _, rfl, s, hl, fun p us np hd => Wish.lst w s np hd⟩
  · cases e
theorem sv_sorted {p : Pos} (hc : X.calm = true) (hu : X.A.units + 64 < cLine) (hg : Gl X "sorted") (hm : X.mg "sorted" = none) (ha : PE X e (TEv X.K c a)) (he : starEach [e] X.env = (false, eval e X.env) :: starEach [] X.env := by rfl) : PE X (.Call (.Name "sorted" p) [e] [] pos) (TEv X.K c (.op .sorted (.cons a .nil))) :=
  sv_callB os_sorted (CallR.or2 (cr_sortedD hu) (cr_sortedS' hc hu)) hg hm boot_sorted' (sa_cons ha sa_nil he) (by decide) (by decide) he rfl
/-! min(list) -/
def rMin (K : PySem.W.Frag) : List V → Hp → VK → Prop := fun xs H Q => ∃ F a vs x r, xs = [.ref a] ∧ Same F H ∧ F a = some (.lst vs) ∧ DpAll K F vs (x :: r) ∧ allAlike (x :: r) = true ∧ (x :: r).all notNone = true ∧ PyData.depthAll (x :: r) ≤ 60 ∧
  ∀ v, Dp K F v (PySem.W.minD x r) → Q v H
theorem reads_all {F H : Hp} {pins : List (Addr × Obj)} {σ : St} {s : Shared} (I : Inv X pins σ H s) (sm : Same F H) : ∀ {vs : List V} {ds : List D} {us : List Value}, DpAll X.K F vs ds → Vals vs us → ∃ as, ReadsAll s.heap us ds as
  | _, _, _, .nil, .nil => ⟨_, .nil⟩
  | _, _, _, .cons h1 h2, .cons r1 r2 => by
    obtain ⟨as, h⟩ := reads_all I sm h2 r2
    obtain ⟨bs, h'⟩ := L2.Dp.reads I _ _ _ (Dp.l2 sm _ _ h1) r1
    exact ⟨_, .cons h' h⟩
theorem at_all {F : Hp} {K : PySem.W.Frag} : ∀ {vs : List V} {ds : List D} {us : List Value}, DpAll K F vs ds → Vals vs us → ∀ (i : Nat) u, us[i]? = some u → ∃ v d, Dp K F v d ∧ RelV v u ∧ ds[i]? = some d
  | _, _, _, .nil, .nil, i, u, h => by simp at h
  | _, _, _, .cons h1 h2, .cons r1 r2, i, u, h => by
    cases i with
    | zero => simp at h; subst h; exact ⟨_, _, h1, r1, rfl⟩
    | succ i => simp at h; simpa using at_all h2 r2 i u h
theorem cr_min (hc : X.calm = true) (hu : X.A.units + 64 < cLine) : CallR X (.builtin "min") (rMin X.K) := by
  intro pins s σ H xs us Q I rr h
  obtain ⟨F, a, vs, x, r, rfl, sm, ha, hd, al, nn, dp, q⟩ := h
  obtain ⟨u, rfl, rx⟩ := vals1 rr
  cases rx
  obtain ⟨its, rv, pl, hz⟩ := I.list (SqL.of (sm _ _ ha))
  obtain ⟨as, hr⟩ := reads_all I sm hd rv
  refine PySem.W.min_list_data (I.ok.hd hc) pl.isList (by simpa using hr) ⟨allAlike_mem al, fun y hy e => ?_⟩ (by omega) fun i v h' tk bs hv hrd hk => ?_
  · have := List.all_eq_true.mp nn y hy
    rw [e] at this; cases this
  · obtain ⟨v', d, h1, h2, h3⟩ := at_all hd rv i v (by simpa using hv)
    have I' : Inv X pins σ H { s with heap := h', toks := tk } := I.kept hk
    obtain ⟨cs, h4⟩ := L2.Dp.reads I' _ _ _ (Dp.l2 sm _ _ h1) h2
    have := (Reads.unique hrd _ _ h4).1
    exact ⟨v', H, I', h2, q _ (this ▸ h1)⟩
theorem dn_dp {K : PySem.W.Frag} {F : Hp} {v : V} {d : D} (h : Dp K F v d) : Dn K F v d := by
  cases d with
  | dict kvs => cases h
  | _ => exact h
theorem os_min1 {K : PySem.W.Frag} : OpS K .min1 (rMin K) := by
  intro ds d vs F H Q s q e w
  simp only [opD] at e; unfold dop_min1 at e
  split at e
  · obtain ⟨hl, e⟩ := guardO_some e
    cases e
    simp only [Bool.and_eq_true, decide_eq_true_eq] at hl
    match q with
    | .cons q1 .nil =>
      obtain ⟨p, xs, rfl, h1, h2⟩ := dn_list q1
      exact ⟨F, p, xs, _, _, rfl, s, h1, h2, hl.1.1, hl.1.2, hl.2, fun v hd => Wish.here w s (dn_dp hd)⟩
  · cases e
theorem sv_min1 {p : Pos} (hc : X.calm = true) (hu : X.A.units + 64 < cLine) (hg : Gl X "min") (hm : X.mg "min" = none) (ha : PE X e (TEv X.K c a)) (he : starEach [e] X.env = (false, eval e X.env) :: starEach [] X.env := by rfl) : PE X (.Call (.Name "min" p) [e] [] pos) (TEv X.K c (.op .min1 (.cons a .nil))) :=
  sv_callB os_min1 (cr_min hc hu) hg hm boot_min' (sa_cons ha sa_nil he) (by decide) (by decide) he rfl
end Bm
end
section
set_option Elab.async false
set_option linter.all false
set_option maxRecDepth 100000
set_option maxHeartbeats 1000000
/-! A def keeps its promise: from the derivation of its body. -/
namespace Bm
open PySem PySem.Spec L2

theorem getS_app {a b : Env} (i : Nat) : getS (a ++ b) i = if i < a.length then getS a i else getS b (i - a.length) := by
  unfold getS
  rw [List.getD_eq_getElem?_getD, List.getElem?_append]
  by_cases h : i < a.length
  · rw [if_pos h, if_pos h, List.getD_eq_getElem?_getD]
  · rw [if_neg h, if_neg h, List.getD_eq_getElem?_getD]
theorem getS_rep (n i : Nat) : getS (List.replicate n .un) i = .un := by
  unfold getS
  rw [List.getD_eq_getElem?_getD, List.getElem?_replicate]
  by_cases h : i < n
  · rw [if_pos h]; rfl
  · rw [if_neg h]; rfl
theorem vAt_app {a b : St} (i : Nat) : vAt (a ++ b) i = if i < a.length then vAt a i else vAt b (i - a.length) := by
  unfold vAt
  rw [List.getElem?_append]
  by_cases h : i < a.length
  · rw [if_pos h, if_pos h]
  · rw [if_neg h, if_neg h]
theorem ok_args {K : PySem.W.Frag} {F H : Hp} : ∀ {vs : List V} {ds : List D}, DnAll K F vs ds → ∀ i, SlotOk K F H (getS (ds.map .sh) i) (vAt (vs.map some) i) ∧ isOwn (getS (ds.map Slot.sh) i) = false
  | _, _, .nil, i => by
    have : getS (([] : List D).map Slot.sh) i = .un := by simp [getS]
    rw [this]
    exact ⟨trivial, rfl⟩
  | _, _, .cons h t, 0 => ⟨⟨_, rfl, h⟩, rfl⟩
  | _, _, .cons h t, i + 1 => by
    have := ok_args (H := H) t i
    simpa [getS, vAt] using this
theorem dna_len {K : PySem.W.Frag} {F : Hp} : ∀ {vs : List V} {ds : List D}, DnAll K F vs ds → vs.length = ds.length
  | _, _, .nil => rfl
  | _, _, .cons _ t => by simp [dna_len t]
def entC (H F : Hp) (O P : Addr → Prop) : Ent := ⟨H, F, O, P⟩
theorem start_ok {K : PySem.W.Frag} {c : Cfg} {F H : Hp} {vs : List V} {ds : List D} {N : List Str} {ns np : Nat} (s : Same F H) (j : c.J H) (q : DnAll K F vs ds) (hns : ns = N.length) (hnp : ds.length = np) (hle : np ≤ ns) (hW : c.W = entC H F (fun _ => False) (fun _ => True)) :
    Stt K c (ds.map .sh ++ List.replicate (ns - np) .un) (L2.start N vs) H F := by
  have hl := dna_len q
  have no : ∀ i, isOwn (getS (ds.map .sh ++ List.replicate (ns - np) .un) i) = false := fun i => by
    rw [getS_app]
    by_cases h : i < (ds.map Slot.sh).length
    · rw [if_pos h]; exact (ok_args (H := H) q i).2
    · rw [if_neg h, getS_rep]; rfl
  refine ⟨⟨?_, s, fun i => ?_, fun i k a p _ => ?_⟩, j, fun b o h n => ?_, fun b h => ?_, fun b _ => ?_⟩
  · unfold L2.start; simp only [List.length_append, List.length_map, List.length_replicate]; omega
  · unfold L2.start
    rw [getS_app, vAt_app, List.length_map, List.length_map, hl]
    by_cases h : i < ds.length
    · rw [if_pos h, if_pos h]; exact (ok_args q i).1
    · rw [if_neg h, if_neg h, getS_rep]; trivial
  · have := p.1; rw [no] at this; cases this
  · rw [hW] at h ⊢; exact ⟨rfl, .inl h⟩
  · obtain ⟨i, p, _⟩ := h; rw [no] at p; cases p
  · rw [hW]; trivial
theorem kp_grow {F H F' H' : Hp} {P : Addr → Prop} (s : Same F' H') (k : Kp (entC H F (fun _ => False) P) F' H') : Grow F H F' H' := ⟨s, fun b o h => k b o h fun z => z⟩
section
variable {P : Program} {w : World} {K : PySem.W.Frag} {mg : Str → Option Value} {base : Heap} {J : Hp → Prop} {hJ : ∀ H H' : Hp, (∀ b o, H b = some o → H' b = some o ∨ isMut o) → J H → J H'} {cl : Nat → Value} {T : Nat → Option FDef}
/-- a def that may raise: its body's term and what it reads -/
theorem okN {P : Program} {w : World} {K : PySem.W.Frag} {mg : Str → Option Value} {base : Heap} {x qual : Str} {st : Stmt} {f : Addr} {fd : FuncData} {N ps : List Str} {k : Nat} {sp : Sp} (F : Fun K x qual st f fd) (S : FnScope N ps (defScope st)) (len : ∀ vs H Q E, sp vs H Q E → vs.length = ps.length)
    (hb : ∀ (cdv : Value) (A : Around) (outer : List PySem.Env) (s : Shared) (H : Hp) (vs : List V) (Q : VK) (E : XK), fd.code = cdv → Room k (A.deeper (PyProof.Rows.envOfC qual (defScope st) s.heap.objs.size f cdv)) → sp vs H Q E →
      ∃ t, PSs (cxOf (L2N.CX P w) P w K mg base N qual (defScope st) f cdv A outer s H E) (defBody st) t ∧ t { nx := fun _ H' => Q .non H', rt := Q } (L2.start N vs) H) : FnOk P w K mg base (L2N.CX P w) (k + 1) f fd ps sp := by
  obtain ⟨oc, od, kV, doc, pm, an, cdv, ct, osl, rfl, lk, hcd⟩ := F.ex
  exact fn_of lk hcd S len fun A outer s H vs Q E hr q => hb cdv A outer s H vs Q E rfl hr q
/-- the configuration in a def's body -/
def cfg (J : Hp → Prop) (hJ : ∀ H H' : Hp, (∀ b o, H b = some o → H' b = some o ∨ isMut o) → J H → J H') (cl : Nat → Value) (call : CallS) (W : Ent) (E : XK) : Cfg := ⟨J, hJ, W, call, E, cl⟩
theorem def_ok {n f : Nat} {fd : FDef} {x qual : Str} {st : Stmt} {fa : Addr} {fdat : FuncData} {N ps : List Str} (hT : T f = some fd) (hio : fd.io = false) (F : Fun K x qual st fa fdat) (S : FnScope N ps (defScope st)) (hnp : fd.np = ps.length) (hns : fd.ns = N.length) (hle : fd.np ≤ fd.ns)
    (hb : L2.Binds K fdat ps []) (hmg : mg x = some (.ref fa))
    (der : ∀ (W : Ent) (E : XK) (cdv : Value) (A : Around) (outer : List PySem.Env) (s : Shared) (H : Hp), (∀ b, W.P0 b) → Room (n + 1) (A.deeper (PyProof.Rows.envOfC qual (defScope st) s.heap.objs.size fa cdv)) →
      PSs (cxOf (L2N.CX P w) P w K mg base N qual (defScope st) fa cdv A outer s H E) (defBody st) (TSv K (cfg J hJ cl (run T n) W E) fd.body)) :
    FnAt P w K mg base (n + 2) x (spF K J cl (run T (n + 1) f none)) := by
  refine ⟨fa, fdat, ps, hmg, F.kp, hb, okN F S (fun vs H Q E h => ?_) fun cdv A outer s H vs Q E _ hr h => ?_⟩
  · obtain ⟨F, ds, _, _, q, h⟩ := h
    simp only [run, hT, entry] at h
    by_cases hl : ds.length = fd.np
    · rw [dna_len q, hl, hnp]
    · rw [if_neg (fun z => hl z.2)] at h; exact h.elim
  · obtain ⟨F, ds, sm, j, q, h⟩ := h
    refine ⟨_, der (entC H F (fun _ => False) (fun _ => True)) E cdv A outer s H (fun _ => trivial) hr, ?_⟩
    simp only [run, hT, entry] at h
    by_cases hl : ds.length = fd.np
    · rw [if_pos ⟨hio, hl⟩] at h
      refine ⟨F, _, start_ok (N := N) (ns := fd.ns) (np := fd.np) sm j q hns hl hle rfl, ?_⟩
      cases ed : denS (run T n) fd.body (ds.map .sh ++ List.replicate (fd.ns - fd.np) .un) with
      | nxt r =>
        simp only [ed, endOf] at h
        show OkS K _ F (denS (run T n) fd.body _) _
        rw [ed]
        exact fun σ' H' F' x' _ => h .non F' H' (kp_grow x'.rel.same x'.kp) x'.tie Dp.non
      | ret d r =>
        simp only [ed, endOf] at h
        show OkS K _ F (denS (run T n) fd.body _) _
        rw [ed]
        exact fun v σ' H' F' x' _ q' => h v F' H' (kp_grow x'.rel.same x'.kp) x'.tie q'
      | exc k =>
        simp only [ed, endOf] at h
        show OkS K _ F (denS (run T n) fd.body _) _
        rw [ed]
        exact fun F' H' j' sm' kp' => h F' H' (kp_grow sm' kp') j'
      | stuck =>
        simp only [ed, endOf] at h
    · rw [if_neg (fun z => hl z.2)] at h; exact h.elim
/-- .. of a def that changes its first list -/
theorem def_io {n f : Nat} {fd : FDef} {x qual : Str} {st : Stmt} {fa : Addr} {fdat : FuncData} {N ps : List Str} (hT : T f = some fd) (hio : fd.io = true) (F : Fun K x qual st fa fdat) (S : FnScope N ps (defScope st)) (hnp : fd.np = ps.length) (hns : fd.ns = N.length) (hle : fd.np ≤ fd.ns)
    (hb : L2.Binds K fdat ps []) (hmg : mg x = some (.ref fa))
    (der : ∀ (W : Ent) (E : XK) (cdv : Value) (A : Around) (outer : List PySem.Env) (s : Shared) (H : Hp), Room (n + 1) (A.deeper (PyProof.Rows.envOfC qual (defScope st) s.heap.objs.size fa cdv)) →
      PSs (cxOf (L2N.CX P w) P w K mg base N qual (defScope st) fa cdv A outer s H E) (defBody st) (TSv K (cfg J hJ cl (run T n) W E) fd.body)) :
    FnAt P w K mg base (n + 2) x (spIO K J fun m => run T (n + 1) f (some m)) := by
  refine ⟨fa, fdat, ps, hmg, F.kp, hb, okN F S (fun vs H Q E h => ?_) fun cdv A outer s H vs Q E _ hr h => ?_⟩
  · obtain ⟨F, a, us, ws, m, ds, rfl, _, _, _, _, _, q, h⟩ := h
    simp only [run, hT, entry] at h
    by_cases hl : ds.length + 1 = fd.np
    · rw [List.length_cons, dna_len q, hl, hnp]
    · rw [if_neg (fun z => hl z.2)] at h; exact h.elim
  · obtain ⟨F, a, us, ws, m, ds, rfl, sm, j, fa0, ha, hd, q, h⟩ := h
    refine ⟨_, der (entC H F (fun b => b = a) (fun b => b = a)) E cdv A outer s H hr, ?_⟩
    simp only [run, hT, entry] at h
    by_cases hl : ds.length + 1 = fd.np
    · rw [if_pos ⟨hio, hl⟩] at h
      have hlu := dna_len q
      have own0 : ∀ i b, OwnAt (.own m :: (ds.map .sh ++ List.replicate (fd.ns - fd.np) .un)) (L2.start N (.ref a :: us)) i b → i = 0 ∧ b = a := fun i b ⟨h1, h2⟩ => by
        cases i with
        | zero =>
          refine ⟨rfl, ?_⟩
          have : vAt (L2.start N (.ref a :: us)) 0 = some (.ref a) := rfl
          rw [this] at h2; cases h2; rfl
        | succ i =>
          have e : getS (.own m :: (ds.map .sh ++ List.replicate (fd.ns - fd.np) .un)) (i + 1) = getS (ds.map .sh ++ List.replicate (fd.ns - fd.np) .un) i := by simp [getS]
          rw [e, getS_app] at h1
          by_cases hi : i < (ds.map Slot.sh).length
          · rw [if_pos hi, (ok_args (H := H) q i).2] at h1; cases h1
          · rw [if_neg hi, getS_rep] at h1; cases h1
      have x0 : Stt K (cfg J hJ cl (run T n) (entC H F (fun b => b = a) (fun b => b = a)) E) (.own m :: (ds.map .sh ++ List.replicate (fd.ns - fd.np) .un)) (L2.start N (.ref a :: us)) H F := by
        refine ⟨⟨?_, sm, fun i => ?_, fun i k b p p' => ?_⟩, j, fun b o h n => ⟨rfl, .inl h⟩, fun b ⟨i, p⟩ => .inl (own0 i b p).2, fun b hv => ?_⟩
        · unfold L2.start
          simp only [List.length_cons, List.length_append, List.length_map, List.length_replicate]
          omega
        · cases i with
          | zero => exact ⟨a, ws, rfl, fa0, ha, hd⟩
          | succ i =>
            have e1 : getS (.own m :: (ds.map .sh ++ List.replicate (fd.ns - fd.np) .un)) (i + 1) = getS (ds.map .sh ++ List.replicate (fd.ns - fd.np) .un) i := by simp [getS]
            have e2 : vAt (L2.start N (.ref a :: us)) (i + 1) = vAt (us.map some ++ List.replicate (N.length - (us.length + 1)) none) i := by
              unfold L2.start vAt; simp
            rw [e1, e2, getS_app, vAt_app, List.length_map, List.length_map, hlu]
            by_cases hi : i < ds.length
            · rw [if_pos hi, if_pos hi]; exact (ok_args q i).1
            · rw [if_neg hi, if_neg hi, getS_rep]; trivial
        · rw [(own0 i b p).1, (own0 k b p').1]
        · have : vAt (L2.start N (.ref a :: us)) 0 = some (.ref a) := rfl
          rw [this] at hv; cases hv; rfl
      refine ⟨F, _, x0, ?_⟩
      show OkS K _ F (denS (run T n) fd.body _) _
      have fin : ∀ {r : Env} {σ' : St} {H' F' : Hp} {m' : List D}, Stt K (cfg J hJ cl (run T n) (entC H F (fun b => b = a) (fun b => b = a)) E) r σ' H' F' → getS r 0 = .own m' →
          (∀ b o, b ≠ a → H b = some o → F' b = F b ∧ KO o (H' b)) ∧ F' a = none ∧ ∃ ws', H' a = some (.lst ws') ∧ DpAll K F' ws' m' := fun {r σ' H' F' m'} x' e => by
        have z := x'.rel.ok 0
        rw [e] at z
        obtain ⟨a', ws', z1, z2, z3, z4⟩ := z
        have : a' = a := x'.pin a' z1
        subst this
        exact ⟨fun b o hb h => x'.kp b o h hb, z2, ws', z3, z4⟩
      cases ed : denS (run T n) fd.body (.own m :: (ds.map .sh ++ List.replicate (fd.ns - fd.np) .un)) with
      | nxt r =>
        simp only [List.cons_append, ed, endOf] at h
        cases eg : getS r 0 with
        | own m' =>
          simp only [eg] at h
          intro σ' H' F' x' _
          obtain ⟨k1, k2, ws', k3, k4⟩ := fin x' eg
          exact h .non F' H' ws' x'.rel.same k1 k2 k3 k4 x'.tie Dp.non
        | un => simp only [eg] at h
        | sh d => simp only [eg] at h
        | dicT d => simp only [eg] at h
        | dicK d => simp only [eg] at h
      | ret d r =>
        simp only [List.cons_append, ed, endOf] at h
        cases eg : getS r 0 with
        | own m' =>
          simp only [eg] at h
          intro v σ' H' F' x' _ q'
          obtain ⟨k1, k2, ws', k3, k4⟩ := fin x' eg
          exact h v F' H' ws' x'.rel.same k1 k2 k3 k4 x'.tie q'
        | un => simp only [eg] at h
        | sh d => simp only [eg] at h
        | dicT d => simp only [eg] at h
        | dicK d => simp only [eg] at h
      | exc k => simp only [List.cons_append, ed, endOf] at h
      | stuck => simp only [List.cons_append, ed, endOf] at h
    · rw [if_neg (fun z => hl z.2)] at h; exact h.elim
/-- with no fuel -/
theorem def_ok0 {f : Nat} {x qual : Str} {st : Stmt} {fa : Addr} {fdat : FuncData} {N ps : List Str} (F : Fun K x qual st fa fdat) (S : FnScope N ps (defScope st)) (hb : L2.Binds K fdat ps []) (hmg : mg x = some (.ref fa)) :
    FnAt P w K mg base 1 x (spF K J cl (run T 0 f none)) :=
  ⟨fa, fdat, ps, hmg, F.kp, hb, okN F S (fun vs H Q E h => by obtain ⟨F, ds, _, _, q, h⟩ := h; exact h.elim) fun cdv A outer s H vs Q E _ hr h => by obtain ⟨F, ds, _, _, q, h⟩ := h; exact h.elim⟩
theorem def_io0 {f : Nat} {x qual : Str} {st : Stmt} {fa : Addr} {fdat : FuncData} {N ps : List Str} (F : Fun K x qual st fa fdat) (S : FnScope N ps (defScope st)) (hb : L2.Binds K fdat ps []) (hmg : mg x = some (.ref fa)) :
    FnAt P w K mg base 1 x (spIO K J fun m => run T 0 f (some m)) :=
  ⟨fa, fdat, ps, hmg, F.kp, hb, okN F S (fun vs H Q E h => by obtain ⟨F, a, us, ws, m, ds, rfl, _, _, _, _, _, q, h⟩ := h; exact h.elim) fun cdv A outer s H vs Q E _ hr h => by obtain ⟨F, a, us, ws, m, ds, rfl, _, _, _, _, _, q, h⟩ := h; exact h.elim⟩
end
end Bm
end
section
set_option Elab.async false
set_option linter.all false
set_option maxRecDepth 100000
set_option maxHeartbeats 1000000
/-! Short names for the derivations. -/
namespace Bm
open PySem PySem.Spec L2
section
variable {X : Cx} {c : Cfg} {e e1 e2 : Expr} {es : List Expr} {a b m : E} {pos apos cpos : Pos}
theorem sv_strL {i : Str} {l : List Nat} {j} (h : i = st l := by decide +kernel) : PE X (.Constant (.str i) j pos) (TEv X.K c (.lit (dS l))) := by subst h; exact sv_str
theorem sv_gstrL {x : Str} {z : Str} {l : List Nat} {t : Tok} (hg : Gl X x) (hm : X.mg x = some (.str z t)) (h : z = st l := by decide +kernel) (hd : (x == ("__debug__" : Str)) = false := by decide) : PE X (.Name x pos) (TEv X.K c (.lit (dS l))) := by subst h; exact sv_gstr hg hm hd
theorem sv_find (ho : PE X e1 (TEv X.K c a)) (ha : PE X e (TEv X.K c b)) (hline : (apos.endLine == cpos.line) = true := by rfl) (hbase : attributeBase e1 "find" X.env (eval e1 X.env) = eval e1 X.env := by rfl) (he : starEach [e] X.env = (false, eval e X.env) :: starEach [] X.env := by rfl) :
    PE X (.Call (.Attribute e1 "find" apos) [e] [] cpos) (TEv X.K c (.meth .find a (.cons b .nil))) := sv_meth PySem.F.slot_str_find PySem.F.type_str_find mt_find rr_find ho (sa_cons ha sa_nil he) hbase (by rw [he]; rfl) hline he rfl
theorem sv_find2 {b2 : E} (ho : PE X e1 (TEv X.K c a)) (ha : PE X e (TEv X.K c b)) (ha2 : PE X e2 (TEv X.K c b2)) (hline : (apos.endLine == cpos.line) = true := by rfl) (hbase : attributeBase e1 "find" X.env (eval e1 X.env) = eval e1 X.env := by rfl) (he : starEach [e, e2] X.env = (false, eval e X.env) :: starEach [e2] X.env := by rfl) (he2 : starEach [e2] X.env = (false, eval e2 X.env) :: starEach [] X.env := by rfl) :
    PE X (.Call (.Attribute e1 "find" apos) [e, e2] [] cpos) (TEv X.K c (.meth .find2 a (.cons b (.cons b2 .nil)))) := sv_meth PySem.F.slot_str_find PySem.F.type_str_find mt_find3 rr_find2 ho (sa_cons ha (sa_cons ha2 sa_nil he2) he) hbase (by rw [he, he2]; rfl) hline he (by rw [he2]; rfl)
theorem sv_count (ho : PE X e1 (TEv X.K c a)) (ha : PE X e (TEv X.K c b)) (hline : (apos.endLine == cpos.line) = true := by rfl) (hbase : attributeBase e1 "count" X.env (eval e1 X.env) = eval e1 X.env := by rfl) (he : starEach [e] X.env = (false, eval e X.env) :: starEach [] X.env := by rfl) :
    PE X (.Call (.Attribute e1 "count" apos) [e] [] cpos) (TEv X.K c (.meth .count a (.cons b .nil))) := sv_meth PySem.F.slot_str_count PySem.F.type_str_count mt_count rr_count ho (sa_cons ha sa_nil he) hbase (by rw [he]; rfl) hline he rfl
theorem sv_join (ho : PE X e1 (TEv X.K c a)) (ha : PE X e (TEv X.K c b)) (hline : (apos.endLine == cpos.line) = true := by rfl) (hbase : attributeBase e1 "join" X.env (eval e1 X.env) = eval e1 X.env := by rfl) (he : starEach [e] X.env = (false, eval e X.env) :: starEach [] X.env := by rfl) :
    PE X (.Call (.Attribute e1 "join" apos) [e] [] cpos) (TEv X.K c (.meth .join a (.cons b .nil))) := sv_meth PySem.F.slot_str_join PySem.F.type_str_join mt_join rr_join ho (sa_cons ha sa_nil he) hbase (by rw [he]; rfl) hline he rfl
theorem sv_split (ho : PE X e1 (TEv X.K c a)) (ha : PE X e (TEv X.K c b)) (hline : (apos.endLine == cpos.line) = true := by rfl) (hbase : attributeBase e1 "split" X.env (eval e1 X.env) = eval e1 X.env := by rfl) (he : starEach [e] X.env = (false, eval e X.env) :: starEach [] X.env := by rfl) :
    PE X (.Call (.Attribute e1 "split" apos) [e] [] cpos) (TEv X.K c (.meth .split a (.cons b .nil))) := sv_meth PySem.F.slot_str_split PySem.F.type_str_split mt_split rr_split ho (sa_cons ha sa_nil he) hbase (by rw [he]; rfl) hline he rfl
end
end Bm
end
section
set_option Elab.async false
set_option linter.all false
set_option maxRecDepth 100000
set_option maxHeartbeats 1000000
/-! new lists for their owner, made by operations -/
namespace Bm
open PySem PySem.Spec L2
def OpF (K : PySem.W.Frag) (o : Op) (rr : List V → Hp → VK → Prop) : Prop :=
  ∀ (ds : List D) (d : D) (vs : List V) (F H : Hp) (Q : VK), Same F H → DnAll K F vs ds → opD o ds = some d →
    (∀ (l : List D) (p : Addr) (ws : List V), d = .list l → H p = none → DpAll K F ws l → Q (.ref p) (upd H p (.lst ws))) → rr vs H Q
section
variable {X : Cx} {c : Cfg} {e e1 e2 : Expr} {es : List Expr} {a b m : E} {pos : Pos}
theorem opF_go {K : PySem.W.Frag} {o : Op} {rr : List V → Hp → VK → Prop} (hr : OpF K o rr) {r r1 : Env} {σ : St} {F H F1 H1 : Hp} {Q : VK} {ds : List D} {vs : List V} (x : Stt K c r1 σ H1 F1) (ef : Ef r σ F H F1 H1) (so : ∀ a, Own r1 σ a → Own r σ a) (q : DnAll K F1 vs ds)
    (h : OkF K c 1 r σ F H ((R.opt (opD o ds)).bind fun d => .ok (d, r1)) Q) : rr vs H1 Q := by
  cases e : opD o ds with
  | none => rw [e] at h; exact h.elim
  | some d =>
    rw [e] at h
    refine hr ds d vs F1 H1 Q x.rel.same q e fun l p ws ed np qd => ?_
    subst ed
    obtain ⟨x2, ef2, fr⟩ := lay_list x np qd
    exact h (.ref p) F1 _ x2 (ef.trans ef2 so) so fr fun a' k _ ev => by
      cases ev
      exact ⟨x.fresh np, ef_ne ef np⟩
theorem tef_op2 {K : PySem.W.Frag} {o : Op} {rr : R2} (hr : OpF K o fun vs H Q => ∃ x y, vs = [x, y] ∧ rr x y H Q) {σ : St} {H : Hp} {Q : VK} (h : TEf K c 1 (.op o (.cons a (.cons b .nil))) σ H Q) : tOp rr (TEv K c a) (TEv K c b) σ H Q := by
  obtain ⟨F, r, x, h⟩ := h
  refine ⟨F, r, x, ?_⟩
  simp only [den] at h
  cases ea : den c.call a r with
  | ok p =>
    obtain ⟨d, r1⟩ := p
    rw [ea] at h
    simp only [R.ok_bind] at h
    intro v F1 H1 x1 e1 s1 q1
    refine ⟨F1, r1, x1, ?_⟩
    cases eb : den c.call b r1 with
    | ok p =>
      obtain ⟨y, r2⟩ := p
      rw [eb] at h
      simp only [R.ok_bind] at h
      intro u F2 H2 x2 e2 s2 q2
      obtain ⟨x', y', ev, z⟩ := opF_go (ds := [d, y]) (vs := [v, u]) hr x2 (e1.trans e2 s1) (fun a z => s1 a (s2 a z)) (.cons (dn_same (e2.same x1.rel) q1) (.cons q2 .nil)) h
      cases ev
      exact z
    | exc k => rw [eb] at h; exact h
    | stuck => rw [eb] at h; exact h
  | exc k => rw [ea] at h; exact h
  | stuck => rw [ea] at h; exact h
theorem tef_op1 {K : PySem.W.Frag} {o : Op} {rr : List V → Hp → VK → Prop} (hr : OpF K o rr) {σ : St} {H : Hp} {Q : VK} (h : TEf K c 1 (.op o (.cons a .nil)) σ H Q) : TAv K c (.cons a .nil) σ H fun vs H1 => rr vs H1 Q := by
  obtain ⟨F, r, x, h⟩ := h
  refine ⟨F, r, x, ?_⟩
  simp only [den] at h ⊢
  cases ea : den c.call a r with
  | ok p =>
    obtain ⟨d, r1⟩ := p
    rw [ea] at h
    simp only [R.ok_bind] at h ⊢
    intro vs F1 H1 x1 e1 s1 q1
    exact opF_go (ds := [d]) hr x1 e1 s1 q1 h
  | exc k => rw [ea] at h; exact h
  | stuck => rw [ea] at h; exact h
end
end Bm
namespace Bm
open PySem PySem.Spec L2
section
variable {X : Cx} {c : Cfg} {e e1 e2 : Expr} {es : List Expr} {a b m : E} {pos : Pos}
def signV (z : Str) : List V := (toL z).map fun k => V.str ⟨#[k]⟩
theorem call_listS (hc : X.calm = true) : CallR X (.type "list") (fun xs H Q => ∃ z, xs = [.str z] ∧ z.length ≤ lim ∧ ∀ p, H p = none → Q (.ref p) (upd H p (.lst (signV z)))) := by
  intro pins s σ H xs us Q I rr h
  obtain ⟨z, rfl, hl, q⟩ := h
  obtain ⟨u, rfl, rx⟩ := vals1 rr
  obtain ⟨t, rfl⟩ := rx
  have hh : X.A.handled = none := I.ok.hd hc
  have hzl : z.cps.size ≤ sizeLine := lim_line hl
  refine PySem.call_list_str hh z t (fun h' tk acc' c' hk hS' hacc => ?_) hzl
  have sg := signs_each hacc h'
  have hv := vals_each sg.1
  refine ⟨.ref s.heap.objs.size, _, I.laid (t' := tk) hk (Nat.le_refl _) (show ObjOk X.prog X.w _ h' _ (.lst (signV z)) from ⟨?_, acc'.toList, c', ?_, by simpa using hS'⟩), rfl, q _ (I.hok.fresh (Nat.le_refl _))⟩
  · show (List.map _ _).length ≤ _
    rw [List.length_map]; exact hzl
  · have e : ((toL z).map fun k => (V.str ⟨#[k]⟩, dS [k])).map (·.1) = signV z := by rw [List.map_map]; rfl
    rw [← e]
    exact hv
abbrev rListA (K : PySem.W.Frag) : List V → Hp → VK → Prop := fun xs H Q => (∃ p ys, xs = [.ref p] ∧ (SqL K H p ys ∨ SqT K H p ys) ∧ ∀ l, H l = none → Q (.ref l) (upd H l (.lst ys))) ∨ (∃ z, xs = [.str z] ∧ z.length ≤ lim ∧ ∀ p, H p = none → Q (.ref p) (upd H p (.lst (signV z))))
theorem signV_dp {K : PySem.W.Frag} {F : Hp} (z : Str) : DpAll K F (signV z) (chars (toL z)) := by
  unfold signV chars
  induction toL z with
  | nil => exact .nil
  | cons k l ih => exact .cons (Dp.str _) ih
theorem of_list {K : PySem.W.Frag} : OpF K .list (rListA K) := by
  intro ds d vs F H Q s q e w
  simp only [opD] at e; unfold dop_list at e
  split at e
  · cases e
    match q with
    | .cons q1 .nil =>
      obtain ⟨p, xs, rfl, h1, h2⟩ := dn_list q1
      exact .inl ⟨p, xs, rfl, .inl (SqL.of (s _ _ h1)), fun l nl => w _ _ _ rfl nl h2⟩
  · cases e
    match q with
    | .cons q1 .nil =>
      have q' : Dp K F _ (.tuple _) := q1
      cases q' with
      | tup h1 h2 => exact .inl ⟨_, _, rfl, .inr (.inl (.inl (s _ _ h1))), fun l nl => w _ _ _ rfl nl h2⟩
  · rename_i z
    obtain ⟨hg, e⟩ := guardO_some e
    cases e
    match q with
    | .cons q1 .nil =>
      have h1 := dn_str q1; subst h1
      rw [decide_eq_true_eq] at hg
      exact .inr ⟨z, rfl, hg, fun p np => w _ _ _ rfl np (signV_dp z)⟩
  · cases e
theorem sf_listOf {p : Pos} (hc : X.calm = true) (hg : Gl X "list") (hm : X.mg "list" = none) (ha : PE X e (TEv X.K c a)) (he : starEach [e] X.env = (false, eval e X.env) :: starEach [] X.env := by rfl) : PE X (.Call (.Name "list" p) [e] [] pos) (TEf X.K c 1 (.op .list (.cons a .nil))) :=
  PE.mono (pe_callTy (call_list_of.or (call_listS hc)) hg hm boot_list' (sa_cons ha sa_nil he) (by decide) (by decide) he rfl) fun _ _ _ h => tef_op1 of_list h
theorem os_list {K : PySem.W.Frag} : OpS K .list (rListA K) := by
  intro ds d vs F H Q s q e w
  exact of_list ds d vs F H Q s q e fun l p ws ed np qd => by subst ed; exact Wish.lst w s np qd
theorem sv_list {p : Pos} (hc : X.calm = true) (hg : Gl X "list") (hm : X.mg "list" = none) (ha : PE X e (TEv X.K c a)) (he : starEach [e] X.env = (false, eval e X.env) :: starEach [] X.env := by rfl) : PE X (.Call (.Name "list" p) [e] [] pos) (TEv X.K c (.op .list (.cons a .nil))) :=
  sv_callTy os_list (call_list_of.or (call_listS hc)) hg hm boot_list' (sa_cons ha sa_nil he) (by decide) (by decide) he rfl
/-! index in a text -/
theorem mt_sindex : MtR X "str.index" (fun x xs H Q => ∃ a b i rest, x = .str a ∧ xs = [.str b] ∧ Builtin.Str.occurrences a b 0 a.length 1 = i :: rest ∧ Q (.int (i : Nat)) H) := by
  intro pins s σ H x xs v us Q I rx rs h
  obtain ⟨a, b, i, rest, rfl, rfl, ho, h⟩ := h
  obtain ⟨t, rfl⟩ := rx
  cases rs with
  | cons r1 rs =>
    cases rs
    obtain ⟨u, rfl⟩ := r1
    exact PySem.SC.index ho ⟨.int (i : Nat), H, I.tok _, ⟨_, rfl⟩, h⟩
theorem occ_pos (x : Str) (k i : Nat) (h : posOf k (toL x) = some i) : ∃ rest, Builtin.Str.occurrences x ⟨#[k]⟩ 0 x.length 1 = i :: rest := by
  have e := find1_eq x k
  unfold Txt.find at e
  rw [h] at e
  cases ho : Builtin.Str.occurrences x ⟨#[k]⟩ 0 x.length 1 with
  | nil => rw [ho] at e; simp [posInt] at e
  | cons j rest =>
    rw [ho] at e
    refine ⟨rest, ?_⟩
    have : (j : Int) = (i : Int) := e
    rw [Int.ofNat_inj.mp this]
theorem rr_sindex {K : PySem.W.Frag} : ∀ z ds d' vs F H Q, Same F H → DnAll K F vs ds → opD .sindex (.str z :: ds) = some d' → Wish K F H d' Q → (fun (x : V) (xs : List V) (H : Hp) (Q : VK) => ∃ a b i rest, x = .str a ∧ xs = [.str b] ∧ Builtin.Str.occurrences a b 0 a.length 1 = i :: rest ∧ Q (.int (i : Nat)) H) (.str z) vs H Q := by
  intro z ds d' vs F H Q s q e w
  simp only [opD] at e; unfold dop_sindex at e
  split at e
  · rename_i z' t heq
    cases heq
    match q with
    | .cons q1 .nil =>
      have h1 := dn_str q1; subst h1
      cases hk : sign1 t with
      | none => rw [hk] at e; cases e
      | some k =>
        rw [hk] at e
        simp only [Option.bind_some] at e
        cases hp : posOf k (toL z) with
        | none => rw [hp] at e; cases e
        | some i =>
          rw [hp] at e
          cases e
          obtain ⟨rest, ho⟩ := occ_pos z k i hp
          rw [← sign1_eq hk] at ho
          exact ⟨z, t, i, rest, rfl, rfl, ho, w.here s (Dp.int _)⟩
  · cases e
theorem sv_sindex {apos cpos : Pos} (ho : PE X e1 (TEv X.K c a)) (ha : PE X e (TEv X.K c b)) (hline : (apos.endLine == cpos.line) = true := by rfl) (hbase : attributeBase e1 "index" X.env (eval e1 X.env) = eval e1 X.env := by rfl) (he : starEach [e] X.env = (false, eval e X.env) :: starEach [] X.env := by rfl) :
    PE X (.Call (.Attribute e1 "index" apos) [e] [] cpos) (TEv X.K c (.meth .sindex a (.cons b .nil))) := sv_meth PySem.F.slot_str_index PySem.F.type_str_index mt_sindex rr_sindex ho (sa_cons ha sa_nil he) hbase (by rw [he]; rfl) hline he rfl
/-! two new things to names of which a comprehension takes one: through a tuple -/
theorem okFA_tup {K : PySem.W.Frag} {σ : St} {F H : Hp} {r : Env} {N : Ends} {is : List (Nat × Nat)} (x : Stt K c r σ H F) (hz : ZOk c (is.map (·.1))) (h : OkS K c F (denS c.call (.par is a) r) N) {Q : List V → Hp → Prop}
    (f : ∀ vs H1, vs.length = is.length → (∀ p, H1 p = none → N.nx (setAll σ (is.map (·.1)) vs) (upd H1 p (.tup vs))) → Q vs H1) : OkFA K c (is.map (·.2)) r σ F H (den c.call a r) Q := by
  simp only [denS] at h
  cases ed : den c.call a r with
  | ok p =>
    obtain ⟨d, r1⟩ := p
    rw [ed] at h
    cases d with
    | list ds =>
      simp only at h
      intro vs F1 H1 x1 e1 s1 q1 _
      cases ep : putPar is ds r1 with
      | none => rw [ep] at h; exact h.elim
      | some r2 =>
        rw [ep] at h
        have x2 := put_all is hz vs ds r1 r2 σ x1 q1 ep
        refine f vs H1 ?_ fun p np => ?_
        · have : ∀ {ms : List Nat} {us : List V} {cs : List D}, FrAll K c r1 σ F1 H1 ms us cs → us.length = ms.length := by
            intro ms us cs h
            induction h with
            | nil => rfl
            | cons _ _ _ ih => simp [ih]
          rw [this q1, List.length_map]
        · have g : Grow F1 H1 F1 (upd H1 p (.tup vs)) := Grow.lay x2.rel.same np
          exact h _ _ F1 (g.stt x2 (x2.jup np)) (e1.same x.rel)
    | none => exact h
    | bool _ => exact h
    | int _ => exact h
    | str _ => exact h
    | tuple _ => exact h
    | dict _ => exact h
  | exc k => rw [ed] at h; exact h
  | stuck => rw [ed] at h; exact h
theorem ss_parC2 {i j m1 m2 : Nat} {x y : Str} {px py pt : Pos} {kt k2 pt2} (hg : PG X (.Tuple [.Name x px, .Name y py] kt pt) (gTup X.K 2 (gNames [i, j]))) (ha : PA X [e1, e2] (TAf X.K c [m1, m2] a))
    (hw : swappedStores [.Tuple [.Name x px, .Name y py] kt pt] (.Tuple [e1, e2] k2 pt2) X.env = pure none := by rfl)
    (hs : swapsWithSole [.Tuple [.Name x px, .Name y py] kt pt] (.Tuple [e1, e2] k2 pt2) pos.line X.env = pure false := by rfl)
    (h1 : (assignEach [.Tuple [.Name x px, .Name y py] kt pt] X.env).map (·.2) = [assign (.Tuple [.Name x px, .Name y py] kt pt) X.env] := by rfl) (hz0 : ZOk c [i, j] := by first | exact .inr (by decide) | exact .inl (by assumption)) :
    PS X (.Assign [.Tuple [.Name x px, .Name y py] kt pt] (.Tuple [e1, e2] k2 pt2) pos) (TSv X.K c (.par [(i, m1), (j, m2)] a)) := by
  refine PS.mono (ps_asg (pe_tup ha) hg hs hw h1) fun D σ H ⟨F, r, x, h⟩ => ⟨F, r, x, ?_⟩
  refine okFA_tup (is := [(i, m1), (j, m2)]) x hz0 h fun vs H1 hl hn => ?_
  match vs, hl with
  | [v, w], _ =>
    refine ⟨by show 2 ≤ sizeLine; rw [sizeLine_eq]; decide, fun p np => ⟨p, [v, w], rfl, .inl (.inl upd_same), rfl, ?_⟩⟩
    exact ⟨v, [w], rfl, w, [], rfl, rfl, hn p np⟩
end
end Bm
end
section
set_option Elab.async false
set_option linter.all false
set_option maxRecDepth 100000
set_option maxHeartbeats 1000000
/-! _law_cell, _law_rounds. -/
namespace Bm
open PySem PySem.Spec L2
/-- == of data that may lie in the ground -/
def rEqG (K : PySem.W.Frag) : R2 := fun x y H Q => ∃ d e, L2.Dp K H x d ∧ L2.Dp K H y e ∧ gEq d e d ∧ Q (.bl (PyData.eqv d e)) H
theorem op_eqG {X : Cx} (hu : X.A.units + 64 < cLine) : OpR X (compareOp .Eq) (rEqG X.K) := by
  intro pins s σ H x y v u Q I rx ry h
  obtain ⟨d, e, hd, he, ⟨pd, pe, dd⟩, q⟩ := h
  obtain ⟨as, r1⟩ := L2.Dp.reads I d x v hd rx
  obtain ⟨bs, r2⟩ := L2.Dp.reads I e y u he ry
  exact PySem.SeqAt.eq_plain r1 r2 pd pe (by have := Nat.min_le_left d.depth e.depth; omega) ⟨.bl _, H, I, rfl, q⟩
theorem dpa_ints (K : PySem.W.Frag) (H : Hp) : ∀ ns : List Int, L2.DpAll K H (ns.map V.int) (ns.map PyData.int)
  | [] => .nil
  | n :: r => .cons (.int n) (dpa_ints K H r)
theorem plain_ints : ∀ ns : List Int, PyData.plainAll (ns.map PyData.int) = true
  | [] => rfl
  | n :: r => by simp only [List.map_cons, PyData.plainAll, PyData.plain, plain_ints r, Bool.and_self]
theorem depth_ints : ∀ ns : List Int, PyData.depthAll (ns.map PyData.int) ≤ 1
  | [] => by simp [PyData.depthAll]
  | n :: r => by
    have := depth_ints r
    simp only [List.map_cons, PyData.depthAll, PyData.depth]
    omega
def rModN : R2 := rI (fun _ j => 0 < j) fun i j => .int (i % j)
def rLenV (K : PySem.W.Frag) : List V → Hp → VK → Prop := fun xs H Q => ∃ x n, xs = [x] ∧ LenV K x H n ∧ Q (.int n) H
def tCell (K : PySem.W.Frag) : TS :=
  tSeq (tIfS (tTest (tOp (rEqG K) (tVar 0) (tLst tNil))) (tRet (tOp (rMulA K) (tVar 1) (tC (.int 7919)))) tNext)
    (tRet (tOp (rAddA K) (tOp (rIx K) (tVar 0) (tOp rModN (tVar 1) (tCB (rLenV K) (tCons (tVar 0) tNil)))) (tOp (rMulA K) (tOp (rI CDivW fun i j => .int (i / j)) (tVar 1) (tCB (rLenV K) (tCons (tVar 0) tNil))) (tC (.int 104729)))))
theorem pss_cell {X : Cx} {p1 p2 p3 p4 p5 p6 p7 p8 q1 q2 q3 q4 q5 q6 q7 q8 q9 q10 q11 q12 q13 q14 q15 q16 : Pos} {k0 k1 : Nat} (hu : X.A.units + 64 < cLine) (h0 : X.N[0]? = some ("script" : Str)) (h1 : X.N[1]? = some ("k" : Str)) (v0 : Vis X.env.scope "script") (v1 : Vis X.env.scope "k") (g : Gl X "len") (hm : X.mg "len" = none) :
    PSs X [.If (.Compare (.Name "script" p1) [.Eq] [.List [] p2] p3) [.Return (some (.BinOp (.Name "k" p4) .Mult (.Constant (.int 7919) k0 p5) p6)) p7] [] p8,
      .Return (some (.BinOp (.Subscript (.Name "script" q1) (.BinOp (.Name "k" q2) .Mod (.Call (.Name "len" q3) [.Name "script" q4] [] q5) q6) q7) .Add (.BinOp (.BinOp (.Name "k" q8) .FloorDiv (.Call (.Name "len" q9) [.Name "script" q10] [] q11) q12) .Mult (.Constant (.int 104729) k1 q13) q14) q15)) q16] (tCell X.K) :=
  pss_cons (ps_if (pt_cmpR (op_eqG hu) (pe_var h0 v0) (pe_lst pa_nil) (nomark _)) (pss_one (ps_ret (pe_op op_mulA (pe_var h1 v1) pe_int))) pss_nil)
    (pss_one (ps_ret (pe_op op_addA (pe_ix ix_seq (pe_var h0 v0) (pe_op op_mod (pe_var h1 v1) (pe_callB call_len g hm boot_len' (pa_cons (pe_var h0 v0) pa_nil))) (fun _ _ => rfl)) (pe_op op_mulA (pe_op op_fdivW (pe_var h1 v1) (pe_callB call_len g hm boot_len' (pa_cons (pe_var h0 v0) pa_nil))) pe_int))))
/-- a cell of the script: some whole number; a heap that keeps what stood -/
def spCell (K : PySem.W.Frag) : Sp := fun vs H Q _ => ∃ (a : Addr) (ns : List Int) (k : Int), vs = [.ref a, .int k] ∧ SqL K H a (ns.map V.int) ∧ ns.length ≤ 63 ∧ 0 ≤ k ∧ k ≤ 63 ∧ ∀ (c : Int) (H' : Hp), Same H H' → Q (.int c) H'
theorem cell_run {K : PySem.W.Frag} {vs : List V} {H : Hp} {Q : VK} {E : XK} (h : spCell K vs H Q E) : tCell K { nx := fun _ H' => Q .non H', rt := Q } (L2.start ["script", "k"] vs) H := by
  obtain ⟨a, ns, k, rfl, hS, hl, k0, k1, q⟩ := h
  refine ⟨.ref a, rfl, Nat.zero_le _, fun p hp => ?_⟩
  have sm : Same H (upd H p (.lst [])) := same_upd hp
  have hS' : SqL K (upd H p (.lst [])) a (ns.map V.int) := Same.seq sm hS
  refine ⟨.list (ns.map .int), .list [], .lst hS' (dpa_ints _ _ _), .lst (SqL.of upd_same) .nil, ⟨?_, rfl, ?_⟩, ⟨_, rfl, ?_⟩⟩
  · simp only [PyData.plain]; exact plain_ints ns
  · have := depth_ints ns; simp only [PyData.depth]; omega
  · cases hns : ns with
    | nil =>
      have e : PyData.eqv (.list (([] : List Int).map .int)) (.list []) = true := by decide +kernel
      rw [e, if_pos rfl]
      refine ⟨_, rfl, .inl ⟨k, 7919, rfl, rfl, ?_, ?_⟩⟩
      · exact .inr ⟨by decide, by decide⟩
      · exact q _ _ sm
    | cons n r =>
      have e : PyData.eqv (.list ((n :: r).map .int)) (.list []) = false := rfl
      rw [e, if_neg (by decide)]
      have hlen : LenV K (.ref a) (upd H p (.lst [])) ns.length := .inl ⟨_, hS', by rw [List.length_map]⟩
      have hpos : (0 : Int) < ns.length := by rw [hns]; simp only [List.length_cons]; omega
      have hm0 : 0 ≤ k % (ns.length : Int) := Int.emod_nonneg _ (by omega)
      have hm1 : k % (ns.length : Int) < ns.length := Int.emod_lt_of_pos _ hpos
      refine ⟨.ref a, rfl, .int k, rfl, .ref a, rfl, .ref a, ns.length, rfl, hlen, k, ns.length, rfl, rfl, hpos, ?_⟩
      obtain ⟨z, hz⟩ : ∃ z, ns[(k % (ns.length : Int)).toNat]? = some z := ⟨_, List.getElem?_eq_getElem (by omega)⟩
      refine .inl ⟨a, _, _, .int z, rfl, rfl, hS', ?_, ?_⟩
      · refine atI_ix (k := (k % (ns.length : Int)).toNat) ?_ (by rw [List.getElem?_map, hz]; rfl)
        unfold ixOf
        rw [if_pos hm0, List.length_map, if_pos (by omega)]
      · refine ⟨.int k, rfl, .ref a, rfl, .ref a, ns.length, rfl, hlen, k, ns.length, rfl, rfl, wide_div (b := 10) hpos (by simp only [Int.natAbs_natCast]; omega) (by decide) (by decide), ?_⟩
        · refine .inl ⟨_, _, rfl, rfl, .inr ⟨by decide, by decide⟩, ?_⟩
          exact .inl ⟨_, _, rfl, rfl, q _ _ sm⟩
section
variable {P : Program} {w : World} {K : PySem.W.Frag} {mg : Str → Option Value} {base : Heap}
theorem ok_cell {qual : Str} {st : Stmt} {fa : Addr} {fdat : FuncData} (F : Fun K "_law_cell" qual st fa fdat) (S : FnScope ["script", "k"] ["script", "k"] (defScope st)) (hm : mg "len" = none)
    (der : ∀ (E : XK) (cdv : Value) (A : Around) (outer : List PySem.Env) (s : Shared) (H : Hp), Room 1 (A.deeper (PyProof.Rows.envOfC qual (defScope st) s.heap.objs.size fa cdv)) →
      PSs (cxOf (L2N.CX P w) P w K mg base ["script", "k"] qual (defScope st) fa cdv A outer s H E) (defBody st) (tCell K)) : FnOk P w K mg base (L2N.CX P w) 2 fa fdat ["script", "k"] (spCell K) := by
  refine okN F S (fun vs H Q E h => ?_) fun cdv A outer s H vs Q E _ hr h => ⟨_, der E cdv A outer s H hr, cell_run h⟩
  obtain ⟨a, ns, k, rfl, _⟩ := h
  rfl
end
/-! ### the rounds -/
/-- the lists of two numbers, one for each round, each by itself -/
def Rounds (H H' : Hp) (R : Addr) (ds : List Addr) : Prop := Same H H' ∧ H R = none ∧ H' R = some (.lst (ds.map V.ref)) ∧ ds.Nodup ∧ R ∉ ds ∧ ∀ d ∈ ds, H d = none ∧ ∃ c : Int, H' d = some (.lst [.int c, .int 0])
def spRounds (K : PySem.W.Frag) : Sp := fun vs H Q _ => ∃ (a : Addr) (ns : List Int) (m : Int), vs = [.ref a, .int m] ∧ SqL K H a (ns.map V.int) ∧ ns.length ≤ 63 ∧ 0 ≤ m ∧ m ≤ 63 ∧ ∀ (R : Addr) (ds : List Addr) (H' : Hp), Rounds H H' R ds → Q (.ref R) H'
def rMax2 : List V → Hp → VK → Prop := fun xs H Q => ∃ i j, xs = [.int i, .int j] ∧ Q (.int (if j > i then j else i)) H
def rMin2 : List V → Hp → VK → Prop := fun xs H Q => ∃ i j, xs = [.int i, .int j] ∧ Q (.int (if j < i then j else i)) H
def tRounds (K : PySem.W.Frag) (E' : XK) : TS :=
  tRet (tLc (iRng1 (tCons (tCB rMax2 (tCons (tC (.int 1)) (tCons (tCB rMin2 (tCons (tVar 1) (tCons (tCB (rLenV K) (tCons (tVar 0) tNil)) tNil))) tNil))) tNil)) (gName 2) tYes (tLst (tCons (tCall (spCell K) [] E' (tCons (tVar 0) (tCons (tVar 2) tNil))) (tCons (tC (.int 0)) tNil))) [2])
theorem rounds_run {K : PySem.W.Frag} {vs : List V} {H : Hp} {Q : VK} {E E' : XK} (h : spRounds K vs H Q E) : tRounds K E' { nx := fun _ H' => Q .non H', rt := Q } (L2.start ["script", "most", "k"] vs) H := by
  obtain ⟨a, ns, m, rfl, hS, hl, m0, m1, q⟩ := h
  have hlen : LenV K (.ref a) H ns.length := .inl ⟨_, hS, by rw [List.length_map]⟩
  refine ⟨.int m, rfl, .ref a, rfl, .ref a, ns.length, rfl, hlen, m, ns.length, rfl, 1, _, rfl, _, rfl, ?_, ?_, fun R hR => ?_⟩
  · split <;> split <;> omega
  · split <;> split <;> omega
  · generalize hn : (if (if ((ns.length : Nat) : Int) < m then ((ns.length : Nat) : Int) else m) > 1 then (if ((ns.length : Nat) : Int) < m then ((ns.length : Nat) : Int) else m) else 1).toNat = n
    have hn63 : n ≤ 63 := by
      rw [← hn]; split <;> split <;> omega
    refine ⟨fun i k H2 => k = n - i ∧ ∃ ds : List Addr, ds.length = i ∧ i ≤ n ∧ Rounds H H2 R ds, ⟨n, rfl, [], rfl, Nat.zero_le _, ?_⟩, ?_⟩
    · exact ⟨same_upd hR, hR, upd_same, List.nodup_nil, by simp, fun d hd => by cases hd⟩
    · rintro i k H2 ⟨rfl, ds, hi, hin, rd⟩
      by_cases hlt : i < n
      · refine .inr ⟨hlt, fun H3 => ∃ ds : List Addr, ds.length = i + 1 ∧ Rounds H H3 R ds, fun H3 ⟨ds', h1, h2⟩ => ⟨n - (i + 1), by omega, rfl, ds', h1, hlt, h2⟩, ?_⟩
        rintro x H3 ⟨rfl, rfl⟩
        refine ⟨rfl, ?_⟩
        unfold tYes; simp only []
        rw [if_pos trivial]
        have hS2 : SqL K H3 a (ns.map V.int) := Same.seq rd.1 hS
        refine ⟨.ref a, rfl, .int (0 + i), rfl, a, ns, _, rfl, hS2, hl, by omega, by omega, fun c H4 s4 => ⟨by show 2 ≤ sizeLine; decide, fun d hd => ?_⟩⟩
        obtain ⟨r1, r2, r3, r4, r5, r6⟩ := rd
        have hR4 : H4 R = some (.lst (ds.map V.ref)) := s4 _ _ r3
        have nRd : R ≠ d := ne_of_none hR4 hd
        refine ⟨ds.map V.ref, by rw [upd_ne nRd]; exact hR4, ?_, ds ++ [d], by rw [List.length_append, hi]; rfl, ?_⟩
        · rw [List.length_map, hi]; exact Nat.lt_of_lt_of_le (show i < 64 by omega) (by decide)
        · have hdn : ∀ e ∈ ds, e ≠ d := fun e he => by
            obtain ⟨_, c', hc'⟩ := r6 e he
            exact ne_of_none (s4 _ _ hc') hd
          have hHd : H d = none := by
            cases e : H d with
            | none => rfl
            | some o =>
              have := s4 _ _ (r1 _ _ e)
              rw [hd] at this; cases this
          refine ⟨fun b o hb => ?_, r2, ?_, ?_, ?_, fun e he => ?_⟩
          · have nb : b ≠ R := ne_of_none hb r2
            have nd : b ≠ d := ne_of_none hb hHd
            rw [upd_ne nb, upd_ne nd]
            exact s4 _ _ (r1 _ _ hb)
          · rw [upd_same, List.map_append]; rfl
          · refine List.nodup_append.mpr ⟨r4, by simp, fun x hx y hy => ?_⟩
            rw [List.mem_singleton.mp hy]; exact hdn x hx
          · intro z
            rcases List.mem_append.mp z with z | z
            · exact r5 z
            · exact nRd (List.mem_singleton.mp z)
          · rcases List.mem_append.mp he with he | he
            · obtain ⟨h1, c', hc'⟩ := r6 e he
              have neR : e ≠ R := fun z => r5 (z ▸ he)
              refine ⟨h1, c', ?_⟩
              rw [upd_ne neR, upd_ne (hdn e he)]
              exact s4 _ _ hc'
            · rw [List.mem_singleton.mp he]
              refine ⟨hHd, c, ?_⟩
              rw [upd_ne nRd.symm, upd_same]
      · refine .inl ⟨Nat.le_of_not_lt hlt, q R ds H2 rd⟩
section
variable {P : Program} {w : World} {K : PySem.W.Frag} {mg : Str → Option Value} {base : Heap}
theorem ok_rounds {qual : Str} {st : Stmt} {fa : Addr} {fdat : FuncData} (F : Fun K "_law_rounds" qual st fa fdat) (S : FnScope ["script", "most", "k"] ["script", "most"] (defScope st))
    (der : ∀ (E : XK) (cdv : Value) (A : Around) (outer : List PySem.Env) (s : Shared) (H : Hp), Room 2 (A.deeper (PyProof.Rows.envOfC qual (defScope st) s.heap.objs.size fa cdv)) →
      PSs (cxOf (L2N.CX P w) P w K mg base ["script", "most", "k"] qual (defScope st) fa cdv A outer s H E) (defBody st) (tRounds K fun _ _ _ => False)) : FnOk P w K mg base (L2N.CX P w) 3 fa fdat ["script", "most"] (spRounds K) := by
  refine okN F S (fun vs H Q E h => ?_) fun cdv A outer s H vs Q E _ hr h => ⟨_, der E cdv A outer s H hr, rounds_run h⟩
  obtain ⟨a, ns, k, rfl, _⟩ := h
  rfl
end
end Bm
end
section
set_option Elab.async false
set_option linter.all false
set_option maxRecDepth 100000
set_option maxHeartbeats 2000000
/-! Walks over lists while an exception is handled. -/
namespace Bm
open PySem PySem.Spec PyProof.Rows L2 HotX L2H
section
variable {prog : Program} {w : World} {A : Around} {E : Value → Shared → Prop} {s : Shared}
/-- the list is at its end, and x1 is handled -/
theorem next_end_hot {it l x1 : Addr} {i : Nat} {items : Array Value} {Q : Option Value → Shared → Prop} (hot : HotAt A x1 s.heap) (hx1 : x1 ≠ it) (hit : s.heap.IsListIter it l i) (hl : s.heap.IsList l items) (hx : items[i]? = none)
    (hQ : ∀ h', Heap.ExtBut it s.heap h' → Q none { s with heap := h' }) : wpAny (model prog w) A (pyNext (.ref it)) Q E s := by
  obtain ⟨hh, o1, vs1, h1, d1, c1⟩ := hot
  obtain ⟨o, ho, hc, hd⟩ := id hit
  obtain ⟨ol, hol, _, nl, hdl⟩ := hl
  unfold pyNext
  refine wpAny_bind (wpAny_attempt (wpAny_callSpecial?_slot (name := Str.ofString "__next__") hit.typeIs slot_listiter_next (wpAny_call_entry slot_listiter_next hit.typeIs entry_listiter_next ?_ (args_listiter_next _))))
  show wpAny _ _ (field (.ref it) 0 >>= _) _ _ s
  refine wpAny_bind (wpAny_field ho hd (x := .ref l) rfl ?_)
  show wpAny _ _ (if (Value.ref l == Value.none) = true then _ else _) _ _ s
  rw [if_neg (show ¬ ((Value.ref l == Value.none) = true) from Bool.false_ne_true)]
  show wpAny _ _ (field (.ref it) 1 >>= _) _ _ s
  refine wpAny_bind (wpAny_field ho hd (x := .int i 0) rfl ?_)
  show wpAny _ _ (seqItems? (.ref l) >>= _) _ _ s
  refine wpAny_bind (wpAny_seqItems hol hdl ?_)
  simp only [Int.toNat_natCast, hx]
  refine wpAny_bind (wpAny_rule (wpAny_bind (wpAny_setField ho hd (by simp) ?_)))
  show wpAny _ _ (newExc (.type "StopIteration") [] >>= _) _ _ _
  refine wpAny_bind ?_
  simp only [newExc, newTuple]
  refine wpAny_bind (wpAny_newObj_type ?_ (by size_fits))
  refine wpAny_bind (m := firstArgMember _ _) (wpAny_of_eq (a := Value.none) (by first | rfl | (simp only [firstArgMember]; rfl)) ?_)
  refine wpAny_newObj_type ?_ (by size_fits)
  have hu := Heap.SameBut.update (h := s.heap) (a := it) (Obj.mapFields (·.setIfInBounds 0 .none))
  have g1 : (s.heap.update it (Obj.mapFields (·.setIfInBounds 0 .none))).get? x1 = some o1 := by
    rw [Heap.get?_update_other _ _ (Ne.symm hx1)]; exact h1
  refine raiseNew_hot (A := A.in1) ⟨hh, o1, vs1, Heap.get?_push_of_some _ (Heap.get?_push_of_some _ g1), d1, c1⟩ (Nat.ne_of_lt (Heap.lt_size (Heap.get?_push_of_some _ g1))) (Heap.get?_push_size _ rfl) rfl (by first | (simp; done) | (simp; omega)) ?_
  refine wpAny_bind (wpAny_isInstance (T := "StopIteration") (b := true) ⟨_, Heap.get?_update_self _ (Heap.get?_push_size _ rfl) rfl, rfl⟩ isSubtype_stop ?_)
  refine wpAny_pure (hQ _ fun b o hb e => ?_)
  have e1 : (s.heap.update it (Obj.mapFields (·.setIfInBounds 0 .none))).get? b = some o := by
    rw [Heap.get?_update_other _ _ (Ne.symm hb)]; exact e
  rw [Heap.get?_update_other _ _ (Nat.ne_of_gt (Heap.lt_size (Heap.get?_push_of_some _ e1)))]
  exact Heap.get?_push_of_some _ (Heap.get?_push_of_some _ e1)
/-- a list's walk there -/
theorem walks_hot {x1 : Addr} (I ax : Addr) (hne : ax ≠ I) (h1 : x1 ≠ I) (items : Array Value) :
    Walks prog w A I [I, ax, x1] [I] items.size (fun i v => items[i]? = some v) (fun i h => (h.IsListIter I ax i ∧ h.IsList ax items) ∧ HotAt A x1 h) where
  sub := fun b hb => by simp at hb; simp [hb]
  frame := fun _ _ _ st hk => by
    refine ⟨⟨st.1.1.at fun o e => hk I (by simp) o e, st.1.2.at fun o e => hk ax (by simp) o e⟩, ?_⟩
    obtain ⟨hh, o, vs, e, d, c⟩ := st.2
    exact ⟨hh, o, vs, hk x1 (by simp) o e, d, c⟩
  item := fun i s Q E hi st hQ => by
    refine wpAny_pyNext_list_item st.1.1 st.1.2 (x := items[i]) (by simp [hi]) fun h' hit' hs' => ?_
    obtain ⟨hh, o, vs, e, d, c⟩ := st.2
    exact hQ _ h' s.toks (by simp [hi]) ⟨⟨hit', st.1.2.extBut hs'.extBut hne⟩, hh, o, vs, hs'.extBut _ _ h1 e, d, c⟩ fun b o hb e => hs'.extBut b o (fun h => hb (by simp [h])) e
  done := fun s Q E st hQ => next_end_hot st.2 h1 st.1.1 st.1.2 (by simp) fun h' he' => hQ h' s.toks fun b o hb e => he' b o (fun h => hb (by simp [h])) e
  self := fun _ _ _ _ st hQ => wpAny_pyIter_listiter st.1.1 hQ
end
/-! ### sum -/
theorem cr_sumH {X : Cx} (hc : HotC X) : CallR X (.builtin "sum") (rSum X.K) := by
  intro pins s σ H vs us Q I r h
  obtain ⟨a, ns, rfl, hs, q⟩ := h
  obtain ⟨its, rv, hl, _⟩ := I.list hs
  rw [Vals.ref1 r]
  obtain ⟨x1, hot⟩ := hc.at I
  obtain ⟨hh, o1, vs1, g1, d1, c1⟩ := id hot
  obtain ⟨xs, e⟩ := rv.ints.allInts.items
  have hn : numsOf (intItems xs).toList = ns := by rw [← e]; exact rv.ints.numsOf
  rw [nums_intItems] at hn
  have hl' := hl.isList
  rw [e] at hl'
  refine call_sum_walkG (iter_intList hl' fun s2 e2 st hfp hlI => ?_)
  subst e2
  have lt1 : x1 < s.heap.objs.size := Heap.lt_size g1
  refine ⟨_, _, _, _, _, _, numAt xs, rfl, walks_hot (A := X.A.in1) (x1 := x1) _ a hlI (Nat.ne_of_lt lt1) (intItems xs), ⟨st, hh, o1, vs1, Heap.get?_push_of_some _ g1, d1, c1⟩, fun b hb => ?_, (fun _ _ => intItems_at), fun h' tk t' hk => ?_⟩
  · simp only [List.mem_cons, List.not_mem_nil, or_false] at hb
    rcases hb with hb | hb | hb
    · exact hfp b (by simp [hb])
    · exact hfp b (by simp [hb])
    · subst hb
      show b < (s.heap.push _).objs.size
      rw [Heap.size_push]; exact Nat.lt_succ_of_lt lt1
  · refine ⟨.int ns.sum, H, I.kept (t' := tk) (old_kept hk), ⟨t', ?_⟩, q⟩
    rw [preSum_eq, List.take_of_length_le (by simp [intItems]), hn]
/-! ### a list made of a list -/
def tLcH (K : PySem.W.Frag) (tl : TE) (g : TG) (te : TE) (vs : List Nat) : TE := fun σ H Q => tl σ H fun x H1 => ∃ a xs, x = .ref a ∧ SqL K H1 a xs ∧ ∀ D, H1 D = none → ∃ W : Nat → Hp → Prop, W 0 (upd H1 D (.lst [])) ∧ (∀ i H, W i H → SqL K H a xs) ∧
  (∀ i x H, xs[i]? = some x → W i H → g x (wipe σ vs) H fun σ2 H2 => wipe σ2 vs = wipe σ vs ∧ te σ2 H2 fun y H4 => ∃ acc, H4 D = some (.lst acc) ∧ acc.length < sizeLine ∧ W (i + 1) (upd H4 D (.lst (acc ++ [y])))) ∧ ∀ H, W xs.length H → Q (.ref D) H
theorem pe_lcH {X : Cx} {elt tg iter : Expr} {scope : Scope} {own : List (Str × Nat)} {pos : Pos} {tl : TE} {g : TG} {te : TE} (hc : HotC X) (hN : X.N.Nodup) (hi : PE X iter tl) (ok : BlkOk X.N X.env.scope scope own)
    (hg : ∀ (s : Shared) (H : Hp) (C : Addr) (cl : List (Str × Addr)) (fp : List Addr), PG (X.blk s H scope (compEnvC scope cl C X.env) fp) tg g)
    (he : ∀ (s : Shared) (H : Hp) (C : Addr) (cl : List (Str × Addr)) (fp : List Addr), PE (X.blk s H scope (compEnvC scope cl C X.env) fp) elt te) (hs : ∀ x, foldedSetIterable iter X.env x = pure x := by intro _; rfl) :
    PE X (.ListComp elt [⟨tg, iter, [], 0⟩] scope pos) (tLcH X.K tl g te (own.map (·.2))) := by
  refine ⟨fun pins s σ H Q I h => ?_⟩
  have hfree : ∀ y ∈ scope.names, y.2 = .free → ∃ c, X.env.cells.lookup y.1 = some c := fun y hy e => (ok.free y hy e).elim (fun k => I.ok.has _ (.inl k)) fun k => I.ok.has _ (.inr k)
  rw [eval_ListComp]
  refine wpAny_comprehension_free (use := none) rfl hs (closure_ok hfree) ok.kind (fun y hy e => by rw [ok.uniq y hy, e]) (thn (hi.run pins s σ H _ I h) fun xv s1 ⟨x, H1, I1, rx, a, xs, ex, hq, q⟩ => ?_)
  subst ex
  cases rx
  obtain ⟨its, rv, p, hz⟩ := I1.list hq
  refine wpAny_pyIter_list p.isList ?_
  generalize hit : s1.heap.objs.size = it
  have I2 : Inv X pins σ H1 { s1 with heap := s1.heap.push { cls := .type "list_iterator", data := .fields #[.ref a, .int 0 0] } } := I1.kept (t' := s1.toks) fun b o e => Heap.get?_push_of_some _ e
  have st2 : (s1.heap.push { cls := .type "list_iterator", data := .fields #[.ref a, .int 0 0] }).IsListIter it a 0 := by
    rw [← hit]; exact ⟨_, Heap.get?_push_size _ rfl, rfl, rfl⟩
  have f2 : FpOk X pins H1 it := by
    rw [← hit]; exact I1.fpOk (Nat.le_refl _) (I1.hok.fresh (Nat.le_refl _))
  generalize hs2 : ({ s1 with heap := s1.heap.push { cls := .type "list_iterator", data := .fields #[.ref a, .int 0 0] } } : Shared) = s2 at I2 ⊢
  have st2 : s2.heap.IsListIter it a 0 := by rw [← hs2]; exact st2
  refine wpAny_newObj_type (newEnv_comp ?_) (by show 0 ≤ sizeLine; decide)
  generalize hD : s2.heap.objs.size = D
  have hDn : H1 D = none := I2.hok.fresh (Nat.le_of_eq hD)
  obtain ⟨W, w0, wl, turn, fin⟩ := q D hDn
  generalize hs3 : ({ s2 with heap := s2.heap.push { cls := .type "list", data := .seq ([] : List Value).toArray } } : Shared) = s3
  have h3 : s3.heap = s2.heap.push { cls := .type "list", data := .seq ([] : List Value).toArray } := by rw [← hs3]
  have I3 : Inv X pins σ (upd H1 D (.lst [])) s3 := by
    rw [← hs3]
    refine I2.laid (t' := s2.toks) (fun b o e => Heap.get?_push_of_some _ e) (Nat.le_of_eq hD) ⟨Nat.zero_le _, [], 0, .nil, ?_⟩
    rw [← hD]
    exact Heap.get?_push_size _ rfl
  have ilt : it < s2.heap.objs.size := by obtain ⟨_, e, _⟩ := st2; exact Heap.lt_size e
  have f3 : ∀ b ∈ [it], FpOk X pins (upd H1 D (.lst [])) b ∧ b < s3.heap.objs.size := fun b hb => by
    rw [List.mem_singleton.mp hb]
    refine ⟨⟨?_, f2.2⟩, by rw [h3, Heap.size_push]; exact Nat.lt_succ_of_lt ilt⟩
    rw [upd_ne (by rw [← hD]; exact Nat.ne_of_lt ilt)]; exact f2.1
  have st3 : s3.heap.IsListIter it a 0 := st2.at fun o e => by rw [h3]; exact Heap.get?_push_of_some _ e
  -- the handled exception
  obtain ⟨px, ⟨hh, v1, e1, c1⟩, hp⟩ := id hc
  have pin3 := I3.pin px (List.mem_append_left _ hp)
  have xne : px.1 ≠ it := (f2.2.2.2.2.2 px (List.mem_append_left _ hp))
  have I4 := block_start I3 ok hN f3
  have pg := hg s3 (upd H1 D (.lst [])) s3.heap.objs.size (cellsFrom (s3.heap.objs.size + 1) scope.names (cloFrom X.env.cells scope.names [])) [it]
  have pe := he s3 (upd H1 D (.lst [])) s3.heap.objs.size (cellsFrom (s3.heap.objs.size + 1) scope.names (cloFrom X.env.cells scope.names [])) [it]
  show codeAny _ _ (.compStart (.ListComp elt [⟨tg, iter, [], 0⟩] scope pos) 0 (.ref it) (.ref D) (compEnvC scope (cellsFrom (s3.heap.objs.size + 1) scope.names (cloFrom X.env.cells scope.names [])) s3.heap.objs.size X.env)) (compPost (model X.prog X.w) X.A X.xe none (EP X pins σ Q) (.ref D) s3.heap.objs.size) { s3 with heap := pushCells (s3.heap.push { cls := .type "dict", data := .dict #[] }) scope.names }
  generalize hce : compEnvC scope (cellsFrom (s3.heap.objs.size + 1) scope.names (cloFrom X.env.cells scope.names [])) s3.heap.objs.size X.env = ce at I4 pg pe ⊢
  have cL : ce.locals = s3.heap.objs.size := by subst hce; rfl
  generalize hH3 : upd H1 D (.lst []) = H3 at I3 I4 pg pe w0 f3 pin3
  generalize hs4 : ({ s3 with heap := pushCells (s3.heap.push { cls := .type "dict", data := .dict #[] }) scope.names } : Shared) = s4 at I4 ⊢
  have st4 : s4.heap.IsListIter it a 0 := st3.at fun o e => by rw [← hs4]; exact pushCells_keeps _ _ _ _ (Heap.get?_push_of_some _ e)
  have stat : ∀ {σ' : L2.St} {H' : Hp} {s' : Shared}, Inv (X.blk s3 H3 scope ce [it]) [] σ' H' s' → H' it = none → ∀ b ∈ [it], FpOk (X.blk s3 H3 scope ce [it]) [] H' b := fun {σ' H' s'} I' hn b hb => by
    have hb' := hb
    rw [List.mem_singleton] at hb
    subst hb
    exact ⟨hn, (I'.ok.exf b hb').1, I'.ok.exfs b hb', .inl hb', fun x c e => (I'.ok.exf b hb').2 x c e, fun p hp => absurd (show p ∈ ([] : List (Addr × Obj)) ++ [] from hp) (by simp)⟩
  have hotIn : ∀ {σ' : L2.St} {H' : Hp} {s' : Shared}, Inv (X.blk s3 H3 scope ce [it]) [] σ' H' s' → HotAt X.A px.1 s'.heap := fun {σ' H' s'} I' => by
    have keep := I'.base.keep px.1 px.2 pin3.1 pin3.2.1
    refine ⟨hh, px.2, v1, keep (fun z => ?_) (fun z => xne (List.mem_singleton.mp z)), e1, c1⟩
    rcases List.mem_cons.mp (I3.stkSub px.1 z) with z | z
    · exact pin3.2.2.1 z
    · exact pin3.2.2.2.1 z
  have loop : codeAny (model X.prog X.w) X.A (.compLoop (.ListComp elt [⟨tg, iter, [], 0⟩] scope pos) 0 (.ref it) (.ref D) ce) (compPost (model X.prog X.w) X.A X.xe none (EP X pins σ Q) (.ref D) s3.heap.objs.size) s4 := by
    refine compLoop_any (fun n s' => ∃ i H', n = xs.length - i ∧ i ≤ xs.length ∧ Inv (X.blk s3 H3 scope ce [it]) [] (wipe σ (own.map (·.2))) H' s' ∧ s'.heap.IsListIter it a i ∧ H' it = none ∧ W i H') ?_ xs.length ⟨0, H3, rfl, Nat.zero_le _, I4, st4, (f3 it (by simp)).1.1, w0⟩
    rintro n s5 ⟨i, H5, rfl, hi5, I5, st5, n5, w5⟩
    have hq5 := wl i H5 w5
    obtain ⟨its5, rv5, p5, hz5⟩ := I5.list hq5
    obtain ⟨q0, q1, q2, q3, q4, q5⟩ := stat I5 n5 it (by simp)
    by_cases hlt : i < xs.length
    · obtain ⟨u, hu, ru⟩ := rv5.get (show xs[i]? = some xs[i] from List.getElem?_eq_getElem hlt)
      refine wpAny_pyNext_list_item st5 p5.isList (x := u) (by simpa using hu) fun h' st' sb => ?_
      have I6 : Inv (X.blk s3 H3 scope ce [it]) [] (wipe σ (own.map (·.2))) H5 { s5 with heap := h' } := I5.turned (t' := s5.toks) (fun b o hb e => (sb.2 b hb).trans e) q0 q1 q3 q4 q5
      obtain ⟨oi, ei, ci, di⟩ := id st'
      refine go_of (s := { s5 with heap := h' }) ei ci di (by decide) ?_
      have objs : ∀ b ∈ [it], ∃ o, h'.get? b = some o ∧ ∀ v, o.data ≠ .cell v := fun b hb => by
        rw [List.mem_singleton.mp hb]
        exact ⟨oi, ei, fun v z => by rw [di] at z; cases z⟩
      have I7 := I6.pinned (stat I6 n5) objs
      refine thnF (pg.run _ _ _ H5 xs[i] u _ I7 ru (turn i xs[i] H5 (List.getElem?_eq_getElem hlt) w5)) fun _ s8 ⟨σ8, H8, I8, hw8, q8⟩ => ?_
      refine wpAny_tests_nil ?_
      simp only [if_true]
      refine thnF (pe.run _ s8 σ8 H8 _ I8 q8) fun z s10 ⟨yv, H10, I10, r10, acc, hD10, hz10, nx⟩ => ?_
      refine app_ok (X := X.blk s3 H3 scope ce [it]) I10 hD10 hz10 r10 fun s11 I11 => ?_
      have pin' := I11.pin (it, oi) (List.mem_append_right _ (List.mem_append_right _ (mem_pinsAt (by simp) ei)))
      have hl : (wipe σ (own.map (·.2))).length = σ8.length := by rw [← hw8, wipe_length]
      refine ⟨xs.length - (i + 1), by omega, i + 1, _, rfl, hlt, (I11.unpinned (pins := [])).weak hl (fun j v e => ?_), st'.at fun o e => ?_, pin'.2.1, nx⟩
      · rw [← hw8] at e
        exact (wipe_some e).1
      · have : o = oi := by
          have z : h'.get? it = some oi := ei
          rw [z] at e; cases e; rfl
        rw [this]; exact pin'.1
    · have hl5 := rv5.length
      have e5 : i = xs.length := by omega
      refine next_end_hot (hotIn I5) xne st5 p5.isList (by simp; omega) fun h' eb => ?_
      have I6 : Inv (X.blk s3 H3 scope ce [it]) [] (wipe σ (own.map (·.2))) H5 { s5 with heap := h' } := I5.turned (t' := s5.toks) (fun b o hb e => eb b o hb e) q0 q1 q3 q4 q5
      have I7 : Inv X pins σ H5 { s5 with heap := h' } := I3.call' (ch := [it]) I6.os I6.base I6.hok I6.bare fun b hb => ⟨(f3 b hb).1.2.2.2.1, (f3 b hb).1.2.1, (f3 b hb).1.2.2.2.2.1, (f3 b hb).1.2.2.2.2.2⟩
      have nC : H5 s3.heap.objs.size = none := by
        have z : H5 ce.locals = none := I6.free
        rw [cL] at z
        exact z
      obtain ⟨m, hn, _⟩ := I6.loc
      have hn : Heap.Ns h' ce.locals m := hn
      rw [cL] at hn
      obtain ⟨g0, g1, g2, g3, g4, g5⟩ := I3.fpOk (H' := H5) (Nat.le_refl _) nC
      refine ⟨m, hn, fun h'' sb => ?_⟩
      exact ⟨.ref D, H5, I7.turned (t' := s5.toks) (fun b o hb e => (sb.2 b hb).trans e) g0 g1 g3 g4 g5, rfl, fin H5 (e5 ▸ w5)⟩
  exact codeAny_compStart_list loop (wpAny_pyIter_listiter st4 loop)
end Bm
end
section
set_option Elab.async false
set_option linter.all false
set_option maxRecDepth 100000
set_option maxHeartbeats 2000000
/-! A lambda handed to a def that tells the exception. -/
namespace Bm
open PySem PySem.Spec PyProof.Rows L2 HotX L2H LamX
section
variable {X : Cx} {pins : List (Addr × Obj)} {σ : L2.St} {H : Hp} {s : Shared}
/-- a lambda is made: tables stay tables, all else stays -/
theorem lam_new {T : List (Addr × Str)} {c P : Addr} {params : Arguments} {body : Expr} {scope : Scope} {pos : Pos} {E : Value → Shared → Prop} {Q : Value → Shared → Prop} (I : Inv X pins σ H s) (TB : TabB X.base X.mg c P) (hcode : X.env.code = .ref c)
    (hm : (P, X.env.qual ++ "<lambda>") ∈ T) (hu : ∀ p ∈ T, p.1 = P → p.2 = X.env.qual ++ "<lambda>") (hT : Tabs T H) (hdef : defaultsOf params X.env = ([], [])) (hfree : ∀ y ∈ scope.names, y.2 = .free → ∃ c, X.env.cells.lookup y.1 = some c)
    (h : ∀ (f c' : Addr) (pm ctv : Value) (H1 : Hp) (s' : Shared), Inv X pins σ H1 s' → (∀ b o, b ≠ P → H b = some o → H1 b = some o) → Tabs T H1 →
      s'.heap.get? f = some (PySem.W.kla_obj "<lambda>" (X.env.qual ++ "<lambda>") params body scope (cloFrom X.env.cells scope.names []) pm c' ctv) → H1 f = none → f ∉ frs X.stack → H1 c' = some (CodeO c' (X.env.qual ++ "<lambda>")) → Q (.ref f) s') :
    wpAny (model X.prog X.w) X.A (eval (.Lambda params body scope pos) X.env) Q E s := by
  obtain ⟨ps, hP, ht, ha⟩ := hT _ hm
  have bP : s.heap.BuiltinsAt X.mg P := TB.bm.keeps I.bk
  have gP : s.heap.get? P = some { cls := .none, data := .fields ps } := I.hok P _ hP
  have nofr : ∀ f, s.heap.objs.size ≤ f → f ∉ frs X.stack := fun f hf z => (List.mem_cons.mp (I.stkSub _ z)).elim (fun e => Nat.lt_irrefl _ (Nat.lt_of_lt_of_le (e ▸ I.lt) hf)) fun e => I.nofs hf e
  refine PySem.W.kla_eval hdef ?_
  cases hc : codeAmong pos ps.toList with
  | some cv =>
    obtain ⟨c', e, hco⟩ := ha pos cv hc
    subst e
    refine PySem.W.kla_makeFunctionHit (mg := X.mg) (c := c) (P := P) (ps := ps) (closure_ok hfree) I.ok.glob (I.mod.glob.keeps I.bk) hcode (TB.code.keeps I.bk) gP ht hc bP fun ctv h' tk hx hsz => ?_
    exact h h'.objs.size c' ((X.mg "__name__").getD .none) ctv H _ (I.kept fun b o e => Heap.get?_push_of_some _ (hx b o e)) (fun b o _ e => e) hT (Heap.get?_push_size _ rfl) (I.hok.fresh hsz) (nofr _ hsz) hco
  | none =>
    refine PySem.W.kla_makeFunction (mg := X.mg) (c := c) (P := P) (ps := ps) (closure_ok hfree) I.ok.glob (I.mod.glob.keeps I.bk) hcode (TB.code.keeps I.bk) gP ht hc TB.gP bP fun c' ctv h' tk hx hge hlt hrec htb => ?_
    obtain ⟨c2, oc, vs, t, e2, hoc, hd, hv⟩ := hrec
    cases e2
    have hsz : s.heap.objs.size ≤ h'.objs.size := Nat.le_trans hge (Nat.le_of_lt hlt)
    have nC : H c' = none := I.hok.fresh hge
    have nPc : P ≠ c' := ne_of_none hP nC
    have I1 := inv_table (t' := tk) (more := #[rawInt pos.line, rawInt pos.col, .ref c']) (h' := h'.push (PySem.W.kla_obj "<lambda>" (X.env.qual ++ "<lambda>") params body scope (cloFrom X.env.cells scope.names []) ((X.mg "__name__").getD .none) c' ctv)) I hP
      (fun b o hb e => Heap.get?_push_of_some _ (hx b o hb e)) (Heap.get?_push_of_some _ htb) hge ⟨oc, vs, t, Heap.get?_push_of_some _ hoc, hd, hv⟩
    generalize eH : upd (upd H P (.tbl (ps ++ #[rawInt pos.line, rawInt pos.col, .ref c']))) c' (CodeO c' (X.env.qual ++ "<lambda>")) = H1 at I1
    have at1 : ∀ b, b ≠ P → b ≠ c' → H1 b = H b := fun b h1 h2 => by rw [← eH, upd_ne h2, upd_ne h1]
    have atP : H1 P = some (.tbl (ps ++ #[rawInt pos.line, rawInt pos.col, .ref c'])) := by rw [← eH, upd_ne nPc, upd_same]
    have atC : H1 c' = some (CodeO c' (X.env.qual ++ "<lambda>")) := by rw [← eH, upd_same]
    have ko : ∀ b o, b ≠ P → H b = some o → H1 b = some o := fun b o hb e => (at1 b hb (ne_of_none e nC)).trans e
    have kc : ∀ c0 q, H c0 = some (CodeO c0 q) → H1 c0 = some (CodeO c0 q) := fun c0 q e => ko _ _ (fun z => by rw [z, hP] at e; exact codeO_ne _ (Option.some.inj e).symm) e
    have eL : (ps ++ #[rawInt pos.line, rawInt pos.col, .ref c']).toList = ps.toList ++ [rawInt pos.line, rawInt pos.col, .ref c'] := by simp
    refine h h'.objs.size c' ((X.mg "__name__").getD .none) ctv H1 _ I1 ko (fun p hp => ?_) (Heap.get?_push_size _ rfl) ?_ (nofr _ hsz) atC
    · by_cases hb : p.1 = P
      · rw [hu p hp hb, hb]
        refine ⟨_, atP, by rw [eL]; exact PySem.TriplesOk_snoc _ _ _ _ ht, fun p' cv hcv => ?_⟩
        rw [eL] at hcv
        rcases among_app _ ht hcv with z | z
        · obtain ⟨c0, e1, e2⟩ := ha p' cv z
          exact ⟨c0, e1, kc _ _ e2⟩
        · exact ⟨c', z, atC⟩
      · obtain ⟨ps', a1, a2, a3⟩ := hT p hp
        refine ⟨ps', (at1 _ hb (ne_of_none a1 nC)).trans a1, a2, fun p' cv hcv => ?_⟩
        obtain ⟨c0, e1, e2⟩ := a3 p' cv hcv
        exact ⟨c0, e1, kc _ _ e2⟩
    · have n2 : h'.objs.size ≠ P := Nat.ne_of_gt (Nat.lt_of_lt_of_le (Heap.lt_size gP) hsz)
      rw [at1 _ n2 (Nat.ne_of_gt hlt)]
      exact I.hok.fresh hsz
/-- the body's context, for exceptions whose context is None -/
def lamN (X : Cx) (A : Around) (outer : List PySem.Env) (s : Shared) (H : Hp) (E : XK) (scope : Scope) (f c' : Addr) : Cx :=
  (lamCx X A outer s H E scope f c').wish fun e s' => wpAny (model X.prog X.w) (A.deeper (lamEnv X scope s.heap.objs.size f c')) (leaving (lamEnv X scope s.heap.objs.size f c') e) (fun _ s'' => L2N.CX X.prog X.w outer H s E e s'') (fun e' s'' => L2N.CX X.prog X.w outer H s E e' s'') s'
/-- the lambda is called in the def that got it -/
theorem act_n {CXg : CXT} {Eg : XK} {Ng : List Str} {qg : Str} {sg : Scope} {g f c' : Addr} {cdg pm ctv : Value} {params : Arguments} {body : Expr} {scope : Scope} {k i : Nat} {a : Str} {pn : List (Addr × Obj)} {xe : Value → Shared → Prop} {W : WX} {E : XK} {tb : TE} {p1 p2 : Pos}
    (I : Inv X pins σ H s) (L : LamS X.env.scope scope) (hf : s.heap.get? f = some (PySem.W.kla_obj "<lambda>" (X.env.qual ++ "<lambda>") params body scope (cloFrom X.env.cells scope.names []) pm c' ctv)) (hfn : H f = none) (hfr : f ∉ frs X.stack)
    (hbind : bindArgs (PySem.W.kla_fn "<lambda>" (X.env.qual ++ "<lambda>") params body scope (cloFrom X.env.cells scope.names []) pm (.ref c') ctv) ⟨[], []⟩ = pure [])
    (tk : L2N.Takes ((cxOf CXg X.prog X.w X.K X.mg X.base Ng qg sg g cdg X.A X.stack s H Eg).tr pn xe) W) (hW : ∀ cls d σ' H', E cls d H' → W cls d σ' H') (hr : Room (k + 1) (X.A.deeper (envOfC qg sg s.heap.objs.size g cdg)))
    (hbody : ∀ (A : Around) (outer : List PySem.Env) (s : Shared) (H : Hp), Room k (A.deeper (lamEnv X scope s.heap.objs.size f c')) → PE (lamN X A outer s H E scope f c') body tb)
    (hN : Ng[i]? = some a) (hv : Vis sg a) (hd : (a == ("__debug__" : Str)) = false := by decide) (hcd : (a == ("__classdict__" : Str)) = false := by decide) :
    PE ((cxOf CXg X.prog X.w X.K X.mg X.base Ng qg sg g cdg X.A X.stack s H Eg).tr pn xe) (.Call (.Name a p1) [] [] p2)
      (fun σZ HZ Q => σZ[i]? = some (some (.ref f)) ∧ HZ c' = some (CodeO c' (X.env.qual ++ "<lambda>")) ∧ tb σ HZ Q) := by
  refine ⟨fun pinsZ sZ σZ HZ Q IZ ⟨hs, hc, ht⟩ => ?_⟩
  refine wpAny_Call_Name_kw (thn ((pe_var (pos := p1) (i := i) hN hv hd hcd).run pinsZ sZ σZ HZ (fun v H1 => v = .ref f ∧ H1 = HZ) IZ ⟨.ref f, hs, rfl, rfl⟩) fun u s1 ⟨v, H1, I1, r1, ev, eH⟩ => ?_)
  subst ev eH
  obtain rfl : u = Value.ref f := r1
  have of1 := I1.base.keep f _ hf hfn hfr (fun z => nomatch (show f ∈ ([] : List Addr) from z))
  refine PySem.W.callWith_F0 ⟨_, _, _, _, of1⟩ ?_
  have un : Un (frs X.stack) [] H H1 s.heap s1.heap := I1.base
  obtain ⟨⟨oc, vs, t, hoc, hdc, hvc⟩, _, _⟩ := I1.hok c' _ hc
  have rc : codeAny (model X.prog X.w) (X.A.deeper (envOfC qg sg s.heap.objs.size g cdg)) (.call (.ref f) ⟨[], []⟩) (CR (L2N.CX X.prog X.w) (envOfC qg sg s.heap.objs.size g cdg :: X.stack) X.prog X.w H1 s1 Q E) s1 := by
    refine PySem.W.kla_callFunE hr.depth of1 rfl L.co L.gen rfl ⟨c', oc, vs, t, rfl, hoc, hdc, hvc⟩ ?_
    rw [hbind]
    refine wpAny_pure (wpAny_newFunctionEnv (fun y hy => (L.own y hy).2) (fun y hy => absurd hy (by simp)) (fun h₁ hns hsb => ⟨I1.nolimit.fresh _ hsb, ?_⟩) L.kind)
    show codeAny _ _ (.expr body (lamEnv X scope s1.heap.objs.size f c')) _ _
    have J := (lam_start2 (E := E) (f := f) (c' := c') (tk := s1.toks + ([] : List (Str × Value)).length) I L I1.env0 hr.hd un hns fun b o e => hsb.extBut b o (Nat.ne_of_lt (Heap.lt_size e)) (Heap.get?_push_of_some _ e)).wish fun e s' => wpAny (model X.prog X.w) ((X.A.deeper (envOfC qg sg s.heap.objs.size g cdg)).deeper (lamEnv X scope s1.heap.objs.size f c')) (leaving (lamEnv X scope s1.heap.objs.size f c') e) (fun _ s'' => L2N.CX X.prog X.w (envOfC qg sg s.heap.objs.size g cdg :: X.stack) H1 s1 E e s'') (fun e' s'' => L2N.CX X.prog X.w (envOfC qg sg s.heap.objs.size g cdg :: X.stack) H1 s1 E e' s'') s'
    refine PySem.W.kla_codeExpr (wpAny_mono ((hbody _ _ s1 H1 (hr.deeper _)).run [] _ _ H1 Q J ht) (fun v s' hq => ?_) fun e s' hq => hq)
    obtain ⟨w', H', J', rv, q⟩ := hq
    exact ⟨w', H', J'.os, J'.bare, J'.base, J'.hok, rv, q⟩
  refine wpAny_call (codeAny_mono rc fun r s' hq => ?_)
  cases r with
  | error e => exact L2N.passes_call tk hW pinsZ σZ H1 s1 e s' I1 hq
  | ok fl =>
    cases fl with
    | ret u => exact I1.after hq
    | next => exact False.elim hq
    | brk => exact False.elim hq
    | cont => exact False.elim hq
end
end Bm
end
section
set_option Elab.async false
set_option linter.all false
set_option maxRecDepth 100000
set_option maxHeartbeats 4000000
/-! The def that tells the one class of an exception, called while that exception is handled. -/
namespace Bm
open PySem PySem.Spec PyProof.Rows L2 HotX L2H LamX
/-- isinstance of the pinned exception -/
def rIsX (K : PySem.W.Frag) (C a : Addr) : List V → Hp → VK → Prop := fun xs H Q => ∃ (c : V) (cv : Value) (b : Bool), xs = [.ref a, c] ∧ (∀ u, RelV c u → u = cv) ∧ PySem.W.kitOne K (.ref C) cv = some b ∧ Q (.bl b) H
theorem cr_isX {X : Cx} {a C : Addr} {oe : Obj} (hC : ExcC X.K C) (hz : Zc (.ref C) none oe) (hf : ∃ vs, oe.data = .fields vs) (hp : (a, oe) ∈ X.pn) : CallR X (.builtin "isinstance") (rIsX X.K C a) := by
  intro pins s σ H xs us Q I r h
  obtain ⟨c, cv, b, rfl, hcv, e, q⟩ := h
  match us, r with
  | [u1, u2], .cons rx (.cons rt .nil) =>
    obtain rfl : u1 = .ref a := rx
    obtain rfl := hcv _ rt
    have hget := (I.pin (a, oe) (List.mem_append_left _ hp)).1
    obtain ⟨vs, hv⟩ := hf
    have J : PySem.W.InstAt s.heap a oe C none := by
      obtain ⟨oc, od, oda, osl⟩ := oe
      obtain ⟨h1, h2⟩ := hz
      dsimp only at h1 h2 hv
      subst h1 h2 hv
      exact ⟨hget, rfl, rfl, trivial⟩
    exact PySem.W.kia_one (PySem.W.handS_kitx_exc hC.hg hC.hk hC.hs hC.hd hC.ha hC.hn hC.ht hC.hm) I.kIn J e (fun z => nomatch z) fun tk => ⟨.bl b, H, I.kept (t' := tk) fun _ _ z => z, rfl, q⟩
/-- a def called there -/
theorem call_hot {CX : CXT} {P : Program} {w : World} {K : PySem.W.Frag} {mg : Str → Option Value} {base : Heap} {k : Nat} {x qual : Str} {st : Stmt} {f : Addr} {fd : FuncData} {N ps : List Str} (F : Fun K x qual st f fd) (S : FnScope N ps (defScope st))
    {A : Around} {outer : List PySem.Env} {s : Shared} {H : Hp} {args : Args} {us : List Value} {vs : List V} {Q : VK} {E : XK} {p : Addr × Obj} (hr : RoomH (k + 1) A) (hpin : PinOk outer H s p) (e0 : Env0 P w K mg base A outer s H) (hb : BindsTo s fd args (ps.zip us)) (r : Vals vs us) (hl : vs.length = ps.length)
    (hbody : ∀ cdv, RoomH k (A.deeper (envOfC qual (defScope st) s.heap.objs.size f cdv)) → ∃ t, PSs (cxH CX P w K mg base N qual (defScope st) f cdv A outer s H E p) (defBody st) t ∧ t { nx := fun _ H' => Q .non H', rt := Q } (L2.start N vs) H) :
    codeAny (model P w) A (.call (.ref f) args) (CR CX outer P w H s Q E) s := by
  obtain ⟨oc, od, kV, doc, pm, an, cdv, ct, osl, rfl, lk, hcd⟩ := F.ex
  have KX : K.In s.heap := e0.mod.kin.keeps fun b o e => (e0.bs b o e).1
  have lim : s.heap.NoLimit := e0.mod.nolimit.keeps fun b o e => (e0.bs b o e).1
  have hkind : ∀ y ∈ ps.zip us, (defScope st).names.lookup y.1 = some .local ∨ ((defScope st).names.lookup y.1 = some .cell ∧ ((cellsFrom (s.heap.objs.size + 1) (defScope st).names []).lookup y.1).isSome = true) := fun y hy =>
    (S.par y.1 (List.of_mem_zip hy).1).imp id fun q => ⟨q, PySem.W.cellsFrom_some _ _ _ (.inl q)⟩
  refine codeAny_call_function hr.depth (KX _ _ lk) rfl S.co S.gen rfl (PySem.W.codeRec_of KX hcd) (hb _ _ _ _ ?_)
  refine wpAny_newFunctionEnv_cells S.kind hkind fun env he s1 x => ?_
  subst he
  refine ⟨lim.keeps x.toInCall.keep, codeAny_func ?_⟩
  obtain ⟨t, ht, hq⟩ := hbody cdv (hr.deeper _)
  have I : Inv (cxH CX P w K mg base N qual (defScope st) f cdv A outer s H E p) [] (L2.start N vs) H s1 := inv_startH S hpin e0 hl r x
  refine wpAny_mono (ht.run [] s1 (L2.start N vs) H _ I hq) (fun fl s' hs => ?_) fun e s' hs => hs
  cases fl with
  | ret u =>
    obtain ⟨v, σ', H', J, rv, q⟩ := hs
    exact ⟨v, H', J.os, J.bare, J.base, J.hok, rv, q⟩
  | next =>
    obtain ⟨σ', H', J, q⟩ := hs
    exact ⟨.non, H', J.os, J.bare, J.base, J.hok, rfl, q⟩
  | brk => exact hs.elim fun _ ⟨_, _, q⟩ => False.elim q
  | cont => exact hs.elim fun _ ⟨_, _, q⟩ => False.elim q
def exNames : List String := ["InvalidMap", "InvalidBorder", "InvalidPoint", "InvalidPlace", "InvalidLand", "InvalidCount", "InvalidText", "Bridge", "Loop", "LastBorder", "TooLarge", "OtherLand", "NothingToUndo"]
/-- what the text's top says of the classes -/
structure ExcTop (K : PySem.W.Frag) (mg : Str → Option Value) (ca : Nat → Addr) (M : Addr) : Prop where
  g : ∀ j, j < 13 → mg (Str.ofString (exNames.getD j "")) = some (.ref (ca j))
  kit : ∀ j k, j < 13 → k < 13 → PySem.W.kitOne K (.ref (ca k)) (.ref (ca j)) = some (decide (j = k))
  kitV : ∀ k, k < 13 → PySem.W.kitOne K (.ref (ca k)) (.type "ValueError") = some true
  ec : ∀ k, k < 13 → ExcC K (ca k)
  gM : mg "MapError" = some (.ref M)
  exm : ∀ k, k < 13 → PySem.W.exmOne K (.ref (ca k)) (.ref M) = some true
  b1 : mg "isinstance" = none
  b2 : mg "sum" = none
  b3 : mg "int" = none
  b4 : mg "ValueError" = none
theorem boot_VE : bootBuiltins "ValueError" = some (.type "ValueError") := by decide +kernel
def flagAt (k j : Nat) : V := .bl (decide (j = k))
abbrev tIs (K : PySem.W.Frag) (C a : Addr) (c : V) : TE := tCB (rIsX K C a) (tCons (tVar 0) (tCons (tC c) tNil))
theorem is_go {K : PySem.W.Frag} {C a : Addr} {c : V} {cv : Value} {b : Bool} {σ : L2.St} {H : Hp} {Q : VK} (h0 : σ[0]? = some (some (.ref a))) (hc : ∀ u, RelV c u → u = cv) (e : PySem.W.kitOne K (.ref C) cv = some b) (q : Q (.bl b) H) : tIs K C a c σ H Q :=
  ⟨.ref a, h0, c, cv, b, rfl, hc, e, q⟩
theorem ref_only {C : Addr} : ∀ u, RelV (.ref C) u → u = Value.ref C := fun _ h => h
theorem ty_only {n : String} : ∀ u, RelV (.ty n) u → u = Value.type n := fun _ h => h
abbrev tFlags (K : PySem.W.Frag) (C a : Addr) (cs : List V) : TA := cs.foldr (fun c t => tCons (tIs K C a c) t) tNil
theorem flags_go {K : PySem.W.Frag} {C a : Addr} {k : Nat} {σ : L2.St} {H : Hp} {Q : List V → Hp → Prop} (h0 : σ[0]? = some (some (.ref a))) {ca : Nat → Addr} (hk : ∀ j, j < 13 → PySem.W.kitOne K (.ref C) (.ref (ca j)) = some (decide (j = k))) :
    ∀ (js : List Nat), (∀ j ∈ js, j < 13) → Q (js.map (flagAt k)) H → tFlags K C a (js.map fun j => .ref (ca j)) σ H Q
  | [], _, q => q
  | j :: js, hj, q => is_go h0 ref_only (hk j (hj j List.mem_cons_self)) (flags_go (Q := fun vs H => Q (flagAt k j :: vs) H) h0 hk js (fun i hi => hj i (List.mem_cons_of_mem _ hi)) q)
abbrev tStrs (zs : List Str) : TA := zs.foldr (fun z t => tCons (tC (.str z)) t) tNil
theorem strs_go {σ : L2.St} {H : Hp} : ∀ {zs : List Str} {Q : List V → Hp → Prop}, Q (zs.map .str) H → tStrs zs σ H Q
  | [], _, q => q
  | z :: zs, Q, q => strs_go (zs := zs) (Q := fun vs H => Q (.str z :: vs) H) q
theorem keepU {H : Hp} {b p : Addr} {o o' : HO} (h : H b = some o) (n : H p = none) : upd H p o' b = some o := by rw [upd_ne (ne_of_none h n)]; exact h
/-- what it reads to -/
def tTerm (K : PySem.W.Frag) (C a : Addr) (ca : Nat → Addr) : TS :=
  tSeq (tAsg (tLst (tFlags K C a ([0, 1, 2].map fun j => .ref (ca j)))) (gName 1))
  (tSeq (tAsg (tOp (rAddA K) (tVar 1) (tLst (tFlags K C a ([3, 4, 5].map fun j => .ref (ca j))))) (gName 1))
  (tSeq (tAsg (tOp (rAddA K) (tVar 1) (tLst (tFlags K C a ([6, 7, 8].map fun j => .ref (ca j))))) (gName 1))
  (tSeq (tAsg (tOp (rAddA K) (tVar 1) (tLst (tFlags K C a ([9, 10, 11].map fun j => .ref (ca j))))) (gName 1))
  (tSeq (tAsg (tOp (rAddA K) (tVar 1) (tLst (tFlags K C a ([12].map fun j => .ref (ca j))))) (gName 1))
  (tSeq (tAsg (tLst (tStrs ((exNames.take 6).map Str.ofString))) (gName 2))
  (tSeq (tAsg (tOp (rAddA K) (tVar 2) (tLst (tStrs ((exNames.drop 6).map Str.ofString)))) (gName 2))
  (tSeq (tIfS (tOr (tTest (tOp (rD2 K gEq fun d e => !PyData.eqv d e) (tCB (rSum K) (tCons (tLcH K (tVar 1) (gName 3) (tCB (fun xs H Q => (∃ i, xs = [.int i] ∧ Q (.int i) H) ∨ ∃ k, xs = [.bl k] ∧ Q (.int (if k then 1 else 0)) H) (tCons (tVar 3) tNil)) [3]) tNil)) (tC (.int 1)))) (tNot (tB (tIs K C a (.ty "ValueError")))))
      (tRet (tTup (tCons (tC (.str "error")) (tCons (tC (.str "other")) tNil)))) tNext)
    (tRet (tTup (tCons (tC (.str "error")) (tCons (tOp (rIx K) (tVar 2) (tBM K "list" (rIndex K) (tVar 1) (tCons (tC (.bl true)) tNil))) tNil)))))))))))
theorem asg_go {te : TE} {u : TS} {D : Ends} {σ : L2.St} {H : Hp} {i : Nat} (h : te σ H fun x H1 => u D (σ.set i (some x)) H1) : tSeq (tAsg te (gName i)) u D σ H := h
theorem lst_go {ta : TA} {σ : L2.St} {H : Hp} {Q : VK} (h : ta σ H fun xs H1 => xs.length ≤ sizeLine ∧ ∀ p, H1 p = none → Q (.ref p) (upd H1 p (.lst xs))) : tLst ta σ H Q := h
theorem op_goR {r : R2} {ta tb : TE} {σ : L2.St} {H : Hp} {Q : VK} (h : ta σ H fun x H1 => tb σ H1 fun y H2 => r x y H2 Q) : tOp r ta tb σ H Q := h
def allFlags (k : Nat) : List V := (List.range 13).map (flagAt k)
theorem af1 : ∀ k, k < 13 → (allFlags k).all flatV = true := by decide +kernel
theorem af2 : ∀ k, k < 13 → (allFlags k)[k]? = some (flagAt k k) := by decide +kernel
theorem af3 : ∀ k, k < 13 → atI ((exNames.map Str.ofString).map V.str) ((k : Nat) : Int) = some (.str (excName k)) := by decide +kernel
def oneAt (k : Nat) : List Int := (List.range 13).map fun j => if decide (j = k) = true then 1 else 0
theorem oneAt_sum : ∀ k, k < 13 → (oneAt k).sum = 1 := by decide +kernel
theorem term_run {K : PySem.W.Frag} {C a : Addr} {ca : Nat → Addr} {k : Nat} (hk : k < 13) (kit : ∀ j, j < 13 → PySem.W.kitOne K (.ref C) (.ref (ca j)) = some (decide (j = k))) (kitV : PySem.W.kitOne K (.ref C) (.type "ValueError") = some true) {H : Hp} {Q : VK}
    (q : ∀ p H', Same H H' → H p = none → H' p = some (.tup [.str "error", .str (excName k)]) → Q (.ref p) H') : tTerm K C a ca { nx := fun _ H' => Q .non H', rt := Q } (L2.start ["e", "flags", "kinds", "flag"] [.ref a]) H := by
  show tTerm K C a ca _ [some (.ref a), none, none, none] H
  have small : ∀ n : Nat, n ≤ 100 → n ≤ sizeLine := fun n h => Nat.le_trans h (by decide)
  unfold tTerm
  refine asg_go (lst_go (flags_go rfl kit [0, 1, 2] (by decide) ⟨small _ (by simp), fun p1 n1 => ?_⟩))
  have s1 : Same H (upd H p1 (.lst ([0, 1, 2].map (flagAt k)))) := same_upd n1
  have e1 : upd H p1 (.lst ([0, 1, 2].map (flagAt k))) p1 = some (.lst ([0, 1, 2].map (flagAt k))) := upd_same
  generalize upd H p1 (.lst ([0, 1, 2].map (flagAt k))) = H1 at s1 e1 ⊢
  have add : ∀ {K : PySem.W.Frag} {H1 : Hp} {i : Nat} {σ : L2.St} {xs : List V} {p1 : Addr} {js : List Nat} {Q : VK}, σ[0]? = some (some (.ref a)) → σ[i]? = some (some (.ref p1)) → H1 p1 = some (.lst xs) → xs.length ≤ 20 → js.length ≤ 20 → (∀ j ∈ js, j < 13) → (∀ j, j < 13 → PySem.W.kitOne K (.ref C) (.ref (ca j)) = some (decide (j = k))) →
      (∀ p H2, Same H1 H2 → H2 p = some (.lst (xs ++ js.map (flagAt k))) → Q (.ref p) H2) → tOp (rAddA K) (tVar i) (tLst (tFlags K C a (js.map fun j => .ref (ca j)))) σ H1 Q := fun {K H1 i σ xs p1 js Q} h0 hi e lx lj hj kit q => by
    refine ⟨.ref p1, hi, lst_go (flags_go h0 kit js hj ⟨small _ (by rw [List.length_map]; omega), fun p2 n2 => .inr (.inr (.inl ⟨p1, p2, _, _, rfl, rfl, keepU e n2, upd_same, small _ (by rw [List.length_map]; omega), fun p3 n3 => ?_⟩))⟩)⟩
    exact q p3 _ (fun b o h => keepU (keepU h n2) n3) upd_same
  refine asg_go (add rfl rfl e1 (by simp) (by decide) (by decide) kit fun p2 H2 s2 e2 => ?_)
  refine asg_go (add rfl rfl e2 (by simp) (by decide) (by decide) kit fun p3 H3 s3 e3 => ?_)
  refine asg_go (add rfl rfl e3 (by simp) (by decide) (by decide) kit fun p4 H4 s4 e4 => ?_)
  refine asg_go (add rfl rfl e4 (by simp) (by decide) (by decide) kit fun p5 H5 s5 e5 => ?_)
  have ef : [0, 1, 2].map (flagAt k) ++ [3, 4, 5].map (flagAt k) ++ [6, 7, 8].map (flagAt k) ++ [9, 10, 11].map (flagAt k) ++ [12].map (flagAt k) = allFlags k := rfl
  rw [ef] at e5
  refine asg_go (lst_go (strs_go ⟨small _ (by decide), fun p6 n6 => asg_go (op_goR ⟨.ref p6, rfl, lst_go (strs_go ⟨small _ (by decide), fun p7 n7 => .inr (.inr (.inl ⟨p6, p7, _, _, rfl, rfl, keepU upd_same n7, upd_same, small _ (by decide), fun p8 n8 => ?_⟩))⟩)⟩)⟩))
  have s6 : Same H5 (upd (upd (upd H5 p6 (.lst (((exNames.take 6).map Str.ofString).map V.str))) p7 (.lst (((exNames.drop 6).map Str.ofString).map V.str))) p8 (.lst (((exNames.take 6).map Str.ofString).map V.str ++ ((exNames.drop 6).map Str.ofString).map V.str))) := fun b o h => keepU (keepU (keepU h n6) n7) n8
  have e8 : upd (upd (upd H5 p6 (.lst (((exNames.take 6).map Str.ofString).map V.str))) p7 (.lst (((exNames.drop 6).map Str.ofString).map V.str))) p8 (.lst (((exNames.take 6).map Str.ofString).map V.str ++ ((exNames.drop 6).map Str.ofString).map V.str)) p8 = some (.lst ((exNames.map Str.ofString).map V.str)) := upd_same
  generalize upd (upd (upd H5 p6 (.lst (((exNames.take 6).map Str.ofString).map V.str))) p7 (.lst (((exNames.drop 6).map Str.ofString).map V.str))) p8 (.lst (((exNames.take 6).map Str.ofString).map V.str ++ ((exNames.drop 6).map Str.ofString).map V.str)) = H6 at s6 e8 ⊢
  have e5' : H6 p5 = some (.lst (allFlags k)) := s6 _ _ e5
  have sAll : Same H H6 := fun b o h => s6 _ _ (s5 _ _ (s4 _ _ (s3 _ _ (s2 _ _ (s1 _ _ h)))))
  have tailR : ∀ H7, Same H6 H7 → tRet (tTup (tCons (tC (.str "error")) (tCons (tOp (rIx K) (tVar 2) (tBM K "list" (rIndex K) (tVar 1) (tCons (tC (.bl true)) tNil))) tNil))) { nx := fun _ H' => Q .non H', rt := Q } [some (.ref a), some (.ref p5), some (.ref p8), none] H7 := fun H7 s7 => by
    refine ⟨.ref p8, rfl, .ref p5, rfl, Or.inl ⟨rfl, _, Or.inl (Or.inl (s7 _ _ e5'))⟩, p5, allFlags k, .bl true, k, flagAt k k, rfl, rfl, SqL.of (s7 _ _ e5'), rfl, ?_, ?_, ?_, fun m z hm hz => ?_, ?_⟩
    · exact af1 k hk
    · exact af2 k hk
    · simp [flagAt, eqV]
    · unfold allFlags at hz
      rw [List.getElem?_map] at hz
      have hm13 : m < 13 := by omega
      rw [List.getElem?_range hm13] at hz
      cases hz
      simp only [flagAt, eqV]
      have : decide (m = k) = false := decide_eq_false (by omega)
      rw [this]; rfl
    · refine Or.inl ⟨p8, _, _, .str (excName k), rfl, rfl, SqL.of (s7 _ _ e8), ?_, small _ (by simp), fun p9 n9 => ?_⟩
      · exact af3 k hk
      · refine q p9 _ (fun b o h => keepU (s7 _ _ (sAll _ _ h)) n9) ?_ upd_same
        cases e : H p9 with
        | none => rfl
        | some o =>
          have := s7 _ _ (sAll _ _ e)
          rw [n9] at this; cases this
  refine ⟨.ref p5, rfl, p5, allFlags k, rfl, SqL.of e5', fun Dn nD => ?_⟩
  refine ⟨fun i H7 => Same H6 H7 ∧ H7 Dn = some (.lst (((oneAt k).take i).map V.int)), ⟨same_upd nD, upd_same⟩, fun i H7 h7 => SqL.of (h7.1 _ _ e5'), fun i x H7 hx h7 => ?_, fun H7 h7 => ?_⟩
  · unfold allFlags at hx
    rw [List.getElem?_map] at hx
    have hi : i < 13 := by
      rcases Nat.lt_or_ge i 13 with h | h
      · exact h
      · rw [List.getElem?_eq_none (by simpa using h)] at hx; cases hx
    rw [List.getElem?_range hi] at hx
    cases hx
    refine ⟨rfl, flagAt k i, rfl, .inr ⟨decide (i = k), rfl, _, h7.2, ?_, ?_⟩⟩
    · rw [List.length_map, List.length_take]
      exact Nat.lt_of_le_of_lt (Nat.min_le_left _ _) (Nat.lt_of_lt_of_le hi (by decide))
    · have nD6 : ∀ b o, H6 b = some o → b ≠ Dn := fun b o h z => by rw [z, nD] at h; cases h
      refine ⟨fun b o h => by rw [upd_ne (nD6 b o h)]; exact h7.1 _ _ h, ?_⟩
      rw [upd_same]
      have hlen : (oneAt k).length = 13 := by simp [oneAt]
      have : (oneAt k).take (i + 1) = (oneAt k).take i ++ [if decide (i = k) = true then 1 else 0] := by
        rw [List.take_add_one]
        congr 1
        unfold oneAt
        rw [List.getElem?_map, List.getElem?_range hi]
        rfl
      rw [this, List.map_append]
      rfl
  · have hl13 : (allFlags k).length = 13 := by simp [allFlags]
    rw [hl13] at h7
    have htake : (oneAt k).take 13 = oneAt k := List.take_of_length_le (by simp [oneAt])
    rw [htake] at h7
    refine ⟨Dn, oneAt k, rfl, SqL.of h7.2, fun _ => none, .int (oneAt k).sum, .int 1, fun b o h => (by cases h), Dp.int _, Dp.int _, ⟨rfl, rfl, by simp [PyData.depth]⟩, _, rfl, ?_⟩
    rw [oneAt_sum k hk]
    have ev : (fun d e => !PyData.eqv d e) (.int 1) (.int 1) = false := by decide +kernel
    rw [ev]
    refine is_go (Q := fun x H1 => ∃ c, x = .bl c ∧ _) rfl ty_only kitV ⟨true, rfl, ?_⟩
    exact tailR H7 h7.1
end Bm
end
section
set_option Elab.async false
set_option linter.all false
set_option maxRecDepth 100000
set_option maxHeartbeats 4000000
namespace Bm
open PySem PySem.Spec PyProof.Rows L2 HotX L2H LamX
/-- the def that tells the class, as it stands -/
structure TermAt (P : Program) (w : World) (K : PySem.W.Frag) (mg : Str → Option Value) (base : Heap) (ca : Nat → Addr) : Prop where
  ex : ∃ (f : Addr) (fd : FuncData) (st : Stmt), mg "_law_term" = some (.ref f) ∧ Fun K "_law_term" "_law_term" st f fd ∧ L2.Binds K fd ["e"] [] ∧ FnScope ["e", "flags", "kinds", "flag"] ["e"] (defScope st) ∧
    ∀ (cdv : Value) (A : Around) (outer : List PySem.Env) (s : Shared) (H : Hp) (p : Addr × Obj) (k : Nat), k < 13 → Hot1 A p → Zc (.ref (ca k)) none p.2 → (∃ vs, p.2.data = .fields vs) → RoomH 0 (A.deeper (envOfC "_law_term" (defScope st) s.heap.objs.size f cdv)) →
      PSs (cxH C8.CX0 P w K mg base ["e", "flags", "kinds", "flag"] "_law_term" (defScope st) f cdv A outer s H C8.E0 p) (defBody st) (tTerm K (ca k) p.1 ca)
/-- what is wanted of an exception that the lambda lets out -/
def Etold (ca : Nat → Addr) (Q : VK) : XK := fun cls d H' => d = none ∧ ∃ k, k < 13 ∧ cls = .ref (ca k) ∧ ∀ p H'', Same H' H'' → H' p = none → H'' p = some (.tup [.str "error", .str (excName k)]) → Q (.ref p) H''
theorem pe_term {X : Cx} {a : Addr} {oe : Obj} {pn : List (Addr × Obj)} {cls : Value} {d : Option Addr} {ca : Nat → Addr} {M : Addr} {i : Nat} {p1 p2 pos : Pos} (T : TermAt X.prog X.w X.K X.mg X.base ca) (Z : ExcTop X.K X.mg ca M) (hz : L2N.Zn cls d oe) (hf : ∃ vs, oe.data = .fields vs) (hr : RoomH 1 (X.A.mark (some (.ref a))))
    (hg : Gl (X.suite a ((a, oe) :: pn)) "_law_term") (hN : X.N[i]? = some (Str.ofString "e")) (hv : Vis X.env.scope "e") :
    PE (X.suite a ((a, oe) :: pn)) (.Call (.Name "_law_term" p1) [.Name "e" p2] [] pos) (fun σ H Q => (σ[i]? = some (some (.ref a)) ∨ σ.length ≤ i) ∧ Etold ca Q cls d H) := by
  refine ⟨fun pins s σ H Q I ⟨h0, hd, k, hk, hc, q⟩ => ?_⟩
  have h0 : σ[i]? = some (some (.ref a)) := h0.elim id fun z => by
    have l1 : σ.length = X.N.length := I.len
    have l2 := (List.getElem?_eq_some_iff.mp hN).1
    omega
  subst hd hc
  obtain ⟨f, fd, st, hm, F, hb, S, der⟩ := T.ex
  refine wpAny_Call_Name_kw (ld_glob I hg hm ?_ (by decide))
  have ha : PA (X.suite a ((a, oe) :: pn)) [.Name "e" p2] (tCons (tVar i) tNil) := pa_cons (pe_var (X := X.suite a ((a, oe) :: pn)) hN hv (by decide) (by decide)) pa_nil
  refine PySem.W.callWith_K (h₀ := X.base) I.ok.mod.kin F.kp (thn (ha.run pos pins s σ H (fun vs H1 => vs = [.ref a] ∧ H1 = H) I ⟨.ref a, h0, rfl, rfl⟩) fun us s1 ⟨vs, H1, I1, r, ev, eH⟩ => ⟨I1.kIn, ?_⟩) (by rfl) (by rfl)
  subst ev eH
  obtain ⟨vs', hvs⟩ := hf
  have hot : Hot1 (X.A.mark (some (.ref a))) (a, oe) := ⟨rfl, vs', hvs, hz.2.2 vs' hvs⟩
  have P1 := I1.pin (a, oe) (List.mem_append_left _ List.mem_cons_self)
  have hpin : PinOk X.stack H1 s1 (a, oe) := ⟨P1.1, P1.2.1, fun hm => (List.mem_cons.mp (I1.stkSub a hm)).elim P1.2.2.1 P1.2.2.2.1, P1.2.2.2.2⟩
  have hl : us.length = 1 := by rw [← r.length]; rfl
  have b := hb s1 us I1.kIn (by rw [List.append_nil, hl]; rfl)
  rw [List.append_nil] at b
  refine wpAny_call (codeAny_mono (call_hot (CX := C8.CX0) (E := C8.E0) (Q := Q) F S hr hpin I1.env0 b r rfl fun cdv hr' => ⟨_, der cdv _ _ s1 H1 (a, oe) k hk hot ⟨hz.1, hz.2.1⟩ ⟨vs', hvs⟩ hr', term_run hk (fun j hj => Z.kit j k hj hk) (Z.kitV k hk) q⟩) fun r s' hq => ?_)
  cases r with
  | error e => exact (show False from hq).elim
  | ok fl =>
    cases fl with
    | ret u => exact I1.after hq
    | next => exact False.elim hq
    | brk => exact False.elim hq
    | cont => exact False.elim hq
/-- the def that calls what it got, as it stands -/
structure ToldAt (K : PySem.W.Frag) (mg : Str → Option Value) : Prop where
  ex : ∃ (g : Addr) (fd : FuncData) (st : Stmt), mg "_law_told" = some (.ref g) ∧ Fun K "_law_told" "_law_told" st g fd ∧ L2.Binds K fd ["deed"] [] ∧ FnScope ["deed", "e"] ["deed"] (defScope st) ∧
    (defScope st).names.lookup ("_law_term" : Str) = some .globalImplicit ∧ (defScope st).names.lookup ("MapError" : Str) = some .globalImplicit ∧ (defScope st).names.lookup ("e" : Str) = some .local ∧ (defScope st).names.lookup ("deed" : Str) = some .local ∧
    ∃ p1 p2 p3 p4 p5 p6 p7 p8 p9 p10, defBody st = [.Try [.Return (some (.Call (.Name "deed" p1) [] [] p2)) p3] [.ExceptHandler (some (.Name "MapError" p4)) (some "e") [.Return (some (.Call (.Name "_law_term" p5) [.Name "e" p6] [] p7)) p8] p9] [] [] p10]
def tTold (T : List (Addr × Str)) (P : Addr) (ca : Nat → Addr) (t : XK → TE) : TE := fun σ H Q => Tabs T H ∧ ∀ H1, (∀ b o, b ≠ P → H b = some o → H1 b = some o) → Tabs T H1 → t (Etold ca Q) σ H1 Q
theorem pe_told {X : Cx} {T : List (Addr × Str)} {c P : Addr} {k : Nat} {ca : Nat → Addr} {M : Addr} {params : Arguments} {body : Expr} {scope : Scope} {t : XK → TE} {p lpos pos : Pos} (TT : TermAt X.prog X.w X.K X.mg X.base ca) (Z : ExcTop X.K X.mg ca M) (TO : ToldAt X.K X.mg) (hg : Gl X "_law_told")
    (TB : TabB X.base X.mg c P) (hcode : X.env.code = .ref c) (hmT : (P, X.env.qual ++ "<lambda>") ∈ T) (hu : ∀ p ∈ T, p.1 = P → p.2 = X.env.qual ++ "<lambda>") (hr : Room (k + 2) X.A) (L : LamS X.env.scope scope) (hdef : defaultsOf params X.env = ([], []))
    (hbind : ∀ (q : Str) (cl : List (Str × Addr)) (pm cv ctv : Value), bindArgs (PySem.W.kla_fn "<lambda>" q params body scope cl pm cv ctv) ⟨[], []⟩ = pure [])
    (hbody : ∀ (A : Around) (outer : List PySem.Env) (s : Shared) (H : Hp) (E : XK) (f c' : Addr), Room k (A.deeper (lamEnv X scope s.heap.objs.size f c')) → PE (lamN X A outer s H E scope f c') body (t E)) :
    PE X (.Call (.Name "_law_told" p) [.Lambda params body scope lpos] [] pos) (tTold T P ca t) := by
  refine ⟨fun pins s σ H Q I ⟨hT, h⟩ => ?_⟩
  obtain ⟨g, fd, st, hm, F, hb, S, hs1, hs2, hs3, hs4, p1, p2, p3, p4, p5, p6, p7, p8, p9, p10, hbody'⟩ := TO.ex
  obtain ⟨oc, od, kV, doc, pm, an, cdv, ct, osl, rfl, lk, hcd⟩ := F.ex
  refine wpAny_Call_Name_kw (ld_glob I hg hm ?_ (by decide))
  refine PySem.W.callWith_K (h₀ := X.base) I.ok.mod.kin F.kp ?_ (by rfl) (by rfl)
  show wpAny _ _ (spliced ((false, eval (.Lambda params body scope lpos) X.env) :: backTo pos (starEach [] X.env))) _ _ s
  refine Calls.spliced_cons (lam_new I TB hcode hmT hu hT hdef (L.has I.ok) fun f c' pm' ctv H1 s' I1 ko T1 hf hfn hfr hco => ?_)
  refine Calls.spliced_nil ⟨I1.kIn, ?_⟩
  have tl := h H1 ko T1
  have rc : codeAny (model X.prog X.w) X.A (.call (.ref g) ⟨[.ref f], []⟩) (CR C8.CX0 X.stack X.prog X.w H1 s' Q C8.E0) s' := by
    refine run_ofS (N := ["deed", "e"]) (ps := ["deed"]) (us := [.ref f]) (vs := [.ref f]) lk hcd S hr I1.env0 (hb s' [.ref f] I1.kIn rfl) (.cons rfl .nil) rfl fun hr' => ?_
    rw [hbody']
    refine ⟨_, (pss_one (L2N.ps_try_as (X := (cxOf C8.CX0 X.prog X.w X.K X.mg X.base ["deed", "e"] "_law_told" (defScope st) g cdv X.A X.stack s' H1 C8.E0).nox) (c := .ref M) (i := 1)
      (tb := fun W D σ' H' => ∃ Ech : XK, (∀ cls d σ'' H'', Ech cls d H'' → W cls d σ'' H'') ∧ σ'[0]? = some (some (.ref f)) ∧ H' c' = some (CodeO c' (X.env.qual ++ "<lambda>")) ∧ t Ech σ H' D.rt)
      (ts := fun a cls d D σ' H' => (σ'[1]? = some (some (.ref a)) ∨ σ'.length ≤ 1) ∧ Etold ca D.rt cls d H')
      rfl rfl S.nd rfl hs3 ⟨hs2, by decide, .inl Z.gM⟩ takesN0 (fun W pn xe tk _ => ?_) (fun a oe cls d pn hz hf' => ?_))).nox, ?_⟩
    · refine ⟨fun pins' s2 σ2 H2 D I2 ⟨Ech, hW, h1, h2, h3⟩ => ?_⟩
      have act := act_n (CXg := C8.CX0) (Eg := C8.E0) (X := X) (pins := pins) (p1 := p1) (p2 := p2) (i := 0) (a := "deed") (Ng := ["deed", "e"]) (tb := t Ech) I1 L hf hfn hfr (hbind _ _ _ _ _) tk hW hr' (fun A outer s H hr2 => hbody A outer s H Ech f c' hr2) rfl (.inl hs4)
      exact (pss_one (ps_ret (pos := p3) act)).run pins' s2 σ2 H2 D I2 ⟨h1, h2, h3⟩
    · refine pss_one (ps_ret (pos := p8) (pe_term (X := (cxOf C8.CX0 X.prog X.w X.K X.mg X.base ["deed", "e"] "_law_told" (defScope st) g cdv X.A X.stack s' H1 C8.E0).nox) (i := 1) TT Z hz hf' ?_ hs1 rfl (.inl hs3)))
      have hr1 : Room 1 (X.A.deeper (envOfC "_law_told" (defScope st) s'.heap.objs.size g cdv)) := hr'.mono (by omega)
      exact ⟨hr1.dp, hr1.un⟩
    · refine ⟨Etold ca Q, fun cls d σ' H' hE => ?_, rfl, hco, tl⟩
      obtain ⟨hd, k', hk', hc', q'⟩ := hE
      refine ⟨true, by rw [hc']; exact Z.exm k' hk', fun _ a na => ⟨?_, hd, k', hk', hc', q'⟩, fun z => by cases z⟩
      rcases Nat.lt_or_ge 1 σ'.length with hl | hl
      · exact .inl (by rw [List.getElem?_set_self hl])
      · exact .inr (by rw [List.length_set]; exact hl)
  refine wpAny_call (codeAny_mono rc fun r s2 hq => ?_)
  cases r with
  | error e => exact (show False from hq).elim
  | ok fl =>
    cases fl with
    | ret u => exact I1.after hq
    | next => exact False.elim hq
    | brk => exact False.elim hq
    | cont => exact False.elim hq
/-! ### in the evaluator's words -/
/-- the lambda's body, from the state at its making -/
def tLamE (K : PySem.W.Frag) (c : Cfg) (a : E) (E : XK) : TE := fun σ H Q => ∃ W : Ent, (∀ b, W.P0 b) ∧ TEv K { c with W := W, E := E } a σ H Q
theorem pe_lamE {X : Cx} {c : Cfg} {a : E} {E : XK} {e : Expr} (h : ∀ W : Ent, (∀ b, W.P0 b) → PE X e (TEv X.K { c with W := W, E := E } a)) : PE X e (tLamE X.K c a E) :=
  ⟨fun pins s σ H Q I ⟨W, hp, q⟩ => (h W hp).run pins s σ H Q I q⟩
theorem hidE_get (r : Env) (i : Nat) : getS (hidE r) i = match getS r i with | .own _ => .un | .dicT _ => .un | .dicK _ => .un | s => s := by
  unfold getS hidE
  rw [List.getD_eq_getElem?_getD, List.getD_eq_getElem?_getD, List.getElem?_map]
  cases r[i]? with
  | none => rfl
  | some s => cases s <;> rfl
theorem hid_no (r : Env) (i : Nat) : isOwn (getS (hidE r) i) = false := by
  rw [hidE_get]
  cases getS r i <;> rfl
/-- the table at P was there at the entry, and is no datum -/
structure WOk (W : Ent) (P : Addr) : Prop where
  h : ∃ ps, W.H0 P = some (.tbl ps)
  o : ¬ W.O0 P
  f : W.F0 P = none
/-- while the lambda runs, nothing is owned -/
theorem told_go {K : PySem.W.Frag} {c : Cfg} {a : E} {T : List (Addr × Str)} {P : Addr} {q0 : Str} {ca : Nat → Addr} {σ : L2.St} {H : Hp} {Q : VK} (hJT : ∀ H, c.J H ↔ Tabs T H) (hmT : (P, q0) ∈ T) (hw : WOk c.W P) (hcl : ∀ k, c.cl k = .ref (ca k))
    (h : TEv K c (.told a) σ H Q) : tTold T P ca (tLamE K c a) σ H Q := by
  obtain ⟨F, r, x, h⟩ := h
  have hT := (hJT H).mp x.tie
  refine ⟨hT, fun H1 ko T1 => ?_⟩
  obtain ⟨ps0, hw0⟩ := hw.h
  have fP : F P = none := (x.kp P _ hw0 hw.o).1.trans hw.f
  obtain ⟨ps, hP, _⟩ := hT _ hmT
  obtain ⟨ps1, hP1, _⟩ := T1 _ hmT
  have ne : ∀ b o, F b = some o → b ≠ P := fun b o e z => by rw [z, fP] at e; cases e
  have g : Grow F H F H1 := ⟨fun b o e => ko b o (ne b o e) (x.rel.same b o e), fun b o e => ⟨rfl, ?_⟩⟩
  · have x1 : Stt K c r σ H1 F := g.stt x ((hJT H1).mpr T1)
    have no : ∀ b, ¬ Own (hidE r) σ b := fun b ⟨i, q, _⟩ => by rw [hid_no] at q; cases q
    have lenE : (hidE r).length = r.length := by simp [hidE]
    have x2 : Stt K { c with W := entC H1 F (fun _ => False) (fun _ => True), E := Etold ca Q } (hidE r) σ H1 F := by
      refine ⟨⟨lenE.trans x1.rel.len, x1.rel.same, fun i => ?_, fun i j b q => absurd ⟨i, q⟩ (no b)⟩, x1.tie, fun b o e _ => ⟨rfl, .inl e⟩, fun b q => absurd q (no b), fun _ _ => trivial⟩
      have q := x1.rel.ok i
      rw [hidE_get]
      cases e : getS r i with
      | un => trivial
      | sh d => rw [e] at q; exact q
      | own l => trivial
      | dicT l => trivial
      | dicK l => trivial
    refine ⟨entC H1 F (fun _ => False) (fun _ => True), fun _ => trivial, F, hidE r, x2, ?_⟩
    simp only [den] at h
    show OkE K _ (hidE r) σ F H1 (den c.call a (hidE r)) Q
    cases ed : den c.call a (hidE r) with
    | ok p =>
      obtain ⟨d, r1⟩ := p
      rw [ed] at h
      intro v F' H' x' ef _ dn
      have g2 : Grow F H1 F' H' := ⟨x'.rel.same, fun b o e => ef b o e (no b)⟩
      exact h v F' H' (g2.stt x1 x'.tie) (g.ef.trans g2.ef (fun _ z => z)) (fun _ z => z) dn
    | exc k =>
      rw [ed] at h
      by_cases hk : k < 13
      · simp only [if_pos hk] at h
        intro F' H' j' sm' kp'
        have g2 : Grow F H1 F' H' := kp_grow sm' kp'
        refine ⟨rfl, k, hk, hcl k, fun p H'' s2 n2 e2 => ?_⟩
        have nF : F' p = none := sm'.free n2
        have g3 : Grow F' H' (upd F' p (.tup [.str "error", .str (excName k)])) H'' := by
          refine ⟨fun b o e => ?_, fun b o e => ⟨upd_ne (ne_of_none e n2), .inl (s2 _ _ e)⟩⟩
          by_cases hb : b = p
          · subst hb; rw [upd_same] at e; rw [← e]; exact e2
          · rw [upd_ne hb] at e; exact s2 _ _ (sm' _ _ e)
        have j3 : c.J H'' := c.hJ H' H'' (fun b o e => .inl (s2 b o e)) j'
        refine h (.ref p) _ H'' (g3.stt (g2.stt x1 j') j3) ((g.ef.trans g2.ef (fun _ z => z)).trans g3.ef (fun _ z => z)) (fun _ z => z) ?_
        exact Dp.tup upd_same (.cons (Dp.str _) (.cons (Dp.str _) .nil))
      · simp only [if_neg hk] at h
        exact h.elim
    | stuck => rw [ed] at h; exact h.elim
  · by_cases hb : b = P
    · subst hb
      rw [hP] at e; cases e
      exact .inr ⟨⟨_, rfl⟩, _, hP1⟩
    · exact .inl (ko b o hb e)
/-- the rule -/
theorem sv_told {X : Cx} {cf : Cfg} {a : E} {T : List (Addr × Str)} {c P : Addr} {k : Nat} {ca : Nat → Addr} {M : Addr} {params : Arguments} {body : Expr} {scope : Scope} {p lpos pos : Pos} (TT : TermAt X.prog X.w X.K X.mg X.base ca) (Z : ExcTop X.K X.mg ca M) (TO : ToldAt X.K X.mg) (hJT : ∀ H, cf.J H ↔ Tabs T H) (hw : WOk cf.W P) (hcl : ∀ k, cf.cl k = .ref (ca k))
    (TB : TabB X.base X.mg c P) (hcode : X.env.code = .ref c) (hmT : (P, X.env.qual ++ "<lambda>") ∈ T) (hu : ∀ p ∈ T, p.1 = P → p.2 = X.env.qual ++ "<lambda>") (hr : Room (k + 2) X.A) (hg : Gl X "_law_told") (L : LamS X.env.scope scope) (hdef : defaultsOf params X.env = ([], []))
    (hbind : ∀ (q : Str) (cl : List (Str × Addr)) (pm cv ctv : Value), bindArgs (PySem.W.kla_fn "<lambda>" q params body scope cl pm cv ctv) ⟨[], []⟩ = pure [])
    (hbody : ∀ (A : Around) (outer : List PySem.Env) (s : Shared) (H : Hp) (E : XK) (f c' : Addr) (W : Ent), (∀ b, W.P0 b) → Room k (A.deeper (lamEnv X scope s.heap.objs.size f c')) → Passes (L2N.CX X.prog X.w) (lamN X A outer s H E scope f c') E → PE (lamN X A outer s H E scope f c') body (TEv X.K { cf with W := W, E := E } a)) :
    PE X (.Call (.Name "_law_told" p) [.Lambda params body scope lpos] [] pos) (TEv X.K cf (.told a)) := by
  refine PE.mono (pe_told TT Z TO hg TB hcode hmT hu hr L hdef hbind (t := tLamE X.K cf a) fun A outer s H E f c' hr' => ?_) fun σ H Q h => told_go hJT hmT hw hcl h
  refine pe_lamE (X := lamN X A outer s H E scope f c') fun W hp => hbody A outer s H E f c' W hp hr' ?_
  exact L2N.passes_call (W := fun cls d _ H => E cls d H) (L2N.takes_of rfl rfl rfl rfl) (fun _ _ _ _ h => h)
end Bm
end
section
set_option Elab.async false
set_option linter.all false
set_option maxRecDepth 100000
set_option maxHeartbeats 1000000
/-! The law's loop over its rounds. -/
namespace Bm
open PySem PySem.Spec L2 LamX
/-- what a round begins with: the list of its two numbers at place 1 -/
def env0 (ns : Nat) (c : Int) : Env := .un :: .own [.int c, .int 0] :: List.replicate (ns - 2) .un
section
variable (K : PySem.W.Frag) (J : Hp → Prop) (hJ : ∀ H H' : Hp, (∀ b o, H b = some o → H' b = some o ∨ isMut o) → J H → J H') (cl : Nat → Value) (call : CallS) (T : List (Addr × Str)) (E : XK)
/-- a round's text, from any heap -/
def tAny (b : S) : TS := fun D σ H => ∃ W : Ent, ((∀ a, W.P0 a) ∧ ∀ p ∈ T, WOk W p.1) ∧ TSv K (cfg J hJ cl call W E) b D σ H
theorem pss_any {X : Cx} {sts : List Stmt} {b : S} (h : ∀ W : Ent, (∀ a, W.P0 a) → (∀ p ∈ T, WOk W p.1) → PSs X sts (TSv X.K (cfg J hJ cl call W E) b)) : PSs X sts (tAny X.K J hJ cl call T E b) :=
  ⟨fun pins s σ H D I ⟨W, hp, q⟩ => (h W hp.1 hp.2).run pins s σ H D I q⟩
def tLaw (M : Int) (b : S) : TS := tSeq (tFor (iList K (tCall (spRounds K) [] E (tCons (tVar 0) (tCons (tC (.int M)) tNil)))) (gName 1) (tAny K J hJ cl call T E b)) (tRet (tC (.bl true)))
def spLaw : Sp := fun vs H Q _ => ∃ (a : Addr) (ns : List Int), vs = [.ref a] ∧ SqL K H a (ns.map V.int) ∧ ns.length ≤ 63 ∧ J H ∧ ∀ H', Q (.bl true) H'
def Good (call : CallS) (n : Nat) (b : S) : Prop := ∀ c : Int, ∃ r, denS call b (env0 n c) = .nxt r ∧ r.length = n
variable {K J hJ cl call T E}
theorem nodup_inj {α : Type} : ∀ {l : List α} {i j : Nat}, l.Nodup → (hi : i < l.length) → (hj : j < l.length) → l[i] = l[j] → i = j
  | [], _, _, _, hi, _, _ => by cases hi
  | a :: l, 0, 0, _, _, _, _ => rfl
  | a :: l, 0, j + 1, h, _, hj, e => by
    have := (List.nodup_cons.mp h).1
    simp only [List.getElem_cons_zero, List.getElem_cons_succ] at e
    exact absurd (e ▸ List.getElem_mem _) this
  | a :: l, i + 1, 0, h, hi, _, e => by
    have := (List.nodup_cons.mp h).1
    simp only [List.getElem_cons_zero, List.getElem_cons_succ] at e
    exact absurd (e ▸ List.getElem_mem _) this
  | a :: l, i + 1, j + 1, h, hi, hj, e => by
    simp only [List.getElem_cons_succ] at e
    rw [nodup_inj (List.nodup_cons.mp h).2 _ _ e]
theorem env0_get (n : Nat) (c : Int) (i : Nat) : getS (env0 n c) i = if i = 1 then .own [.int c, .int 0] else .un := by
  match i with
  | 0 => rfl
  | 1 => rfl
  | i + 2 =>
    have e : getS (env0 n c) (i + 2) = getS (List.replicate (n - 2) .un) i := by simp [getS, env0]
    rw [e, getS_rep, if_neg (by omega)]
theorem law_run {M : Int} {b : S} {N : List Str} {vs : List V} {H : Hp} {Q : VK} {E0 : XK} (hM : 0 ≤ M ∧ M ≤ 63) (hN : 2 ≤ N.length) (good : Good call N.length b) (hJT : ∀ H, J H → Tabs T H) (h : spLaw K J vs H Q E0) :
    tLaw K J hJ cl call T E M b { nx := fun _ H' => Q .non H', rt := Q } (L2.start N vs) H := by
  obtain ⟨a, ns, rfl, hS, hl, j0, q⟩ := h
  refine ⟨.ref a, ?_, a, ns, M, rfl, hS, hl, hM.1, hM.2, fun R ds H1 rd => ?_⟩
  · unfold L2.start; rfl
  obtain ⟨r1, r2, r3, r4, r5, r6⟩ := rd
  refine ⟨R, rfl, ⟨_, SqL.of r3⟩, for_list (K := K) (a := R) (xs := ds.map V.ref) (fun i σ H' => σ.length = N.length ∧ J H' ∧ H' R = some (.lst (ds.map V.ref)) ∧ ∀ k d, i ≤ k → ds[k]? = some d → ∃ c : Int, H' d = some (.lst [.int c, .int 0])) ⟨?_, ?_, r3, ?_⟩ (fun i σ H' _ p => SqL.of p.2.2.1) ?_ (fun σ H' _ => q H')⟩
  · unfold L2.start; simp only [List.length_append, List.length_map, List.length_replicate, List.length_cons, List.length_nil]; omega
  · exact hJ _ _ (fun b o hb => .inl (r1 b o hb)) j0
  · intro k d _ hk
    obtain ⟨_, c, hc⟩ := r6 d (List.mem_of_getElem? hk)
    exact ⟨c, hc⟩
  · rintro i x σ H' hx ⟨hσ, j, hR, hds⟩
    rw [List.getElem?_map] at hx
    cases ed : ds[i]? with
    | none => rw [ed] at hx; cases hx
    | some d =>
      rw [ed] at hx
      cases hx
      obtain ⟨c, hc⟩ := hds i d (Nat.le_refl _) ed
      obtain ⟨r', hr', hlen⟩ := good c
      have own1 : ∀ i' b', OwnAt (env0 N.length c) (σ.set 1 (some (.ref d))) i' b' → i' = 1 ∧ b' = d := fun i' b' ⟨h1, h2⟩ => by
        rw [env0_get] at h1
        by_cases hi : i' = 1
        · subst hi
          rw [vAt_set, if_pos ⟨rfl, by omega⟩] at h2
          cases h2
          exact ⟨rfl, rfl⟩
        · rw [if_neg hi] at h1; cases h1
      have x0 : Stt K (cfg J hJ cl call (entC H' (fun _ => none) (fun b => b = d) (fun _ => True)) E) (env0 N.length c) (σ.set 1 (some (.ref d))) H' (fun _ => none) := by
        refine ⟨⟨?_, fun b o hb => (by cases hb), fun k => ?_, fun i' j' b' p p' => ?_⟩, j, fun b o hb n => ⟨rfl, .inl hb⟩, fun b' ⟨i', p⟩ => .inl (own1 i' b' p).2, fun _ _ => trivial⟩
        · rw [List.length_set, hσ]; simp only [env0, List.length_cons, List.length_replicate]; omega
        · rw [env0_get]
          by_cases hk : k = 1
          · subst hk
            rw [if_pos rfl, vAt_set, if_pos ⟨rfl, by omega⟩]
            exact ⟨d, _, rfl, rfl, hc, .cons (.int c) (.cons (.int 0) .nil)⟩
          · rw [if_neg hk]; trivial
        · rw [(own1 _ _ p).1, (own1 _ _ p').1]
      have wok : ∀ p ∈ T, WOk (entC H' (fun _ => none) (fun b => b = d) (fun _ => True)) p.1 := fun p hp => by
        obtain ⟨ps, hps, _⟩ := hJT H' j p hp
        refine ⟨⟨ps, hps⟩, fun z => ?_, rfl⟩
        have z : p.1 = d := z
        rw [z, hc] at hps; cases hps
      refine ⟨entC H' (fun _ => none) (fun b => b = d) (fun _ => True), ⟨fun _ => trivial, wok⟩, fun _ => none, _, x0, ?_⟩
      show OkS K _ _ (denS call b (env0 N.length c)) _
      rw [hr']
      intro σ2 H2 F2 x2 _
      have kept : ∀ b o, b ≠ d → isMut o → H' b = some o → H2 b = some o := fun b o hb m h => (x2.kp b o h hb).2.mut m
      have nRd : R ≠ d := fun z => r5 (z ▸ List.mem_of_getElem? ed)
      refine ⟨by rw [← x2.rel.len]; exact hlen, x2.tie, kept _ _ nRd trivial hR, fun k d' hk hd' => ?_⟩
      obtain ⟨c', hc'⟩ := hds k d' (by omega) hd'
      refine ⟨c', kept _ _ (fun z => ?_) trivial hc'⟩
      subst z
      have : k = i := by
        have h1 := (List.getElem?_eq_some_iff.mp hd')
        have h2 := (List.getElem?_eq_some_iff.mp ed)
        obtain ⟨l1, e1⟩ := h1
        obtain ⟨l2, e2⟩ := h2
        exact nodup_inj r4 l1 l2 (e1.trans e2.symm)
      omega
end
section
variable {P : Program} {w : World} {K : PySem.W.Frag} {mg : Str → Option Value} {base : Heap} {J : Hp → Prop} {hJ : ∀ H H' : Hp, (∀ b o, H b = some o → H' b = some o ∨ isMut o) → J H → J H'} {cl : Nat → Value} {call : CallS}
theorem ok_law {k : Nat} {qual : Str} {st : Stmt} {fa : Addr} {fdat : FuncData} {N : List Str} {M : Int} {b : S} (F : Fun K "law" qual st fa fdat) (S : FnScope N ["script"] (defScope st)) (hM : 0 ≤ M ∧ M ≤ 63) (hN : 2 ≤ N.length) (good : Good call N.length b) {T : List (Addr × Str)} (hJT : ∀ H, J H → Tabs T H)
    (der : ∀ (E : XK) (cdv : Value) (A : Around) (outer : List PySem.Env) (s : Shared) (H : Hp), fdat.code = cdv → Room k (A.deeper (PyProof.Rows.envOfC qual (defScope st) s.heap.objs.size fa cdv)) →
      PSs (cxOf (L2N.CX P w) P w K mg base N qual (defScope st) fa cdv A outer s H E) (defBody st) (tLaw K J hJ cl call T E M b)) : FnOk P w K mg base (L2N.CX P w) (k + 1) fa fdat ["script"] (spLaw K J) := by
  refine okN F S (fun vs H Q E h => ?_) fun cdv A outer s H vs Q E hcd hr h => ⟨_, der E cdv A outer s H hcd hr, law_run hM hN good hJT h⟩
  obtain ⟨a, ns, rfl, _⟩ := h
  rfl
end
theorem tabs_mono {T : List (Addr × Str)} (H H' : Hp) (h : ∀ b o, H b = some o → H' b = some o ∨ isMut o) (t : Tabs T H) : Tabs T H' := fun p hp => by
  obtain ⟨ps, h1, h2, h3⟩ := t p hp
  refine ⟨ps, (h _ _ h1).elim id (fun z => z.elim), h2, fun pos cv hc => ?_⟩
  obtain ⟨c, e1, e2⟩ := h3 pos cv hc
  exact ⟨c, e1, (h _ _ e2).elim id (fun z => z.elim)⟩
end Bm
end
section
set_option Elab.async false
set_option linter.all false
set_option maxRecDepth 100000
set_option maxHeartbeats 2000000
/-! What the head tells, for every law. -/
namespace Bm
open PySem PySem.Spec L2 LamX
theorem fun_of {K : PySem.W.Frag} {x qual : Str} {st : Stmt} {f : Addr} {fd : FuncData} (F : FunD K x qual (defArgs st) (defBody st) (defScope st) [] [] f fd) : Fun K x qual st f fd := by
  obtain ⟨oc, od, dV, kV, doc, pm, an, cdv, ct, osl, e, lk, hcd, hd, _⟩ := F.ex
  rcases hd with ⟨_, rfl⟩ | ⟨z, _⟩
  · exact ⟨⟨oc, od, kV, doc, pm, an, cdv, ct, osl, e, lk, hcd⟩, F.kp⟩
  · exact absurd rfl z
/-- the classes' addresses -/
def caK (K : PySem.W.Frag) (j : Nat) : Addr := He.ga K (Str.ofString (exNames.getD j ""))
def isB (a b : Option Bool) : Bool := decide (a = b)
def excCB (K : PySem.W.Frag) (C : Addr) : Bool :=
  He.eqO (PySem.W.findIn K (.ref C) "__getattribute__") (some (some (.builtin "BaseException.__getattribute__"))) && (He.eqO (PySem.W.findIn K (.ref C) "__getattr__") (some none) && (isB (PySem.W.subIn K (.ref C) (.type "BaseException")) (some true) && (PySem.W.hasDictIn K C &&
    (He.eqO (PySem.W.findIn K (.ref C) "__class__") (some (some (.builtin "object.__class__"))) && (He.eqO (PySem.W.specialIn K (.builtin "object.__class__") "__get__") (some (some (.builtin "getset_descriptor.__get__"))) && (isB (PySem.W.takesIn K (.builtin "object.__class__")) (some true) && isB (PySem.W.mroIn K C (.type "object")) (some true)))))))
theorem excCB_ok {K : PySem.W.Frag} {C : Addr} (h : excCB K C = true) : ExcC K C := by
  unfold excCB at h
  simp only [Bool.and_eq_true] at h
  obtain ⟨h1, h2, h3, h4, h5, h6, h7, h8⟩ := h
  exact ⟨He.eqO_ok h1, He.eqO_ok h2, of_decide_eq_true h3, h4, He.eqO_ok h5, He.eqO_ok h6, of_decide_eq_true h7, of_decide_eq_true h8⟩
def exB (K : PySem.W.Frag) : Bool := (List.range 13).all fun k => excCB K (caK K k) && (isB (PySem.W.kitOne K (.ref (caK K k)) (.type "ValueError")) (some true) && (isB (PySem.W.exmOne K (.ref (caK K k)) (.ref (He.ga K "MapError"))) (some true) &&
  (List.range 13).all fun j => isB (PySem.W.kitOne K (.ref (caK K k)) (.ref (caK K j))) (some (decide (j = k)))))
theorem exB_ok {K : PySem.W.Frag} {mg : Str → Option Value} (h : exB K = true) (g : ∀ j, j < 13 → mg (Str.ofString (exNames.getD j "")) = some (.ref (caK K j))) (gM : mg "MapError" = some (.ref (He.ga K "MapError"))) (b1 : mg "isinstance" = none) (b2 : mg "sum" = none) (b3 : mg "int" = none) (b4 : mg "ValueError" = none) :
    ExcTop K mg (caK K) (He.ga K "MapError") := by
  have key : ∀ k, k < 13 → ExcC K (caK K k) ∧ PySem.W.kitOne K (.ref (caK K k)) (.type "ValueError") = some true ∧ PySem.W.exmOne K (.ref (caK K k)) (.ref (He.ga K "MapError")) = some true ∧ ∀ j, j < 13 → PySem.W.kitOne K (.ref (caK K k)) (.ref (caK K j)) = some (decide (j = k)) := fun k hk => by
    have := List.all_eq_true.mp h k (List.mem_range.mpr hk)
    simp only [Bool.and_eq_true] at this
    obtain ⟨h1, h2, h3, h4⟩ := this
    exact ⟨excCB_ok h1, of_decide_eq_true h2, of_decide_eq_true h3, fun j hj => of_decide_eq_true (List.all_eq_true.mp h4 j (List.mem_range.mpr hj))⟩
  exact ⟨g, fun j k hj hk => (key k hk).2.2.2 j hj, fun k hk => (key k hk).2.1, fun k hk => (key k hk).1, gM, fun k hk => (key k hk).2.2.1, b1, b2, b3, b4⟩
theorem excAt_of {K : PySem.W.Frag} {mg : Str → Option Value} {x : Str} {C : Addr} (hC : C = He.ga K x) (g : mg x = some (.ref (He.ga K x))) (c : (He.Fa.exc x).ok K = true) : ExcAt K mg x C := by
  subst hC
  obtain ⟨h1, h2, h3, h4⟩ := He.exc_ok c
  exact ⟨g, h1, h2, h3, h4⟩
end Bm
end
section
set_option linter.all false
set_option maxRecDepth 100000
/-! The text as trees. -/
namespace Bm
abbrev ce_is_drawing_1 : E := (.and (.op .isstr (.cons (.var 1) .nil)) (.op .ne (.cons (.var 1) (.cons (.lit (dS [])) .nil))))
abbrev lc_is_drawing_1 : E := (.lc [1] (.name 1) (.it .seq (.cons (.var 0) .nil)) (.lit (.bool true)) ce_is_drawing_1)
def b_is_drawing : S := (.seq (.ifs (.or (.op .not (.cons (.op .istup (.cons (.var 0) .nil)) .nil)) (.op .not (.cons (.op .all (.cons lc_is_drawing_1 .nil)) .nil))) (.ret (.lit (.bool false))) .skip) (.seq (.asg (.name 2) (.meth .join (.lit (dS [])) (.cons (.var 0) .nil))) (.seq (.asg (.name 3) (.op .fdiv (.cons (.op .len (.cons (.var 2) .nil)) (.cons (.lit (.int 2)) .nil)))) (.ret (.and (.chain .le .le (.lit (.int 2)) (.op .len (.cons (.var 2) .nil)) (.lit (.int 16))) (.op .eq (.cons (.op .sorted (.cons (.var 2) .nil)) (.cons (.op .sorted (.cons (.op .mul (.cons (.slcH (.lit (dS [97, 98, 99, 100, 101, 102, 103, 104])) (.var 3)) (.cons (.lit (.int 2)) .nil))) .nil)) .nil))))))))
abbrev ce_ends_in_1 : E := (.op .mkt (.cons (.var 2) (.cons (.var 4) .nil)))
abbrev lc_ends_in_1 : E := (.lc [4] (.name 4) (.it .range1 (.cons (.op .len (.cons (.var 3) .nil)) .nil)) (.lit (.bool true)) ce_ends_in_1)
abbrev fb_ends_in_1 : S := (.asg (.name 1) (.op .add (.cons (.var 1) (.cons lc_ends_in_1 .nil))))
abbrev fo_ends_in_1 : S := (.for_ (.tup [2, 3]) (.it .enum (.cons (.var 0) .nil)) fb_ends_in_1)
def b_ends_in : S := (.seq (.asg (.name 1) (.op .mkl .nil)) (.seq fo_ends_in_1 (.ret (.var 1))))
def b_letter_at : S := (.ret (.op .item (.cons (.op .item (.cons (.var 0) (.cons (.op .item (.cons (.var 1) (.cons (.lit (.int 0)) .nil))) .nil))) (.cons (.op .item (.cons (.var 1) (.cons (.lit (.int 1)) .nil))) .nil))))
abbrev fb_other_end_1 : S := (.seq (.asg (.name 5) (.meth .find (.var 4) (.cons (.var 2) .nil))) (.seq (.ifs (.op .eq (.cons (.op .mkt (.cons (.var 3) (.cons (.var 5) .nil))) (.cons (.var 1) .nil))) (.asg (.name 5) (.meth .find2 (.var 4) (.cons (.var 2) (.cons (.op .add (.cons (.var 5) (.cons (.lit (.int 1)) .nil))) .nil)))) .skip) (.ifs (.op .ge (.cons (.var 5) (.cons (.lit (.int 0)) .nil))) (.ret (.op .mkt (.cons (.var 3) (.cons (.var 5) .nil)))) .skip)))
abbrev fo_other_end_1 : S := (.for_ (.tup [3, 4]) (.it .enum (.cons (.var 0) .nil)) fb_other_end_1)
def b_other_end : S := (.seq (.asg (.name 2) (.call 2 (.cons (.var 0) (.cons (.var 1) .nil)))) (.seq fo_other_end_1 (.ret (.var 1))))
def b_next_around : S := (.ret (.op .mkt (.cons (.op .item (.cons (.var 1) (.cons (.lit (.int 0)) .nil))) (.cons (.op .mod (.cons (.op .add (.cons (.op .item (.cons (.var 1) (.cons (.lit (.int 1)) .nil))) (.cons (.lit (.int 1)) .nil))) (.cons (.op .len (.cons (.op .item (.cons (.var 0) (.cons (.op .item (.cons (.var 1) (.cons (.lit (.int 0)) .nil))) .nil))) .nil)) .nil))) .nil))))
def b_gone_on : S := (.ret (.call 4 (.cons (.var 0) (.cons (.call 3 (.cons (.var 0) (.cons (.var 1) .nil))) .nil))))
abbrev ce_least_turn_1 : E := (.op .add (.cons (.slcL (.var 0) (.var 1)) (.cons (.slcH (.var 0) (.var 1)) .nil)))
abbrev lc_least_turn_1 : E := (.lc [1] (.name 1) (.it .range1 (.cons (.op .len (.cons (.var 0) .nil)) .nil)) (.lit (.bool true)) ce_least_turn_1)
def b_least_turn : S := (.ret (.op .min1 (.cons lc_least_turn_1 .nil)))
abbrev wc_rounds_1 : E := (.op .not (.cons (.dIn 2 (.var 3)) .nil))
abbrev wb_rounds_1 : S := (.seq (.dput 2 (.var 3) (.lit (.bool true))) (.seq (.append 4 (.var 3)) (.asg (.name 3) (.call 5 (.cons (.var 0) (.cons (.var 3) .nil))))))
abbrev wh_rounds_1 : S := (.while_ 200 wc_rounds_1 wb_rounds_1)
abbrev ce_rounds_1 : E := (.call 2 (.cons (.var 0) (.cons (.var 6) .nil)))
abbrev lc_rounds_1 : E := (.lc [6] (.name 6) (.it .seq (.cons (.var 4) .nil)) (.lit (.bool true)) ce_rounds_1)
abbrev fb_rounds_1 : S := (.ifs (.op .not (.cons (.dIn 2 (.var 3)) .nil)) (.seq (.asgM 4 1 (.op .mkl .nil)) (.seq wh_rounds_1 (.seq (.asg (.name 5) (.meth .join (.lit (dS [])) (.cons lc_rounds_1 .nil))) (.append 1 (.op .mkt (.cons (.call 6 (.cons (.var 5) .nil)) (.cons (.op .min1 (.cons (.var 4) .nil)) (.cons (.op .tuple (.cons (.var 4) .nil)) .nil)))))))) .skip)
abbrev fo_rounds_1 : S := (.for_ (.name 3) (.it .seq (.cons (.call 1 (.cons (.var 0) .nil)) .nil)) fb_rounds_1)
abbrev ce_rounds_2 : E := (.op .mkt (.cons (.var 5) (.cons (.var 4) .nil)))
abbrev lc_rounds_2 : E := (.lc [5, 7, 4] (.tup [5, 7, 4]) (.it .seq (.cons (.op .sorted (.cons (.var 1) .nil)) .nil)) (.lit (.bool true)) ce_rounds_2)
def b_rounds : S := (.seq (.par [(1, 1), (2, 2)] (.cons (.op .mkl .nil) (.cons (.lit (.dict [])) .nil))) (.seq fo_rounds_1 (.ret lc_rounds_2)))
abbrev fb_reached_1 : S := (.ifs (.and (.peek (.op .isin (.cons (.var 6) (.cons (.var 2) .nil)))) (.peek (.op .notin (.cons (.var 7) (.cons (.var 2) .nil))))) (.append 2 (.var 7)) (.ifs (.and (.peek (.op .isin (.cons (.var 7) (.cons (.var 2) .nil)))) (.peek (.op .notin (.cons (.var 6) (.cons (.var 2) .nil))))) (.append 2 (.var 6)) (.ifs (.peek (.op .notin (.cons (.var 6) (.cons (.var 2) .nil)))) (.append 5 (.op .mkt (.cons (.var 6) (.cons (.var 7) .nil)))) .skip)))
abbrev fo_reached_1 : S := (.for_ (.tup [6, 7]) (.it .seq (.cons (.var 3) .nil)) fb_reached_1)
abbrev wc_reached_1 : E := (.op .lt (.cons (.var 4) (.cons (.peek (.op .len (.cons (.var 2) .nil))) .nil)))
abbrev wb_reached_1 : S := (.seq (.par [(4, 0), (5, 1)] (.cons (.peek (.op .len (.cons (.var 2) .nil))) (.cons (.op .mkl .nil) .nil))) (.seq fo_reached_1 (.asg (.name 3) (.var 5))))
abbrev wh_reached_1 : S := (.while_ 200 wc_reached_1 wb_reached_1)
def b_reached : S := (.seq (.par [(2, 1), (3, 0), (4, 0)] (.cons (.op .mkl (.cons (.var 1) .nil)) (.cons (.var 0) (.cons (.lit (.int 0)) .nil)))) (.seq wh_reached_1 (.ret (.var 2))))
abbrev ce_pairs_of_1 : E := (.call 10 (.cons (.var 0) (.cons (.var 2) .nil)))
abbrev lc_pairs_of_1 : E := (.lc [2] (.name 2) (.it .seq (.cons (.var 1) .nil)) (.lit (.bool true)) ce_pairs_of_1)
def b_pairs_of : S := (.ret lc_pairs_of_1)
abbrev fb_points_of_1 : S := (.asg (.name 2) (.op .add (.cons (.var 2) (.cons (.op .mul (.cons (.op .mkl (.cons (.var 3) .nil)) (.cons (.meth .count (.var 4) (.cons (.var 1) .nil)) .nil))) .nil))))
abbrev fo_points_of_1 : S := (.for_ (.tup [3, 4]) (.it .enum (.cons (.var 0) .nil)) fb_points_of_1)
def b_points_of : S := (.seq (.asg (.name 2) (.op .mkl .nil)) (.seq fo_points_of_1 (.ret (.op .tuple (.cons (.var 2) .nil)))))
def b_letters_of : S := (.ret (.slcH (.lit (dS [97, 98, 99, 100, 101, 102, 103, 104])) (.op .fdiv (.cons (.op .len (.cons (.meth .join (.lit (dS [])) (.cons (.var 0) .nil)) .nil)) (.cons (.lit (.int 2)) .nil)))))
def b_is_map : S := (.seq (.ifs (.or (.op .not (.cons (.call 0 (.cons (.var 0) .nil)) .nil)) (.op .ne (.cons (.op .len (.cons (.call 8 (.cons (.call 9 (.cons (.var 0) (.cons (.call 11 (.cons (.var 0) .nil)) .nil))) (.cons (.lit (.int 0)) .nil))) .nil)) (.cons (.op .len (.cons (.var 0) .nil)) .nil)))) (.ret (.lit (.bool false))) .skip) (.ret (.op .eq (.cons (.op .add (.cons (.op .sub (.cons (.op .len (.cons (.var 0) .nil)) (.cons (.op .len (.cons (.call 11 (.cons (.var 0) .nil)) .nil)) .nil))) (.cons (.op .len (.cons (.call 7 (.cons (.var 0) .nil)) .nil)) .nil))) (.cons (.lit (.int 2)) .nil)))))
def b_need_map : S := (.ifs (.op .not (.cons (.call 12 (.cons (.var 0) .nil)) .nil)) (.raise 0) .skip)
abbrev lc_land_strings_1 : E := (.lc [1, 2] (.tup [1, 2]) (.it .seq (.cons (.call 7 (.cons (.var 0) .nil)) .nil)) (.lit (.bool true)) (.var 1))
def b_land_strings : S := (.ret (.op .tuple (.cons lc_land_strings_1 .nil)))
def b_lands : S := (.seq (.expr (.call 13 (.cons (.var 0) .nil))) (.ret (.call 14 (.cons (.var 0) .nil))))
def b__law_cell : S := (.seq (.ifs (.op .eq (.cons (.var 0) (.cons (.op .mkl .nil) .nil))) (.ret (.op .mul (.cons (.var 1) (.cons (.lit (.int 7919)) .nil)))) .skip) (.ret (.op .add (.cons (.op .item (.cons (.var 0) (.cons (.op .mod (.cons (.var 1) (.cons (.op .len (.cons (.var 0) .nil)) .nil))) .nil))) (.cons (.op .mul (.cons (.op .fdiv (.cons (.var 1) (.cons (.op .len (.cons (.var 0) .nil)) .nil))) (.cons (.lit (.int 104729)) .nil))) .nil)))))
def b__law_drawn : S := (.seq (.asg (.name 2) (.op .mod (.cons (.op .add (.cons (.op .mul (.cons (.var 0) (.cons (.lit (.int 6364136223846793005)) .nil))) (.cons (.op .mul (.cons (.op .add (.cons (.var 1) (.cons (.lit (.int 1)) .nil))) (.cons (.lit (.int 1442695040888963407)) .nil))) .nil))) (.cons (.lit (.int 340282366920938463463374607431768211507)) .nil)))) (.seq (.asg (.name 2) (.op .mod (.cons (.op .mul (.cons (.var 2) (.cons (.var 2) .nil))) (.cons (.lit (.int 340282366920938463463374607431768211297)) .nil)))) (.seq (.asg (.name 2) (.op .mul (.cons (.op .mul (.cons (.op .add (.cons (.op .mod (.cons (.var 2) (.cons (.lit (.int 18446744073709551557)) .nil))) (.cons (.lit (.int 1)) .nil))) (.cons (.op .add (.cons (.op .fdiv (.cons (.var 2) (.cons (.lit (.int 18446744073709551557)) .nil))) (.cons (.lit (.int 1)) .nil))) .nil))) (.cons (.var 2) .nil)))) (.ret (.op .mod (.cons (.var 2) (.cons (.lit (.int 340282366920938463463374607431768211507)) .nil)))))))
def b__law_roll : S := (.seq (.ifs (.op .ge (.cons (.oitem 0 (.lit (.int 0))) (.cons (.op .pow (.cons (.lit (.int 10)) (.cons (.lit (.int 18)) .nil))) .nil))) (.seq (.asg (.name 2) (.op .mod (.cons (.oitem 0 (.lit (.int 0))) (.cons (.var 1) .nil)))) (.seq (.store 0 (.lit (.int 0)) (.op .fdiv (.cons (.oitem 0 (.lit (.int 0))) (.cons (.var 1) .nil)))) (.ret (.var 2)))) .skip) (.seq (.store 0 (.lit (.int 1)) (.op .add (.cons (.oitem 0 (.lit (.int 1))) (.cons (.lit (.int 1)) .nil)))) (.ret (.op .mod (.cons (.op .fdiv (.cons (.call 17 (.cons (.oitem 0 (.lit (.int 0))) (.cons (.oitem 0 (.lit (.int 1))) .nil))) (.cons (.lit (.int 8)) .nil))) (.cons (.var 1) .nil))))))
abbrev ce__law_rounds_1 : E := (.op .mkl (.cons (.call 16 (.cons (.var 0) (.cons (.var 2) .nil))) (.cons (.lit (.int 0)) .nil)))
abbrev lc__law_rounds_1 : E := (.lc [2] (.name 2) (.it .range1 (.cons (.op .max2 (.cons (.lit (.int 1)) (.cons (.op .min2 (.cons (.var 1) (.cons (.op .len (.cons (.var 0) .nil)) .nil))) .nil))) .nil)) (.lit (.bool true)) ce__law_rounds_1)
def b__law_rounds : S := (.ret lc__law_rounds_1)
abbrev ce__law_ends_1 : E := (.op .mkt (.cons (.var 2) (.cons (.var 4) .nil)))
abbrev lc__law_ends_1 : E := (.lc [4] (.name 4) (.it .range1 (.cons (.op .len (.cons (.var 3) .nil)) .nil)) (.lit (.bool true)) ce__law_ends_1)
abbrev fb__law_ends_1 : S := (.asg (.name 1) (.op .add (.cons (.var 1) (.cons lc__law_ends_1 .nil))))
abbrev fo__law_ends_1 : S := (.for_ (.tup [2, 3]) (.it .enum (.cons (.var 0) .nil)) fb__law_ends_1)
def b__law_ends : S := (.seq (.asg (.name 1) (.op .mkl .nil)) (.seq fo__law_ends_1 (.ret (.var 1))))
abbrev ce__law_letters_1 : E := (.op .len (.cons (.var 1) .nil))
abbrev lc__law_letters_1 : E := (.lc [1] (.name 1) (.it .seq (.cons (.var 0) .nil)) (.lit (.bool true)) ce__law_letters_1)
def b__law_letters : S := (.ret (.slcH (.lit (dS [97, 98, 99, 100, 101, 102, 103, 104])) (.op .fdiv (.cons (.op .sum (.cons lc__law_letters_1 .nil)) (.cons (.lit (.int 2)) .nil)))))
abbrev cc__law_on_1 : E := (.and (.op .ne (.cons (.var 5) (.cons (.var 1) .nil))) (.op .eq (.cons (.op .item (.cons (.op .item (.cons (.var 0) (.cons (.op .item (.cons (.var 5) (.cons (.lit (.int 0)) .nil))) .nil))) (.cons (.op .item (.cons (.var 5) (.cons (.lit (.int 1)) .nil))) .nil))) (.cons (.var 2) .nil))))
abbrev lc__law_on_1 : E := (.lc [5] (.name 5) (.it .seq (.cons (.call 22 (.cons (.var 0) .nil)) .nil)) cc__law_on_1 (.var 5))
def b__law_on : S := (.seq (.asg (.name 2) (.op .item (.cons (.op .item (.cons (.var 0) (.cons (.op .item (.cons (.var 1) (.cons (.lit (.int 0)) .nil))) .nil))) (.cons (.op .item (.cons (.var 1) (.cons (.lit (.int 1)) .nil))) .nil)))) (.seq (.asg (.tup [3, 4]) (.op .item (.cons lc__law_on_1 (.cons (.lit (.int 0)) .nil)))) (.ret (.op .mkt (.cons (.var 3) (.cons (.op .mod (.cons (.op .add (.cons (.var 4) (.cons (.lit (.int 1)) .nil))) (.cons (.op .len (.cons (.op .item (.cons (.var 0) (.cons (.var 3) .nil))) .nil)) .nil))) .nil))))))
abbrev fb__law_walks_1 : S := (.ifs (.op .not (.cons (.dIn 2 (.var 3)) .nil)) (.seq (.dput 2 (.var 3) (.lit (.bool true))) (.seq (.append 4 (.var 3)) (.asg (.name 3) (.call 24 (.cons (.var 0) (.cons (.var 3) .nil)))))) .skip)
abbrev fo__law_walks_1 : S := (.for_ (.name 5) (.it .range1 (.cons (.lit (.int 16)) .nil)) fb__law_walks_1)
abbrev fb__law_walks_2 : S := (.ifs (.op .not (.cons (.dIn 2 (.var 3)) .nil)) (.seq (.asgM 4 1 (.op .mkl .nil)) (.seq fo__law_walks_1 (.append 1 (.var 4)))) .skip)
abbrev fo__law_walks_2 : S := (.for_ (.name 3) (.it .seq (.cons (.call 22 (.cons (.var 0) .nil)) .nil)) fb__law_walks_2)
def b__law_walks : S := (.seq (.par [(1, 1), (2, 2)] (.cons (.op .mkl .nil) (.cons (.lit (.dict [])) .nil))) (.seq fo__law_walks_2 (.ret (.var 1))))
def b__law_put : S := (.seq (.asg (.name 4) (.op .add (.cons (.op .add (.cons (.slcH (.op .item (.cons (.var 0) (.cons (.var 1) .nil))) (.var 2)) (.cons (.var 3) .nil))) (.cons (.slcL (.op .item (.cons (.var 0) (.cons (.var 1) .nil))) (.var 2)) .nil)))) (.ret (.op .add (.cons (.op .add (.cons (.slcH (.var 0) (.var 1)) (.cons (.op .mkt (.cons (.var 4) .nil)) .nil))) (.cons (.slcL (.var 0) (.op .add (.cons (.var 1) (.cons (.lit (.int 1)) .nil)))) .nil)))))
abbrev fb__law_any_map_1 : S := (.seq (.asg (.name 5) (.call 25 (.cons (.var 2) .nil))) (.seq (.asg (.name 5) (.op .item (.cons (.var 5) (.cons (.callIO 18 0 (.cons (.op .len (.cons (.var 5) .nil)) .nil)) .nil)))) (.seq (.asg (.name 6) (.op .item (.cons (.var 5) (.cons (.callIO 18 0 (.cons (.op .len (.cons (.var 5) .nil)) .nil)) .nil)))) (.ifs (.op .lt (.cons (.callIO 18 0 (.cons (.lit (.int 6)) .nil)) (.cons (.op .sub (.cons (.var 3) (.cons (.lit (.int 1)) .nil))) .nil))) (.asg (.name 2) (.op .add (.cons (.call 26 (.cons (.var 2) (.cons (.op .item (.cons (.var 6) (.cons (.lit (.int 0)) .nil))) (.cons (.op .item (.cons (.var 6) (.cons (.lit (.int 1)) .nil))) (.cons (.var 4) .nil))))) (.cons (.op .mkt (.cons (.var 4) .nil)) .nil)))) (.seq (.asg (.lst [7, 8]) (.op .sorted (.cons (.op .mkl (.cons (.var 6) (.cons (.op .item (.cons (.var 5) (.cons (.callIO 18 0 (.cons (.op .len (.cons (.var 5) .nil)) .nil)) .nil))) .nil))) .nil))) (.asg (.name 2) (.call 26 (.cons (.call 26 (.cons (.var 2) (.cons (.op .item (.cons (.var 8) (.cons (.lit (.int 0)) .nil))) (.cons (.op .item (.cons (.var 8) (.cons (.lit (.int 1)) .nil))) (.cons (.var 4) .nil))))) (.cons (.op .item (.cons (.var 7) (.cons (.lit (.int 0)) .nil))) (.cons (.op .item (.cons (.var 7) (.cons (.lit (.int 1)) .nil))) (.cons (.var 4) .nil)))))))))))
abbrev fo__law_any_map_1 : S := (.for_ (.name 4) (.it .seq (.cons (.slcH (.lit (dS [98, 99, 100, 101, 102, 103, 104])) (.callIO 18 0 (.cons (.var 1) .nil))) .nil)) fb__law_any_map_1)
def b__law_any_map : S := (.seq (.par [(2, 0), (3, 0)] (.cons (.op .item (.cons (.op .mkl (.cons (.op .mkt (.cons (.lit (dS [97])) (.cons (.lit (dS [97])) .nil))) (.cons (.op .mkt (.cons (.lit (dS [97, 97])) .nil)) .nil))) (.cons (.callIO 18 0 (.cons (.lit (.int 2)) .nil)) .nil))) (.cons (.op .add (.cons (.lit (.int 1)) (.cons (.callIO 18 0 (.cons (.lit (.int 6)) .nil)) .nil))) .nil))) (.seq fo__law_any_map_1 (.ret (.var 2))))
def b__law_is_drawing : S := (.seq (.asg (.name 1) (.meth .join (.lit (dS [])) (.cons (.var 0) .nil))) (.ret (.and (.chain .le .le (.lit (.int 2)) (.op .len (.cons (.var 1) .nil)) (.lit (.int 16))) (.op .eq (.cons (.op .sorted (.cons (.var 1) .nil)) (.cons (.op .sorted (.cons (.op .mul (.cons (.slcH (.lit (dS [97, 98, 99, 100, 101, 102, 103, 104])) (.op .fdiv (.cons (.op .len (.cons (.var 1) .nil)) (.cons (.lit (.int 2)) .nil)))) (.cons (.lit (.int 2)) .nil))) .nil)) .nil))))))
abbrev ce__law_is_joined_1 : E := (.op .item (.cons (.var 0) (.cons (.var 4) .nil)))
abbrev lc__law_is_joined_1 : E := (.lc [4] (.name 4) (.it .seq (.cons (.var 1) .nil)) (.lit (.bool true)) ce__law_is_joined_1)
abbrev ce__law_is_joined_2 : E := (.op .isin (.cons (.var 7) (.cons (.var 3) .nil)))
abbrev lc__law_is_joined_2 : E := (.lc [7] (.name 7) (.it .seq (.cons (.var 6) .nil)) (.lit (.bool true)) ce__law_is_joined_2)
abbrev cc__law_is_joined_1 : E := (.or (.op .isin (.cons (.var 5) (.cons (.var 1) .nil))) (.op .any (.cons lc__law_is_joined_2 .nil)))
abbrev lc__law_is_joined_3 : E := (.lc [5, 6] (.tup [5, 6]) (.it .enum (.cons (.var 0) .nil)) cc__law_is_joined_1 (.var 5))
abbrev fb__law_is_joined_1 : S := (.seq (.asg (.name 3) (.meth .join (.lit (dS [])) (.cons lc__law_is_joined_1 .nil))) (.asg (.name 1) lc__law_is_joined_3))
abbrev fo__law_is_joined_1 : S := (.for_ (.name 2) (.it .range1 (.cons (.op .len (.cons (.var 0) .nil)) .nil)) fb__law_is_joined_1)
def b__law_is_joined : S := (.seq (.asg (.name 1) (.op .mkl (.cons (.lit (.int 0)) .nil))) (.seq fo__law_is_joined_1 (.ret (.op .eq (.cons (.op .len (.cons (.var 1) .nil)) (.cons (.op .len (.cons (.var 0) .nil)) .nil))))))
abbrev ce__law_turned_1 : E := (.op .add (.cons (.slcL (.var 0) (.var 1)) (.cons (.slcH (.var 0) (.var 1)) .nil)))
abbrev lc__law_turned_1 : E := (.lc [1] (.name 1) (.it .range1 (.cons (.op .len (.cons (.var 0) .nil)) .nil)) (.lit (.bool true)) ce__law_turned_1)
def b__law_turned : S := (.ret (.op .min1 (.cons lc__law_turned_1 .nil)))
abbrev ce__law_lands_1 : E := (.op .item (.cons (.op .item (.cons (.var 0) (.cons (.var 3) .nil))) (.cons (.var 4) .nil)))
abbrev lc__law_lands_1 : E := (.lc [3, 4] (.tup [3, 4]) (.it .seq (.cons (.var 2) .nil)) (.lit (.bool true)) ce__law_lands_1)
abbrev fb__law_lands_1 : S := (.append 1 (.call 30 (.cons (.meth .join (.lit (dS [])) (.cons lc__law_lands_1 .nil)) .nil)))
abbrev fo__law_lands_1 : S := (.for_ (.name 2) (.it .seq (.cons (.call 25 (.cons (.var 0) .nil)) .nil)) fb__law_lands_1)
def b__law_lands : S := (.seq (.asgM 1 1 (.op .mkl .nil)) (.seq fo__law_lands_1 (.ret (.op .sorted (.cons (.var 1) .nil)))))
abbrev fb__law_copy_1 : S := (.seq (.asg (.name 5) (.callIO 18 0 (.cons (.peek (.op .len (.cons (.var 2) .nil))) .nil))) (.sto2 2 4 5 (.op .mkt (.cons (.oitem 2 (.var 5)) (.cons (.oitem 2 (.var 4)) .nil)))))
abbrev fo__law_copy_1 : S := (.for_ (.name 4) (.it .range1 (.cons (.peek (.op .len (.cons (.var 2) .nil))) .nil)) fb__law_copy_1)
abbrev ce__law_copy_1 : E := (.oitem 2 (.meth .sindex (.lit (dS [97, 98, 99, 100, 101, 102, 103, 104])) (.cons (.var 8) .nil)))
abbrev lc__law_copy_1 : E := (.lc [8] (.name 8) (.it .seq (.cons (.var 6) .nil)) (.lit (.bool true)) ce__law_copy_1)
abbrev fb__law_copy_2 : S := (.seq (.asg (.name 7) (.meth .join (.lit (dS [])) (.cons lc__law_copy_1 .nil))) (.seq (.asg (.name 4) (.callIO 18 0 (.cons (.op .len (.cons (.var 7) .nil)) .nil))) (.append 3 (.op .add (.cons (.slcL (.var 7) (.var 4)) (.cons (.slcH (.var 7) (.var 4)) .nil))))))
abbrev fo__law_copy_2 : S := (.for_ (.name 6) (.it .seq (.cons (.var 1) .nil)) fb__law_copy_2)
def b__law_copy : S := (.seq (.par [(2, 1), (3, 1)] (.cons (.op .list (.cons (.call 23 (.cons (.var 1) .nil)) .nil)) (.cons (.op .mkl .nil) .nil))) (.seq fo__law_copy_1 (.seq fo__law_copy_2 (.seq (.asg (.name 4) (.callIO 18 0 (.cons (.peek (.op .len (.cons (.var 3) .nil))) .nil))) (.ret (.op .tuple (.cons (.op .add (.cons (.slcL (.var 3) (.var 4)) (.cons (.slcH (.var 3) (.var 4)) .nil))) .nil)))))))
def b_partner : S := (.seq (.expr (.call 13 (.cons (.var 0) .nil))) (.ret (.call 14 (.cons (.var 0) .nil))))
abbrev ce_turned_from_1 : E := (.op .mkt (.cons (.var 2) (.cons (.op .mod (.cons (.op .add (.cons (.var 3) (.cons (.var 5) .nil))) (.cons (.var 4) .nil))) .nil)))
abbrev lc_turned_from_1 : E := (.lc [5] (.name 5) (.it .range1 (.cons (.var 4) .nil)) (.lit (.bool true)) ce_turned_from_1)
def b_turned_from : S := (.seq (.asg (.tup [2, 3]) (.var 1)) (.seq (.asg (.name 4) (.op .len (.cons (.op .item (.cons (.var 0) (.cons (.var 2) .nil))) .nil))) (.ret lc_turned_from_1)))
abbrev fb_next_point_1 : S := (.seq (.asg (.name 5) (.call 3 (.cons (.var 0) (.cons (.var 4) .nil)))) (.ifs (.op .notin (.cons (.op .item (.cons (.var 5) (.cons (.lit (.int 0)) .nil))) (.cons (.var 2) .nil))) (.ret (.var 5)) .skip))
abbrev fo_next_point_1 : S := (.for_ (.name 4) (.it .seq (.cons (.var 3) .nil)) fb_next_point_1)
abbrev fo_next_point_2 : S := (.for_ (.name 3) (.it .seq (.cons (.var 1) .nil)) fo_next_point_1)
def b_next_point : S := (.seq fo_next_point_2 (.ret (.lit .none)))
def b_renaming : S := (.seq (.expr (.call 13 (.cons (.var 0) .nil))) (.seq (.expr (.call 13 (.cons (.var 1) .nil))) (.seq (.asg (.name 2) (.call 37 (.cons (.var 0) (.cons (.var 1) .nil)))) (.ret (.ife (.op .ne (.cons (.var 2) (.cons (.op .mkl .nil) .nil))) (.op .item (.cons (.var 2) (.cons (.lit (.int 0)) .nil))) (.lit .none))))))
def b_are_same : S := (.ret (.op .notN (.cons (.call 38 (.cons (.var 0) (.cons (.var 1) .nil))) .nil)))
abbrev ce_least_form_1 : E := (.op .item (.cons (.call 36 (.cons (.var 0) (.cons (.var 1) .nil))) (.cons (.lit (.int 0)) .nil)))
abbrev lc_least_form_1 : E := (.lc [1] (.name 1) (.it .seq (.cons (.call 1 (.cons (.var 0) .nil)) .nil)) (.lit (.bool true)) ce_least_form_1)
def b_least_form : S := (.seq (.expr (.call 13 (.cons (.var 0) .nil))) (.ret (.op .min1 (.cons lc_least_form_1 .nil))))
def b_need_border : S := (.ifs (.or (.op .not (.cons (.op .isstr (.cons (.var 1) .nil)) .nil)) (.or (.op .ne (.cons (.op .len (.cons (.var 1) .nil)) (.cons (.lit (.int 1)) .nil))) (.op .notin (.cons (.var 1) (.cons (.call 11 (.cons (.var 0) .nil)) .nil))))) (.raise 1) .skip)
def b_lands_of : S := (.ret (.call 10 (.cons (.call 14 (.cons (.var 0) .nil)) (.cons (.var 1) .nil))))
def b_between : S := (.seq (.expr (.call 13 (.cons (.var 0) .nil))) (.seq (.expr (.call 42 (.cons (.var 0) (.cons (.var 1) .nil)))) (.ret (.call 43 (.cons (.var 0) (.cons (.var 1) .nil))))))
def b_ends_of : S := (.seq (.expr (.call 13 (.cons (.var 0) .nil))) (.seq (.expr (.call 42 (.cons (.var 0) (.cons (.var 1) .nil)))) (.ret (.call 10 (.cons (.var 0) (.cons (.var 1) .nil))))))
abbrev ce_subsets_1 : E := (.op .add (.cons (.var 3) (.cons (.var 2) .nil)))
abbrev lc_subsets_1 : E := (.lc [3] (.name 3) (.it .seq (.cons (.var 1) .nil)) (.lit (.bool true)) ce_subsets_1)
abbrev fb_subsets_1 : S := (.asg (.name 1) (.op .add (.cons (.var 1) (.cons lc_subsets_1 .nil))))
abbrev fo_subsets_1 : S := (.for_ (.name 2) (.it .seq (.cons (.var 0) .nil)) fb_subsets_1)
def b_subsets : S := (.seq (.asg (.name 1) (.op .mkl (.cons (.lit (dS [])) .nil))) (.seq fo_subsets_1 (.ret (.var 1))))
def b_joins : S := (.ret (.op .eq (.cons (.op .len (.cons (.call 8 (.cons (.var 1) (.cons (.lit (.int 0)) .nil))) .nil)) (.cons (.var 0) .nil))))
abbrev cc_is_least_cut_1 : E := (.op .notin (.cons (.var 5) (.cons (.var 3) .nil)))
abbrev ce_is_least_cut_1 : E := (.op .item (.cons (.var 1) (.cons (.var 5) .nil)))
abbrev lc_is_least_cut_1 : E := (.lc [5] (.name 5) (.it .seq (.cons (.var 2) .nil)) cc_is_least_cut_1 ce_is_least_cut_1)
abbrev ce_is_least_cut_2 : E := (.call 47 (.cons (.var 0) (.cons (.op .add (.cons (.var 4) (.cons (.op .mkl (.cons (.op .item (.cons (.var 1) (.cons (.var 5) .nil))) .nil)) .nil))) .nil)))
abbrev lc_is_least_cut_2 : E := (.lc [5] (.name 5) (.it .seq (.cons (.var 3) .nil)) (.lit (.bool true)) ce_is_least_cut_2)
def b_is_least_cut : S := (.seq (.asg (.name 4) lc_is_least_cut_1) (.ret (.and (.op .not (.cons (.call 47 (.cons (.var 0) (.cons (.var 4) .nil))) .nil)) (.op .all (.cons lc_is_least_cut_2 .nil)))))
abbrev cc_least_cuts_1 : E := (.call 49 (.cons (.var 3) (.cons (.var 1) (.cons (.var 2) (.cons (.var 4) .nil)))))
abbrev lc_least_cuts_1 : E := (.lc [4] (.name 4) (.it .seq (.cons (.call 46 (.cons (.var 2) .nil)) .nil)) cc_least_cuts_1 (.var 4))
def b_least_cuts : S := (.seq (.expr (.call 13 (.cons (.var 0) .nil))) (.seq (.asg (.tup [1, 2, 3]) (.op .mkt (.cons (.call 48 (.cons (.var 0) .nil)) (.cons (.call 11 (.cons (.var 0) .nil)) (.cons (.op .len (.cons (.var 0) .nil)) .nil))))) (.ret (.op .tuple (.cons (.op .sorted (.cons lc_least_cuts_1 .nil)) .nil)))))
abbrev ce__law_leads_1 : E := (.op .item (.cons (.var 2) (.cons (.meth .sindex (.lit (dS [97, 98, 99, 100, 101, 102, 103, 104])) (.cons (.var 4) .nil)) .nil)))
abbrev lc__law_leads_1 : E := (.lc [4] (.name 4) (.it .seq (.cons (.var 5) .nil)) (.lit (.bool true)) ce__law_leads_1)
abbrev ce__law_leads_2 : E := (.call 30 (.cons (.meth .join (.lit (dS [])) (.cons lc__law_leads_1 .nil)) .nil))
abbrev lc__law_leads_2 : E := (.lc [5] (.name 5) (.it .seq (.cons (.var 0) .nil)) (.lit (.bool true)) ce__law_leads_2)
abbrev ce__law_leads_3 : E := (.call 30 (.cons (.var 5) .nil))
abbrev lc__law_leads_3 : E := (.lc [5] (.name 5) (.it .seq (.cons (.var 1) .nil)) (.lit (.bool true)) ce__law_leads_3)
def b__law_leads : S := (.seq (.ifs (.or (.op .ne (.cons (.op .sorted (.cons (.var 2) .nil)) (.cons (.op .sorted (.cons (.call 23 (.cons (.var 0) .nil)) .nil)) .nil))) (.op .ne (.cons (.op .len (.cons (.var 0) .nil)) (.cons (.op .len (.cons (.var 1) .nil)) .nil)))) (.ret (.lit (.bool false))) .skip) (.seq (.asg (.name 3) lc__law_leads_2) (.ret (.op .eq (.cons (.op .sorted (.cons (.var 3) .nil)) (.cons (.op .sorted (.cons lc__law_leads_3 .nil)) .nil))))))
abbrev cc__law_orders_1 : E := (.op .notin (.cons (.var 5) (.cons (.var 4) .nil)))
abbrev ce__law_orders_1 : E := (.op .add (.cons (.var 4) (.cons (.var 5) .nil)))
abbrev lc__law_orders_1 : E := (.lc [5] (.name 5) (.it .seq (.cons (.var 0) .nil)) cc__law_orders_1 ce__law_orders_1)
abbrev fb__law_orders_1 : S := (.asg (.name 3) (.op .add (.cons (.var 3) (.cons lc__law_orders_1 .nil))))
abbrev fo__law_orders_1 : S := (.for_ (.name 4) (.it .seq (.cons (.var 1) .nil)) fb__law_orders_1)
abbrev fb__law_orders_2 : S := (.seq (.asg (.name 3) (.op .mkl .nil)) (.seq fo__law_orders_1 (.asg (.name 1) (.var 3))))
abbrev fo__law_orders_2 : S := (.for_ (.name 2) (.it .seq (.cons (.var 0) .nil)) fb__law_orders_2)
def b__law_orders : S := (.seq (.asg (.name 1) (.op .mkl (.cons (.lit (dS [])) .nil))) (.seq fo__law_orders_2 (.ret (.var 1))))
def b_count_symmetries : S := (.seq (.expr (.call 13 (.cons (.var 0) .nil))) (.ret (.op .len (.cons (.call 37 (.cons (.var 0) (.cons (.var 0) .nil))) .nil))))
abbrev lc_neighbours_before_1 : E := (.lc [3] (.name 3) (.it .seq (.cons (.var 1) .nil)) (.lit (.bool true)) (.op .mkl .nil))
abbrev fb_neighbours_before_1 : S := (.ifs (.op .ne (.cons (.var 4) (.cons (.var 5) .nil))) (.store 2 (.var 5) (.op .add (.cons (.oitem 2 (.var 5)) (.cons (.op .mkl (.cons (.var 4) .nil)) .nil)))) .skip)
abbrev fo_neighbours_before_1 : S := (.for_ (.tup [4, 5]) (.it .seq (.cons (.call 9 (.cons (.var 1) (.cons (.call 11 (.cons (.var 0) .nil)) .nil))) .nil)) fb_neighbours_before_1)
def b_neighbours_before : S := (.seq (.asg (.name 1) (.call 14 (.cons (.var 0) .nil))) (.seq (.asgM 2 1 lc_neighbours_before_1) (.seq fo_neighbours_before_1 (.ret (.var 2)))))
abbrev ce_coloured_1 : E := (.op .eq (.cons (.op .item (.cons (.var 2) (.cons (.var 5) .nil))) (.cons (.var 4) .nil)))
abbrev lc_coloured_1 : E := (.lc [5] (.name 5) (.it .seq (.cons (.op .item (.cons (.var 0) (.cons (.var 3) .nil))) .nil)) (.lit (.bool true)) ce_coloured_1)
abbrev fb_coloured_1 : S := (.ifs (.op .not (.cons (.op .any (.cons lc_coloured_1 .nil)) .nil)) (.seq (.asg (.name 6) (.call 56 (.cons (.var 0) (.cons (.var 1) (.cons (.op .add (.cons (.var 2) (.cons (.op .mkt (.cons (.var 4) .nil)) .nil))) .nil))))) (.ifs (.op .notN (.cons (.var 6) .nil)) (.ret (.var 6)) .skip)) .skip)
abbrev fo_coloured_1 : S := (.for_ (.name 4) (.it .range1 (.cons (.var 1) .nil)) fb_coloured_1)
def b_coloured : S := (.seq (.asg (.name 3) (.op .len (.cons (.var 2) .nil))) (.seq (.ifs (.op .eq (.cons (.var 3) (.cons (.op .len (.cons (.var 0) .nil)) .nil))) (.ret (.var 2)) .skip) (.seq fo_coloured_1 (.ret (.lit .none)))))
abbrev cc_fewest_colours_1 : E := (.op .notN (.cons (.call 56 (.cons (.var 1) (.cons (.var 2) (.cons (.op .mkt .nil) .nil)))) .nil))
abbrev lc_fewest_colours_1 : E := (.lc [2] (.name 2) (.it .range2 (.cons (.lit (.int 1)) (.cons (.lit (.int 6)) .nil))) cc_fewest_colours_1 (.var 2))
def b_fewest_colours : S := (.seq (.expr (.call 13 (.cons (.var 0) .nil))) (.seq (.asg (.name 1) (.call 55 (.cons (.var 0) .nil))) (.ret (.op .item (.cons lc_fewest_colours_1 (.cons (.lit (.int 0)) .nil))))))
abbrev ce_is_joining_tree_1 : E := (.op .item (.cons (.var 1) (.cons (.var 3) .nil)))
abbrev lc_is_joining_tree_1 : E := (.lc [3] (.name 3) (.it .seq (.cons (.var 2) .nil)) (.lit (.bool true)) ce_is_joining_tree_1)
def b_is_joining_tree : S := (.ret (.and (.op .eq (.cons (.op .len (.cons (.var 2) .nil)) (.cons (.op .sub (.cons (.var 0) (.cons (.lit (.int 1)) .nil))) .nil))) (.call 47 (.cons (.var 0) (.cons lc_is_joining_tree_1 .nil)))))
abbrev cc_trees_1 : E := (.call 58 (.cons (.op .len (.cons (.var 0) .nil)) (.cons (.var 1) (.cons (.var 2) .nil))))
abbrev lc_trees_1 : E := (.lc [2] (.name 2) (.it .seq (.cons (.call 46 (.cons (.call 11 (.cons (.var 0) .nil)) .nil)) .nil)) cc_trees_1 (.var 2))
def b_trees : S := (.seq (.expr (.call 13 (.cons (.var 0) .nil))) (.seq (.asg (.name 1) (.call 48 (.cons (.var 0) .nil))) (.ret (.op .tuple (.cons (.op .sorted (.cons lc_trees_1 .nil)) .nil)))))
abbrev ce_is_round_1 : E := (.op .item (.cons (.var 0) (.cons (.var 4) .nil)))
abbrev lc_is_round_1 : E := (.lc [4] (.name 4) (.it .seq (.cons (.var 1) .nil)) (.lit (.bool true)) ce_is_round_1)
abbrev fb_is_round_1 : S := (.asg (.name 3) (.op .add (.cons (.var 3) (.cons (.op .list (.cons (.var 5) .nil)) .nil))))
abbrev fo_is_round_1 : S := (.for_ (.name 5) (.it .seq (.cons (.var 2) .nil)) fb_is_round_1)
abbrev ce_is_round_2 : E := (.op .eq (.cons (.meth .count (.var 3) (.cons (.var 6) .nil)) (.cons (.lit (.int 2)) .nil)))
abbrev lc_is_round_2 : E := (.lc [6] (.name 6) (.it .seq (.cons (.var 3) .nil)) (.lit (.bool true)) ce_is_round_2)
def b_is_round : S := (.seq (.asg (.tup [2, 3]) (.op .mkt (.cons lc_is_round_1 (.cons (.op .mkl .nil) .nil)))) (.seq fo_is_round_1 (.seq (.ifs (.or (.op .eq (.cons (.var 1) (.cons (.lit (dS [])) .nil))) (.op .not (.cons (.op .all (.cons lc_is_round_2 .nil)) .nil))) (.ret (.lit (.bool false))) .skip) (.ret (.op .eq (.cons (.op .len (.cons (.call 8 (.cons (.var 2) (.cons (.op .item (.cons (.var 3) (.cons (.lit (.int 0)) .nil))) .nil))) .nil)) (.cons (.op .len (.cons (.var 1) .nil)) .nil)))))))
abbrev cc_round_ways_1 : E := (.call 60 (.cons (.var 1) (.cons (.var 2) .nil)))
abbrev lc_round_ways_1 : E := (.lc [2] (.name 2) (.it .seq (.cons (.call 46 (.cons (.call 11 (.cons (.var 0) .nil)) .nil)) .nil)) cc_round_ways_1 (.var 2))
def b_round_ways : S := (.seq (.expr (.call 13 (.cons (.var 0) .nil))) (.seq (.asg (.name 1) (.call 48 (.cons (.var 0) .nil))) (.ret (.op .tuple (.cons (.op .sorted (.cons lc_round_ways_1 .nil)) .nil)))))
def b_is_whole : S := (.ret (.and (.op .isint (.cons (.var 0) .nil)) (.and (.op .not (.cons (.op .isbool (.cons (.var 0) .nil)) .nil)) (.chain .le .le (.var 1) (.var 0) (.var 2)))))
def b_need_count : S := (.ifs (.op .not (.cons (.call 62 (.cons (.var 0) (.cons (.lit (.int 1)) (.cons (.lit (.int 5)) .nil)))) .nil)) (.raise 5) .skip)
abbrev ce_is_colouring_1 : E := (.call 62 (.cons (.var 4) (.cons (.lit (.int 0)) (.cons (.op .sub (.cons (.var 1) (.cons (.lit (.int 1)) .nil))) .nil))))
abbrev lc_is_colouring_1 : E := (.lc [4] (.name 4) (.it .seq (.cons (.var 2) .nil)) (.lit (.bool true)) ce_is_colouring_1)
abbrev ce_is_colouring_2 : E := (.op .eq (.cons (.op .item (.cons (.var 2) (.cons (.var 5) .nil))) (.cons (.op .item (.cons (.var 2) (.cons (.var 6) .nil))) .nil)))
abbrev lc_is_colouring_2 : E := (.lc [5] (.name 5) (.it .seq (.cons (.var 7) .nil)) (.lit (.bool true)) ce_is_colouring_2)
abbrev ce_is_colouring_3 : E := (.op .not (.cons (.op .any (.cons lc_is_colouring_2 .nil)) .nil))
abbrev lc_is_colouring_3 : E := (.lc [6, 7] (.tup [6, 7]) (.it .enum (.cons (.var 3) .nil)) (.lit (.bool true)) ce_is_colouring_3)
def b_is_colouring : S := (.seq (.expr (.call 13 (.cons (.var 0) .nil))) (.seq (.expr (.call 63 (.cons (.var 1) .nil))) (.seq (.asg (.name 3) (.call 55 (.cons (.var 0) .nil))) (.seq (.ifs (.or (.op .not (.cons (.op .istup (.cons (.var 2) .nil)) .nil)) (.op .ne (.cons (.op .len (.cons (.var 2) .nil)) (.cons (.op .len (.cons (.var 3) .nil)) .nil)))) (.ret (.lit (.bool false))) .skip) (.seq (.ifs (.op .not (.cons (.op .all (.cons lc_is_colouring_1 .nil)) .nil)) (.ret (.lit (.bool false))) .skip) (.ret (.op .all (.cons lc_is_colouring_3 .nil))))))))
def b_colouring : S := (.seq (.expr (.call 13 (.cons (.var 0) .nil))) (.seq (.expr (.call 63 (.cons (.var 1) .nil))) (.ret (.call 56 (.cons (.call 55 (.cons (.var 0) .nil)) (.cons (.var 1) (.cons (.op .mkt .nil) .nil)))))))
abbrev ce__law_good_1 : E := (.chain .le .lt (.lit (.int 0)) (.var 4) (.var 1))
abbrev lc__law_good_1 : E := (.lc [4] (.name 4) (.it .seq (.cons (.var 2) .nil)) (.lit (.bool true)) ce__law_good_1)
abbrev cc__law_good_1 : E := (.op .isin (.cons (.var 5) (.cons (.var 8) .nil)))
abbrev lc__law_good_2 : E := (.lc [7, 8] (.tup [7, 8]) (.it .enum (.cons (.var 3) .nil)) cc__law_good_1 (.var 7))
abbrev fb__law_good_1 : S := (.seq (.asg (.name 6) lc__law_good_2) (.ifs (.and (.op .eq (.cons (.op .len (.cons (.var 6) .nil)) (.cons (.lit (.int 2)) .nil))) (.op .eq (.cons (.op .item (.cons (.var 2) (.cons (.op .item (.cons (.var 6) (.cons (.lit (.int 0)) .nil))) .nil))) (.cons (.op .item (.cons (.var 2) (.cons (.op .item (.cons (.var 6) (.cons (.lit (.int 1)) .nil))) .nil))) .nil)))) (.ret (.lit (.bool false))) .skip))
abbrev fo__law_good_1 : S := (.for_ (.name 5) (.it .seq (.cons (.call 23 (.cons (.var 0) .nil)) .nil)) fb__law_good_1)
def b__law_good : S := (.seq (.asg (.name 3) (.call 31 (.cons (.var 0) .nil))) (.seq (.ifs (.or (.op .ne (.cons (.op .len (.cons (.var 2) .nil)) (.cons (.op .len (.cons (.var 3) .nil)) .nil))) (.op .not (.cons (.op .all (.cons lc__law_good_1 .nil)) .nil))) (.ret (.lit (.bool false))) .skip) (.seq fo__law_good_1 (.ret (.lit (.bool true))))))
abbrev fb__law_near_1 : S := (.seq (.asg (.tup [3, 4]) (.call 44 (.cons (.var 0) (.cons (.var 2) .nil)))) (.ifs (.op .ne (.cons (.var 3) (.cons (.var 4) .nil))) (.append 1 (.op .mkt (.cons (.var 3) (.cons (.var 4) .nil)))) .skip))
abbrev fo__law_near_1 : S := (.for_ (.name 2) (.it .seq (.cons (.call 23 (.cons (.var 0) .nil)) .nil)) fb__law_near_1)
def b__law_near : S := (.seq (.asgM 1 1 (.op .mkl .nil)) (.seq fo__law_near_1 (.ret (.var 1))))
abbrev cc__law_first_1 : E := (.op .eq (.cons (.var 9) (.cons (.var 4) .nil)))
abbrev ce__law_first_1 : E := (.op .item (.cons (.var 6) (.cons (.var 8) .nil)))
abbrev lc__law_first_1 : E := (.lc [8, 9] (.tup [8, 9]) (.it .seq (.cons (.var 0) .nil)) cc__law_first_1 ce__law_first_1)
abbrev cc__law_first_2 : E := (.op .notin (.cons (.var 10) (.cons (.var 7) .nil)))
abbrev ce__law_first_2 : E := (.op .add (.cons (.var 6) (.cons (.op .mkt (.cons (.var 10) .nil)) .nil)))
abbrev lc__law_first_2 : E := (.lc [10] (.name 10) (.it .range1 (.cons (.var 2) .nil)) cc__law_first_2 ce__law_first_2)
abbrev fb__law_first_1 : S := (.seq (.asg (.name 7) lc__law_first_1) (.asg (.name 5) (.op .add (.cons (.var 5) (.cons lc__law_first_2 .nil)))))
abbrev fo__law_first_1 : S := (.for_ (.name 6) (.it .seq (.cons (.var 3) .nil)) fb__law_first_1)
abbrev fb__law_first_2 : S := (.seq (.asg (.name 5) (.op .mkl .nil)) (.seq fo__law_first_1 (.asg (.name 3) (.var 5))))
abbrev fo__law_first_2 : S := (.for_ (.name 4) (.it .range1 (.cons (.var 1) .nil)) fb__law_first_2)
def b__law_first : S := (.seq (.asg (.name 3) (.op .mkl (.cons (.op .mkt .nil) .nil))) (.seq fo__law_first_2 (.ret (.ife (.op .ne (.cons (.var 3) (.cons (.op .mkl .nil) .nil))) (.op .item (.cons (.var 3) (.cons (.lit (.int 0)) .nil))) (.lit .none)))))
def b_without : S := (.seq (.expr (.call 13 (.cons (.var 0) .nil))) (.seq (.expr (.call 42 (.cons (.var 0) (.cons (.var 1) .nil)))) (.ret (.call 72 (.cons (.var 0) (.cons (.var 1) .nil))))))
abbrev fb__law_count_1 : S := (.seq (.asg (.tup [6, 7]) (.call 44 (.cons (.var 0) (.cons (.var 5) .nil)))) (.ifs (.op .ne (.cons (.var 6) (.cons (.var 7) .nil))) (.append 3 (.op .mkt (.cons (.var 6) (.cons (.var 7) .nil)))) .skip))
abbrev fo__law_count_1 : S := (.for_ (.name 5) (.it .seq (.cons (.call 23 (.cons (.var 0) .nil)) .nil)) fb__law_count_1)
abbrev ce__law_count_1 : E := (.op .add (.cons (.var 6) (.cons (.op .mkt (.cons (.var 11) .nil)) .nil)))
abbrev lc__law_count_1 : E := (.lc [11] (.name 11) (.it .range1 (.cons (.var 1) .nil)) (.lit (.bool true)) ce__law_count_1)
abbrev fb__law_count_2 : S := (.asg (.name 10) (.op .add (.cons (.var 10) (.cons lc__law_count_1 .nil))))
abbrev fo__law_count_2 : S := (.for_ (.name 6) (.it .seq (.cons (.var 8) .nil)) fb__law_count_2)
abbrev fb__law_count_3 : S := (.seq (.asg (.name 10) (.op .mkl .nil)) (.seq fo__law_count_2 (.asg (.name 8) (.var 10))))
abbrev fo__law_count_3 : S := (.for_ (.name 9) (.it .range1 (.cons (.var 2) .nil)) fb__law_count_3)
abbrev ce__law_count_2 : E := (.op .ne (.cons (.op .item (.cons (.var 12) (.cons (.var 6) .nil))) (.cons (.op .item (.cons (.var 12) (.cons (.var 7) .nil))) .nil)))
abbrev lc__law_count_2 : E := (.lc [6, 7] (.tup [6, 7]) (.it .seq (.cons (.var 3) .nil)) (.lit (.bool true)) ce__law_count_2)
abbrev fb__law_count_4 : S := (.asg (.name 4) (.op .add (.cons (.var 4) (.cons (.op .int (.cons (.op .all (.cons lc__law_count_2 .nil)) .nil)) .nil))))
abbrev fo__law_count_4 : S := (.for_ (.name 12) (.it .seq (.cons (.var 8) .nil)) fb__law_count_4)
def b__law_count : S := (.seq (.par [(2, 0), (3, 1), (4, 0)] (.cons (.op .len (.cons (.call 15 (.cons (.var 0) .nil)) .nil)) (.cons (.op .mkl .nil) (.cons (.lit (.int 0)) .nil)))) (.seq fo__law_count_1 (.seq (.asg (.name 8) (.op .mkl (.cons (.op .mkt .nil) .nil))) (.seq fo__law_count_3 (.seq fo__law_count_4 (.ret (.var 4)))))))
def b_is_tree : S := (.seq (.expr (.call 13 (.cons (.var 0) .nil))) (.seq (.ifs (.or (.op .not (.cons (.op .isstr (.cons (.var 1) .nil)) .nil)) (.op .notin (.cons (.var 1) (.cons (.call 46 (.cons (.call 11 (.cons (.var 0) .nil)) .nil)) .nil)))) (.ret (.lit (.bool false))) .skip) (.ret (.call 58 (.cons (.op .len (.cons (.var 0) .nil)) (.cons (.call 48 (.cons (.var 0) .nil)) (.cons (.var 1) .nil)))))))
abbrev ce__law_subsets_1 : E := (.op .add (.cons (.var 3) (.cons (.var 2) .nil)))
abbrev lc__law_subsets_1 : E := (.lc [3] (.name 3) (.it .seq (.cons (.var 1) .nil)) (.lit (.bool true)) ce__law_subsets_1)
abbrev fb__law_subsets_1 : S := (.asg (.name 1) (.op .add (.cons (.var 1) (.cons lc__law_subsets_1 .nil))))
abbrev fo__law_subsets_1 : S := (.for_ (.name 2) (.it .seq (.cons (.var 0) .nil)) fb__law_subsets_1)
def b__law_subsets : S := (.seq (.asg (.name 1) (.op .mkl (.cons (.lit (dS [])) .nil))) (.seq fo__law_subsets_1 (.ret (.var 1))))
abbrev ce__law_is_tree_1 : E := (.op .isin (.cons (.var 5) (.cons (.op .item (.cons (.var 0) (.cons (.var 6) .nil))) .nil)))
abbrev lc__law_is_tree_1 : E := (.lc [6] (.name 6) (.it .seq (.cons (.var 2) .nil)) (.lit (.bool true)) ce__law_is_tree_1)
abbrev cc__law_is_tree_1 : E := (.op .any (.cons lc__law_is_tree_1 .nil))
abbrev lc__law_is_tree_2 : E := (.lc [5] (.name 5) (.it .seq (.cons (.var 1) .nil)) cc__law_is_tree_1 (.var 5))
abbrev ce__law_is_tree_2 : E := (.op .isin (.cons (.var 5) (.cons (.var 8) .nil)))
abbrev lc__law_is_tree_3 : E := (.lc [5] (.name 5) (.it .seq (.cons (.var 4) .nil)) (.lit (.bool true)) ce__law_is_tree_2)
abbrev cc__law_is_tree_2 : E := (.or (.op .isin (.cons (.var 7) (.cons (.var 2) .nil))) (.op .any (.cons lc__law_is_tree_3 .nil)))
abbrev lc__law_is_tree_4 : E := (.lc [7, 8] (.tup [7, 8]) (.it .enum (.cons (.var 0) .nil)) cc__law_is_tree_2 (.var 7))
abbrev fb__law_is_tree_1 : S := (.seq (.asg (.name 4) lc__law_is_tree_2) (.asg (.name 2) lc__law_is_tree_4))
abbrev fo__law_is_tree_1 : S := (.for_ (.name 3) (.it .seq (.cons (.var 0) .nil)) fb__law_is_tree_1)
def b__law_is_tree : S := (.seq (.ifs (.op .ne (.cons (.op .len (.cons (.var 1) .nil)) (.cons (.op .sub (.cons (.op .len (.cons (.var 0) .nil)) (.cons (.lit (.int 1)) .nil))) .nil))) (.ret (.lit (.bool false))) .skip) (.seq (.asg (.name 2) (.op .mkl (.cons (.lit (.int 0)) .nil))) (.seq fo__law_is_tree_1 (.ret (.op .eq (.cons (.op .len (.cons (.var 2) .nil)) (.cons (.op .len (.cons (.var 0) .nil)) .nil)))))))
abbrev fb__law_ends_at_1 : S := (.asg (.name 2) (.op .add (.cons (.var 2) (.cons (.op .mul (.cons (.op .mkl (.cons (.var 3) .nil)) (.cons (.meth .count (.var 4) (.cons (.var 1) .nil)) .nil))) .nil))))
abbrev fo__law_ends_at_1 : S := (.for_ (.tup [3, 4]) (.it .enum (.cons (.var 0) .nil)) fb__law_ends_at_1)
def b__law_ends_at : S := (.seq (.asg (.name 2) (.op .mkl .nil)) (.seq fo__law_ends_at_1 (.ret (.var 2))))
abbrev ce__law_reached_1 : E := (.op .item (.cons (.var 0) (.cons (.var 7) .nil)))
abbrev lc__law_reached_1 : E := (.lc [7] (.name 7) (.it .seq (.cons (.var 3) .nil)) (.lit (.bool true)) ce__law_reached_1)
abbrev cc__law_reached_1 : E := (.op .notin (.cons (.var 6) (.cons (.var 2) .nil)))
abbrev lc__law_reached_2 : E := (.lc [6] (.name 6) (.it .seq (.cons (.meth .join (.lit (dS [])) (.cons lc__law_reached_1 .nil)) .nil)) cc__law_reached_1 (.var 6))
abbrev ce__law_reached_2 : E := (.op .isin (.cons (.var 6) (.cons (.var 8) .nil)))
abbrev lc__law_reached_3 : E := (.lc [6] (.name 6) (.it .seq (.cons (.var 5) .nil)) (.lit (.bool true)) ce__law_reached_2)
abbrev cc__law_reached_2 : E := (.or (.op .isin (.cons (.var 7) (.cons (.var 3) .nil))) (.op .any (.cons lc__law_reached_3 .nil)))
abbrev lc__law_reached_4 : E := (.lc [7, 8] (.tup [7, 8]) (.it .enum (.cons (.var 0) .nil)) cc__law_reached_2 (.var 7))
abbrev fb__law_reached_1 : S := (.seq (.asg (.name 5) lc__law_reached_2) (.asg (.name 3) lc__law_reached_4))
abbrev fo__law_reached_1 : S := (.for_ (.name 4) (.it .seq (.cons (.var 0) .nil)) fb__law_reached_1)
def b__law_reached : S := (.seq (.asg (.name 3) (.op .mkl (.cons (.var 1) .nil))) (.seq fo__law_reached_1 (.ret (.var 3))))
abbrev cc__law_is_least_1 : E := (.op .notin (.cons (.var 4) (.cons (.var 2) .nil)))
abbrev lc__law_is_least_1 : E := (.lc [4] (.name 4) (.it .range1 (.cons (.op .len (.cons (.var 0) .nil)) .nil)) cc__law_is_least_1 (.var 4))
abbrev cc__law_is_least_2 : E := (.op .isin (.cons (.var 5) (.cons (.var 7) .nil)))
abbrev lc__law_is_least_2 : E := (.lc [4, 7] (.tup [4, 7]) (.it .enum (.cons (.var 0) .nil)) cc__law_is_least_2 (.var 4))
abbrev fb__law_is_least_1 : S := (.seq (.asg (.name 6) lc__law_is_least_2) (.ifs (.or (.op .ne (.cons (.op .len (.cons (.var 6) .nil)) (.cons (.lit (.int 2)) .nil))) (.op .eq (.cons (.op .isin (.cons (.op .item (.cons (.var 6) (.cons (.lit (.int 0)) .nil))) (.cons (.var 2) .nil))) (.cons (.op .isin (.cons (.op .item (.cons (.var 6) (.cons (.lit (.int 1)) .nil))) (.cons (.var 2) .nil))) .nil)))) (.ret (.lit (.bool false))) .skip))
abbrev fo__law_is_least_1 : S := (.for_ (.name 5) (.it .seq (.cons (.var 1) .nil)) fb__law_is_least_1)
def b__law_is_least : S := (.seq (.asg (.name 2) (.call 81 (.cons (.var 0) (.cons (.lit (.int 0)) (.cons (.var 1) .nil))))) (.seq (.asg (.name 3) lc__law_is_least_1) (.seq (.ifs (.or (.op .eq (.cons (.var 3) (.cons (.op .mkl .nil) .nil))) (.op .ne (.cons (.op .len (.cons (.call 81 (.cons (.var 0) (.cons (.op .item (.cons (.var 3) (.cons (.lit (.int 0)) .nil))) (.cons (.var 1) .nil)))) .nil)) (.cons (.op .len (.cons (.var 3) .nil)) .nil)))) (.ret (.lit (.bool false))) .skip) (.seq fo__law_is_least_1 (.ret (.lit (.bool true)))))))
abbrev cc__law_less_1 : E := (.op .ne (.cons (.var 6) (.cons (.var 1) .nil)))
abbrev lc__law_less_1 : E := (.lc [6] (.name 6) (.it .seq (.cons (.var 4) .nil)) cc__law_less_1 (.var 6))
abbrev ce__law_less_1 : E := (.ife (.op .lt (.cons (.var 6) (.cons (.var 1) .nil))) (.var 6) (.op .item (.cons (.lit (dS [97, 98, 99, 100, 101, 102, 103, 104])) (.cons (.op .sub (.cons (.meth .sindex (.lit (dS [97, 98, 99, 100, 101, 102, 103, 104])) (.cons (.var 6) .nil)) (.cons (.lit (.int 1)) .nil))) .nil))))
abbrev lc__law_less_2 : E := (.lc [6] (.name 6) (.it .seq (.cons (.var 5) .nil)) (.lit (.bool true)) ce__law_less_1)
abbrev fb__law_less_1 : S := (.seq (.asg (.name 5) lc__law_less_1) (.append 3 (.meth .join (.lit (dS [])) (.cons lc__law_less_2 .nil))))
abbrev fo__law_less_1 : S := (.for_ (.name 4) (.it .seq (.cons (.var 0) .nil)) fb__law_less_1)
abbrev cc__law_less_2 : E := (.op .ne (.cons (.var 4) (.cons (.lit (dS [])) .nil)))
abbrev lc__law_less_3 : E := (.lc [4] (.name 4) (.it .seq (.cons (.var 3) .nil)) cc__law_less_2 (.var 4))
def b__law_less : S := (.seq (.par [(2, 0), (3, 1)] (.cons (.meth .sindex (.lit (dS [97, 98, 99, 100, 101, 102, 103, 104])) (.cons (.var 1) .nil)) (.cons (.op .mkl .nil) .nil))) (.seq fo__law_less_1 (.ret (.op .tuple (.cons lc__law_less_3 .nil)))))
abbrev cc_odd_ones_1 : E := (.op .eq (.cons (.op .mod (.cons (.op .len (.cons (.var 2) .nil)) (.cons (.lit (.int 2)) .nil))) (.cons (.lit (.int 1)) .nil)))
abbrev lc_odd_ones_1 : E := (.lc [1, 2] (.tup [1, 2]) (.it .enum (.cons (.var 0) .nil)) cc_odd_ones_1 (.var 1))
def b_odd_ones : S := (.ret lc_odd_ones_1)
def b_odd_points : S := (.seq (.expr (.call 13 (.cons (.var 0) .nil))) (.ret (.op .tuple (.cons (.call 86 (.cons (.var 0) .nil)) .nil))))
def b_passed_on : S := (.seq (.asg (.tup [3, 4]) (.call 10 (.cons (.var 0) (.cons (.var 1) .nil)))) (.seq (.ifs (.op .eq (.cons (.var 2) (.cons (.var 3) .nil))) (.ret (.var 4)) .skip) (.ret (.ife (.op .eq (.cons (.var 2) (.cons (.var 4) .nil))) (.var 3) (.lit .none)))))
abbrev fb_walked_1 : S := (.seq (.asg (.name 4) (.call 88 (.cons (.var 0) (.cons (.var 3) (.cons (.var 1) .nil))))) (.ifs (.and (.op .notin (.cons (.var 3) (.cons (.var 2) .nil))) (.op .notN (.cons (.var 4) .nil))) (.seq (.asg (.name 5) (.call 89 (.cons (.var 0) (.cons (.var 4) (.cons (.op .add (.cons (.var 2) (.cons (.var 3) .nil))) .nil))))) (.ifs (.op .notN (.cons (.var 5) .nil)) (.ret (.var 5)) .skip)) .skip))
abbrev fo_walked_1 : S := (.for_ (.name 3) (.it .seq (.cons (.call 11 (.cons (.var 0) .nil)) .nil)) fb_walked_1)
def b_walked : S := (.seq (.ifs (.op .eq (.cons (.op .len (.cons (.var 2) .nil)) (.cons (.op .len (.cons (.call 11 (.cons (.var 0) .nil)) .nil)) .nil))) (.ret (.var 2)) .skip) (.seq fo_walked_1 (.ret (.lit .none))))
def b_walk : S := (.seq (.expr (.call 13 (.cons (.var 0) .nil))) (.seq (.asg (.name 1) (.call 86 (.cons (.var 0) .nil))) (.seq (.ifs (.op .gt (.cons (.op .len (.cons (.var 1) .nil)) (.cons (.lit (.int 2)) .nil))) (.ret (.lit .none)) .skip) (.ret (.call 89 (.cons (.var 0) (.cons (.ife (.op .ne (.cons (.var 1) (.cons (.op .mkl .nil) .nil))) (.op .item (.cons (.var 1) (.cons (.lit (.int 0)) .nil))) (.lit (.int 0))) (.cons (.lit (dS [])) .nil))))))))
abbrev fb_follows_1 : S := (.seq (.asg (.name 2) (.call 88 (.cons (.var 0) (.cons (.var 3) (.cons (.var 2) .nil))))) (.ifs (.op .isN (.cons (.var 2) .nil)) (.ret (.lit (.bool false))) .skip))
abbrev fo_follows_1 : S := (.for_ (.name 3) (.it .seq (.cons (.var 1) .nil)) fb_follows_1)
def b_follows : S := (.seq fo_follows_1 (.ret (.lit (.bool true))))
abbrev ce_is_walk_1 : E := (.call 91 (.cons (.var 0) (.cons (.var 1) (.cons (.var 2) .nil))))
abbrev lc_is_walk_1 : E := (.lc [2] (.name 2) (.it .seq (.cons (.call 10 (.cons (.var 0) (.cons (.op .item (.cons (.var 1) (.cons (.lit (.int 0)) .nil))) .nil))) .nil)) (.lit (.bool true)) ce_is_walk_1)
def b_is_walk : S := (.seq (.expr (.call 13 (.cons (.var 0) .nil))) (.seq (.ifs (.or (.op .not (.cons (.op .isstr (.cons (.var 1) .nil)) .nil)) (.op .ne (.cons (.op .sorted (.cons (.var 1) .nil)) (.cons (.op .list (.cons (.call 11 (.cons (.var 0) .nil)) .nil)) .nil)))) (.ret (.lit (.bool false))) .skip) (.ret (.op .any (.cons lc_is_walk_1 .nil)))))
def b_need_point : S := (.ifs (.op .not (.cons (.call 62 (.cons (.var 1) (.cons (.lit (.int 0)) (.cons (.op .sub (.cons (.op .len (.cons (.var 0) .nil)) (.cons (.lit (.int 1)) .nil))) .nil)))) .nil)) (.raise 2) .skip)
def b_need_land : S := (.ifs (.op .not (.cons (.call 62 (.cons (.var 1) (.cons (.lit (.int 0)) (.cons (.op .sub (.cons (.op .len (.cons (.call 7 (.cons (.var 0) .nil)) .nil)) (.cons (.lit (.int 1)) .nil))) .nil)))) .nil)) (.raise 4) .skip)
def b_fewest_passed : S := (.seq (.expr (.call 13 (.cons (.var 0) .nil))) (.seq (.expr (.call 94 (.cons (.var 0) (.cons (.var 1) .nil)))) (.seq (.expr (.call 94 (.cons (.var 0) (.cons (.var 2) .nil)))) (.ret (.call 96 (.cons (.call 9 (.cons (.var 0) (.cons (.call 11 (.cons (.var 0) .nil)) .nil))) (.cons (.var 1) (.cons (.var 2) .nil))))))))
def b_fewest_crossed : S := (.seq (.expr (.call 13 (.cons (.var 0) .nil))) (.seq (.expr (.call 95 (.cons (.var 0) (.cons (.var 1) .nil)))) (.seq (.expr (.call 95 (.cons (.var 0) (.cons (.var 2) .nil)))) (.ret (.call 96 (.cons (.call 9 (.cons (.call 14 (.cons (.var 0) .nil)) (.cons (.call 11 (.cons (.var 0) .nil)) .nil))) (.cons (.var 1) (.cons (.var 2) .nil))))))))
def b_need_place : S := (.seq (.expr (.call 94 (.cons (.var 0) (.cons (.var 1) .nil)))) (.ifs (.op .not (.cons (.call 62 (.cons (.var 2) (.cons (.lit (.int 0)) (.cons (.op .sub (.cons (.op .len (.cons (.op .item (.cons (.var 0) (.cons (.var 1) .nil))) .nil)) (.cons (.lit (.int 1)) .nil))) .nil)))) .nil)) (.raise 3) .skip))
def b_with_letter : S := (.seq (.asg (.name 4) (.op .add (.cons (.op .add (.cons (.slcH (.op .item (.cons (.var 0) (.cons (.var 1) .nil))) (.var 2)) (.cons (.var 3) .nil))) (.cons (.slcL (.op .item (.cons (.var 0) (.cons (.var 1) .nil))) (.var 2)) .nil)))) (.ret (.op .add (.cons (.op .add (.cons (.slcH (.var 0) (.var 1)) (.cons (.op .mkt (.cons (.var 4) .nil)) .nil))) (.cons (.slcL (.var 0) (.op .add (.cons (.var 1) (.cons (.lit (.int 1)) .nil)))) .nil)))))
abbrev ce__law_charted_1 : E := (.and (.op .isin (.cons (.var 1) (.cons (.var 4) .nil))) (.op .isin (.cons (.var 2) (.cons (.var 4) .nil))))
abbrev lc__law_charted_1 : E := (.lc [4] (.name 4) (.it .seq (.cons (.call 25 (.cons (.var 0) .nil)) .nil)) (.lit (.bool true)) ce__law_charted_1)
def b__law_charted : S := (.seq (.asg (.name 3) (.op .len (.cons (.call 23 (.cons (.var 0) .nil)) .nil))) (.seq (.ifs (.op .eq (.cons (.var 3) (.cons (.lit (.int 8)) .nil))) (.ret (.op .mkt (.cons (.lit (dS [101, 114, 114, 111, 114])) (.cons (.lit (dS [84, 111, 111, 76, 97, 114, 103, 101])) .nil)))) .skip) (.seq (.ifs (.op .not (.cons (.op .any (.cons lc__law_charted_1 .nil)) .nil)) (.ret (.op .mkt (.cons (.lit (dS [101, 114, 114, 111, 114])) (.cons (.lit (dS [79, 116, 104, 101, 114, 76, 97, 110, 100])) .nil)))) .skip) (.seq (.asg (.tup [5, 6]) (.op .sorted (.cons (.op .mkl (.cons (.var 1) (.cons (.var 2) .nil))) .nil))) (.seq (.asg (.name 7) (.op .item (.cons (.lit (dS [97, 98, 99, 100, 101, 102, 103, 104])) (.cons (.var 3) .nil)))) (.ret (.call 26 (.cons (.call 26 (.cons (.var 0) (.cons (.op .item (.cons (.var 6) (.cons (.lit (.int 0)) .nil))) (.cons (.op .item (.cons (.var 6) (.cons (.lit (.int 1)) .nil))) (.cons (.var 7) .nil))))) (.cons (.op .item (.cons (.var 5) (.cons (.lit (.int 0)) .nil))) (.cons (.op .item (.cons (.var 5) (.cons (.lit (.int 1)) .nil))) (.cons (.var 7) .nil)))))))))))
def b__law_taken : S := (.ret (.told (.call 73 (.cons (.var 0) (.cons (.var 1) .nil)))))
def b__law_turn : S := (.seq (.par [(5, 0), (6, 0)] (.cons (.op .item (.cons (.op .mkl (.cons (.lit (dS [100, 114, 97, 119])) (.cons (.lit (dS [100, 114, 97, 119])) (.cons (.lit (dS [100, 114, 97, 119])) (.cons (.lit (dS [114, 101, 109, 111, 118, 101])) (.cons (.lit (dS [117, 110, 100, 111])) (.cons (.lit (dS [114, 101, 100, 111])) .nil))))))) (.cons (.callIO 18 0 (.cons (.lit (.int 6)) .nil)) .nil))) (.cons (.call 22 (.cons (.var 2) .nil)) .nil))) (.seq (.par [(7, 0), (8, 0)] (.cons (.op .item (.cons (.var 6) (.cons (.callIO 18 0 (.cons (.op .len (.cons (.var 6) .nil)) .nil)) .nil))) (.cons (.op .item (.cons (.var 6) (.cons (.callIO 18 0 (.cons (.op .len (.cons (.var 6) .nil)) .nil)) .nil))) .nil))) (.seq (.asg (.name 9) (.op .item (.cons (.op .item (.cons (.var 2) (.cons (.op .item (.cons (.var 7) (.cons (.lit (.int 0)) .nil))) .nil))) (.cons (.op .item (.cons (.var 7) (.cons (.lit (.int 1)) .nil))) .nil)))) (.seq (.asg (.name 10) (.call 104 (.cons (.var 1) (.cons (.var 5) (.cons (.var 7) (.cons (.var 8) (.cons (.var 9) .nil))))))) (.seq (.ifs (.op .isin (.cons (.var 5) (.cons (.op .mkt (.cons (.lit (dS [100, 114, 97, 119])) (.cons (.lit (dS [114, 101, 109, 111, 118, 101])) .nil))) .nil))) (.seq (.asg (.name 11) (.ife (.op .eq (.cons (.var 5) (.cons (.lit (dS [100, 114, 97, 119])) .nil))) (.call 102 (.cons (.var 2) (.cons (.var 7) (.cons (.var 8) .nil)))) (.call 103 (.cons (.var 2) (.cons (.var 9) .nil))))) (.seq (.ifs (.op .eq (.cons (.op .item (.cons (.var 11) (.cons (.lit (.int 0)) .nil))) (.cons (.lit (dS [101, 114, 114, 111, 114])) .nil))) (.ret (.op .mkt (.cons (.var 10) (.cons (.var 11) (.cons (.var 2) (.cons (.var 3) (.cons (.var 4) .nil))))))) .skip) (.ret (.op .mkt (.cons (.var 10) (.cons (.var 11) (.cons (.var 11) (.cons (.op .add (.cons (.var 3) (.cons (.op .mkl (.cons (.var 2) .nil)) .nil))) (.cons (.op .mkl .nil) .nil))))))))) .skip) (.seq (.asg (.name 12) (.ife (.op .eq (.cons (.var 5) (.cons (.lit (dS [117, 110, 100, 111])) .nil))) (.var 3) (.var 4))) (.seq (.ifs (.op .eq (.cons (.var 12) (.cons (.op .mkl .nil) .nil))) (.ret (.op .mkt (.cons (.var 10) (.cons (.op .mkt (.cons (.lit (dS [101, 114, 114, 111, 114])) (.cons (.lit (dS [78, 111, 116, 104, 105, 110, 103, 84, 111, 85, 110, 100, 111])) .nil))) (.cons (.var 2) (.cons (.var 3) (.cons (.var 4) .nil))))))) .skip) (.seq (.ifs (.op .eq (.cons (.var 5) (.cons (.lit (dS [117, 110, 100, 111])) .nil))) (.ret (.op .mkt (.cons (.var 10) (.cons (.op .item (.cons (.var 12) (.cons (.op .neg (.cons (.lit (.int 1)) .nil)) .nil))) (.cons (.op .item (.cons (.var 12) (.cons (.op .neg (.cons (.lit (.int 1)) .nil)) .nil))) (.cons (.slcH (.var 3) (.op .neg (.cons (.lit (.int 1)) .nil))) (.cons (.op .add (.cons (.var 4) (.cons (.op .mkl (.cons (.var 2) .nil)) .nil))) .nil))))))) .skip) (.ret (.op .mkt (.cons (.var 10) (.cons (.op .item (.cons (.var 12) (.cons (.op .neg (.cons (.lit (.int 1)) .nil)) .nil))) (.cons (.op .item (.cons (.var 12) (.cons (.op .neg (.cons (.lit (.int 1)) .nil)) .nil))) (.cons (.op .add (.cons (.var 3) (.cons (.op .mkl (.cons (.var 2) .nil)) .nil))) (.cons (.slcH (.var 4) (.op .neg (.cons (.lit (.int 1)) .nil))) .nil)))))))))))))))
def b_format_map : S := (.seq (.expr (.call 13 (.cons (.var 0) .nil))) (.ret (.meth .join (.lit (dS [32])) (.cons (.var 0) .nil))))
def b_parse_map : S := (.seq (.asg (.name 1) (.ife (.op .isstr (.cons (.var 0) .nil)) (.op .tuple (.cons (.meth .split (.var 0) (.cons (.lit (dS [32])) .nil)) .nil)) (.op .mkt .nil))) (.seq (.ifs (.op .not (.cons (.call 12 (.cons (.var 1) .nil)) .nil)) (.raise 6) .skip) (.ret (.var 1))))
def Tl : List FDef := [⟨1, 4, false, b_is_drawing⟩,
  ⟨1, 5, false, b_ends_in⟩,
  ⟨2, 2, false, b_letter_at⟩,
  ⟨2, 6, false, b_other_end⟩,
  ⟨2, 2, false, b_next_around⟩,
  ⟨2, 2, false, b_gone_on⟩,
  ⟨1, 2, false, b_least_turn⟩,
  ⟨1, 8, false, b_rounds⟩,
  ⟨2, 8, false, b_reached⟩,
  ⟨2, 3, false, b_pairs_of⟩,
  ⟨2, 5, false, b_points_of⟩,
  ⟨1, 1, false, b_letters_of⟩,
  ⟨1, 1, false, b_is_map⟩,
  ⟨1, 1, false, b_need_map⟩,
  ⟨1, 3, false, b_land_strings⟩,
  ⟨1, 1, false, b_lands⟩,
  ⟨2, 2, false, b__law_cell⟩,
  ⟨2, 3, false, b__law_drawn⟩,
  ⟨2, 3, true, b__law_roll⟩,
  ⟨2, 3, false, b__law_rounds⟩,
  ⟨0, 0, false, .skip⟩,
  ⟨0, 0, false, .skip⟩,
  ⟨1, 5, false, b__law_ends⟩,
  ⟨1, 2, false, b__law_letters⟩,
  ⟨2, 6, false, b__law_on⟩,
  ⟨1, 6, false, b__law_walks⟩,
  ⟨4, 5, false, b__law_put⟩,
  ⟨2, 9, true, b__law_any_map⟩,
  ⟨1, 2, false, b__law_is_drawing⟩,
  ⟨1, 8, false, b__law_is_joined⟩,
  ⟨1, 2, false, b__law_turned⟩,
  ⟨1, 5, false, b__law_lands⟩,
  ⟨2, 9, true, b__law_copy⟩,
  ⟨1, 1, false, b_partner⟩,
  ⟨2, 6, false, b_turned_from⟩,
  ⟨3, 6, false, b_next_point⟩,
  ⟨0, 0, false, .skip⟩,
  ⟨0, 0, false, .skip⟩,
  ⟨2, 3, false, b_renaming⟩,
  ⟨2, 2, false, b_are_same⟩,
  ⟨0, 0, false, .skip⟩,
  ⟨1, 2, false, b_least_form⟩,
  ⟨2, 2, false, b_need_border⟩,
  ⟨2, 2, false, b_lands_of⟩,
  ⟨2, 2, false, b_between⟩,
  ⟨2, 2, false, b_ends_of⟩,
  ⟨1, 4, false, b_subsets⟩,
  ⟨2, 2, false, b_joins⟩,
  ⟨0, 0, false, .skip⟩,
  ⟨4, 6, false, b_is_least_cut⟩,
  ⟨1, 5, false, b_least_cuts⟩,
  ⟨3, 6, false, b__law_leads⟩,
  ⟨1, 6, false, b__law_orders⟩,
  ⟨0, 0, false, .skip⟩,
  ⟨1, 1, false, b_count_symmetries⟩,
  ⟨1, 6, false, b_neighbours_before⟩,
  ⟨3, 7, false, b_coloured⟩,
  ⟨1, 3, false, b_fewest_colours⟩,
  ⟨3, 4, false, b_is_joining_tree⟩,
  ⟨1, 3, false, b_trees⟩,
  ⟨2, 7, false, b_is_round⟩,
  ⟨1, 3, false, b_round_ways⟩,
  ⟨3, 3, false, b_is_whole⟩,
  ⟨1, 1, false, b_need_count⟩,
  ⟨3, 8, false, b_is_colouring⟩,
  ⟨2, 2, false, b_colouring⟩,
  ⟨3, 9, false, b__law_good⟩,
  ⟨1, 5, false, b__law_near⟩,
  ⟨3, 11, false, b__law_first⟩,
  ⟨0, 0, false, .skip⟩,
  ⟨0, 0, false, .skip⟩,
  ⟨0, 0, false, .skip⟩,
  ⟨0, 0, false, .skip⟩,
  ⟨2, 2, false, b_without⟩,
  ⟨0, 0, false, .skip⟩,
  ⟨2, 13, false, b__law_count⟩,
  ⟨2, 2, false, b_is_tree⟩,
  ⟨1, 4, false, b__law_subsets⟩,
  ⟨2, 9, false, b__law_is_tree⟩,
  ⟨2, 5, false, b__law_ends_at⟩,
  ⟨0, 0, false, .skip⟩,
  ⟨3, 9, false, b__law_reached⟩,
  ⟨2, 8, false, b__law_is_least⟩,
  ⟨2, 7, false, b__law_less⟩,
  ⟨0, 0, false, .skip⟩,
  ⟨0, 0, false, .skip⟩,
  ⟨1, 3, false, b_odd_ones⟩,
  ⟨1, 1, false, b_odd_points⟩,
  ⟨3, 5, false, b_passed_on⟩,
  ⟨3, 6, false, b_walked⟩,
  ⟨1, 2, false, b_walk⟩,
  ⟨3, 4, false, b_follows⟩,
  ⟨2, 3, false, b_is_walk⟩,
  ⟨0, 0, false, .skip⟩,
  ⟨2, 2, false, b_need_point⟩,
  ⟨2, 2, false, b_need_land⟩,
  ⟨0, 0, false, .skip⟩,
  ⟨3, 3, false, b_fewest_passed⟩,
  ⟨3, 3, false, b_fewest_crossed⟩,
  ⟨0, 0, false, .skip⟩,
  ⟨3, 3, false, b_need_place⟩,
  ⟨4, 5, false, b_with_letter⟩,
  ⟨3, 8, false, b__law_charted⟩,
  ⟨2, 2, false, b__law_taken⟩,
  ⟨0, 0, false, .skip⟩,
  ⟨5, 13, true, b__law_turn⟩,
  ⟨1, 1, false, b_format_map⟩,
  ⟨1, 2, false, b_parse_map⟩,
  ⟨0, 0, false, .skip⟩,
  ⟨0, 0, false, .skip⟩,
  ⟨0, 0, false, .skip⟩]
def T (f : Nat) : Option FDef := Tl[f]?
theorem T_is_drawing : T 0 = some ⟨1, 4, false, b_is_drawing⟩ := rfl
theorem T_ends_in : T 1 = some ⟨1, 5, false, b_ends_in⟩ := rfl
theorem T_letter_at : T 2 = some ⟨2, 2, false, b_letter_at⟩ := rfl
theorem T_other_end : T 3 = some ⟨2, 6, false, b_other_end⟩ := rfl
theorem T_next_around : T 4 = some ⟨2, 2, false, b_next_around⟩ := rfl
theorem T_gone_on : T 5 = some ⟨2, 2, false, b_gone_on⟩ := rfl
theorem T_least_turn : T 6 = some ⟨1, 2, false, b_least_turn⟩ := rfl
theorem T_rounds : T 7 = some ⟨1, 8, false, b_rounds⟩ := rfl
theorem T_reached : T 8 = some ⟨2, 8, false, b_reached⟩ := rfl
theorem T_pairs_of : T 9 = some ⟨2, 3, false, b_pairs_of⟩ := rfl
theorem T_points_of : T 10 = some ⟨2, 5, false, b_points_of⟩ := rfl
theorem T_letters_of : T 11 = some ⟨1, 1, false, b_letters_of⟩ := rfl
theorem T_is_map : T 12 = some ⟨1, 1, false, b_is_map⟩ := rfl
theorem T_need_map : T 13 = some ⟨1, 1, false, b_need_map⟩ := rfl
theorem T_land_strings : T 14 = some ⟨1, 3, false, b_land_strings⟩ := rfl
theorem T_lands : T 15 = some ⟨1, 1, false, b_lands⟩ := rfl
theorem T__law_cell : T 16 = some ⟨2, 2, false, b__law_cell⟩ := rfl
theorem T__law_drawn : T 17 = some ⟨2, 3, false, b__law_drawn⟩ := rfl
theorem T__law_roll : T 18 = some ⟨2, 3, true, b__law_roll⟩ := rfl
theorem T__law_rounds : T 19 = some ⟨2, 3, false, b__law_rounds⟩ := rfl
theorem T__law_ends : T 22 = some ⟨1, 5, false, b__law_ends⟩ := rfl
theorem T__law_letters : T 23 = some ⟨1, 2, false, b__law_letters⟩ := rfl
theorem T__law_on : T 24 = some ⟨2, 6, false, b__law_on⟩ := rfl
theorem T__law_walks : T 25 = some ⟨1, 6, false, b__law_walks⟩ := rfl
theorem T__law_put : T 26 = some ⟨4, 5, false, b__law_put⟩ := rfl
theorem T__law_any_map : T 27 = some ⟨2, 9, true, b__law_any_map⟩ := rfl
theorem T__law_is_drawing : T 28 = some ⟨1, 2, false, b__law_is_drawing⟩ := rfl
theorem T__law_is_joined : T 29 = some ⟨1, 8, false, b__law_is_joined⟩ := rfl
theorem T__law_turned : T 30 = some ⟨1, 2, false, b__law_turned⟩ := rfl
theorem T__law_lands : T 31 = some ⟨1, 5, false, b__law_lands⟩ := rfl
theorem T__law_copy : T 32 = some ⟨2, 9, true, b__law_copy⟩ := rfl
theorem T_partner : T 33 = some ⟨1, 1, false, b_partner⟩ := rfl
theorem T_turned_from : T 34 = some ⟨2, 6, false, b_turned_from⟩ := rfl
theorem T_next_point : T 35 = some ⟨3, 6, false, b_next_point⟩ := rfl
theorem T_renaming : T 38 = some ⟨2, 3, false, b_renaming⟩ := rfl
theorem T_are_same : T 39 = some ⟨2, 2, false, b_are_same⟩ := rfl
theorem T_least_form : T 41 = some ⟨1, 2, false, b_least_form⟩ := rfl
theorem T_need_border : T 42 = some ⟨2, 2, false, b_need_border⟩ := rfl
theorem T_lands_of : T 43 = some ⟨2, 2, false, b_lands_of⟩ := rfl
theorem T_between : T 44 = some ⟨2, 2, false, b_between⟩ := rfl
theorem T_ends_of : T 45 = some ⟨2, 2, false, b_ends_of⟩ := rfl
theorem T_subsets : T 46 = some ⟨1, 4, false, b_subsets⟩ := rfl
theorem T_joins : T 47 = some ⟨2, 2, false, b_joins⟩ := rfl
theorem T_is_least_cut : T 49 = some ⟨4, 6, false, b_is_least_cut⟩ := rfl
theorem T_least_cuts : T 50 = some ⟨1, 5, false, b_least_cuts⟩ := rfl
theorem T__law_leads : T 51 = some ⟨3, 6, false, b__law_leads⟩ := rfl
theorem T__law_orders : T 52 = some ⟨1, 6, false, b__law_orders⟩ := rfl
theorem T_count_symmetries : T 54 = some ⟨1, 1, false, b_count_symmetries⟩ := rfl
theorem T_neighbours_before : T 55 = some ⟨1, 6, false, b_neighbours_before⟩ := rfl
theorem T_coloured : T 56 = some ⟨3, 7, false, b_coloured⟩ := rfl
theorem T_fewest_colours : T 57 = some ⟨1, 3, false, b_fewest_colours⟩ := rfl
theorem T_is_joining_tree : T 58 = some ⟨3, 4, false, b_is_joining_tree⟩ := rfl
theorem T_trees : T 59 = some ⟨1, 3, false, b_trees⟩ := rfl
theorem T_is_round : T 60 = some ⟨2, 7, false, b_is_round⟩ := rfl
theorem T_round_ways : T 61 = some ⟨1, 3, false, b_round_ways⟩ := rfl
theorem T_is_whole : T 62 = some ⟨3, 3, false, b_is_whole⟩ := rfl
theorem T_need_count : T 63 = some ⟨1, 1, false, b_need_count⟩ := rfl
theorem T_is_colouring : T 64 = some ⟨3, 8, false, b_is_colouring⟩ := rfl
theorem T_colouring : T 65 = some ⟨2, 2, false, b_colouring⟩ := rfl
theorem T__law_good : T 66 = some ⟨3, 9, false, b__law_good⟩ := rfl
theorem T__law_near : T 67 = some ⟨1, 5, false, b__law_near⟩ := rfl
theorem T__law_first : T 68 = some ⟨3, 11, false, b__law_first⟩ := rfl
theorem T_without : T 73 = some ⟨2, 2, false, b_without⟩ := rfl
theorem T__law_count : T 75 = some ⟨2, 13, false, b__law_count⟩ := rfl
theorem T_is_tree : T 76 = some ⟨2, 2, false, b_is_tree⟩ := rfl
theorem T__law_subsets : T 77 = some ⟨1, 4, false, b__law_subsets⟩ := rfl
theorem T__law_is_tree : T 78 = some ⟨2, 9, false, b__law_is_tree⟩ := rfl
theorem T__law_ends_at : T 79 = some ⟨2, 5, false, b__law_ends_at⟩ := rfl
theorem T__law_reached : T 81 = some ⟨3, 9, false, b__law_reached⟩ := rfl
theorem T__law_is_least : T 82 = some ⟨2, 8, false, b__law_is_least⟩ := rfl
theorem T__law_less : T 83 = some ⟨2, 7, false, b__law_less⟩ := rfl
theorem T_odd_ones : T 86 = some ⟨1, 3, false, b_odd_ones⟩ := rfl
theorem T_odd_points : T 87 = some ⟨1, 1, false, b_odd_points⟩ := rfl
theorem T_passed_on : T 88 = some ⟨3, 5, false, b_passed_on⟩ := rfl
theorem T_walked : T 89 = some ⟨3, 6, false, b_walked⟩ := rfl
theorem T_walk : T 90 = some ⟨1, 2, false, b_walk⟩ := rfl
theorem T_follows : T 91 = some ⟨3, 4, false, b_follows⟩ := rfl
theorem T_is_walk : T 92 = some ⟨2, 3, false, b_is_walk⟩ := rfl
theorem T_need_point : T 94 = some ⟨2, 2, false, b_need_point⟩ := rfl
theorem T_need_land : T 95 = some ⟨2, 2, false, b_need_land⟩ := rfl
theorem T_fewest_passed : T 97 = some ⟨3, 3, false, b_fewest_passed⟩ := rfl
theorem T_fewest_crossed : T 98 = some ⟨3, 3, false, b_fewest_crossed⟩ := rfl
theorem T_need_place : T 100 = some ⟨3, 3, false, b_need_place⟩ := rfl
theorem T_with_letter : T 101 = some ⟨4, 5, false, b_with_letter⟩ := rfl
theorem T__law_charted : T 102 = some ⟨3, 8, false, b__law_charted⟩ := rfl
theorem T__law_taken : T 103 = some ⟨2, 2, false, b__law_taken⟩ := rfl
theorem T__law_turn : T 105 = some ⟨5, 13, true, b__law_turn⟩ := rfl
theorem T_format_map : T 106 = some ⟨1, 1, false, b_format_map⟩ := rfl
theorem T_parse_map : T 107 = some ⟨1, 2, false, b_parse_map⟩ := rfl
abbrev fb_law_k01_1 : S := (.seq (.asg (.name 5) (.callIO 18 1 (.cons (.peek (.op .len (.cons (.var 3) .nil))) .nil))) (.seq (.par [(6, 0), (7, 0)] (.cons (.oitem 3 (.var 5)) (.cons (.oitem 3 (.var 4)) .nil))) (.sto2 3 4 5 (.op .mkt (.cons (.var 6) (.cons (.var 7) .nil))))))
abbrev fo_law_k01_1 : S := (.for_ (.name 4) (.it .range1 (.cons (.peek (.op .len (.cons (.var 3) .nil))) .nil)) fb_law_k01_1)
abbrev fb_law_k01_2 : S := (.seq (.append 9 (.slcH (.var 8) (.op .len (.cons (.var 10) .nil)))) (.asg (.name 8) (.slcL (.var 8) (.op .len (.cons (.var 10) .nil)))))
abbrev fo_law_k01_2 : S := (.for_ (.name 10) (.it .seq (.cons (.var 2) .nil)) fb_law_k01_2)
abbrev fb_law_k01_3 : S := (.ifs (.or (.call 12 (.cons (.var 15) .nil)) (.op .ne (.cons (.told (.call 15 (.cons (.var 15) .nil))) (.cons (.op .mkt (.cons (.lit (dS [101, 114, 114, 111, 114])) (.cons (.lit (dS [73, 110, 118, 97, 108, 105, 100, 77, 97, 112])) .nil))) .nil)))) (.ret (.lit (.bool false))) .skip)
abbrev fo_law_k01_3 : S := (.for_ (.name 15) (.it .seq (.cons (.var 14) .nil)) fb_law_k01_3)
def b_law_k01 : S := (.seq (.asg (.name 2) (.callIO 27 1 (.cons (.lit (.int 7)) .nil))) (.seq (.ifs (.or (.op .not (.cons (.call 12 (.cons (.var 2) .nil)) .nil)) (.op .not (.cons (.call 0 (.cons (.var 2) .nil)) .nil))) (.ret (.lit (.bool false))) .skip) (.seq (.asgM 3 1 (.op .list (.cons (.meth .join (.lit (dS [])) (.cons (.var 2) .nil)) .nil))) (.seq fo_law_k01_1 (.seq (.par [(8, 0), (9, 1)] (.cons (.meth .join (.lit (dS [])) (.cons (.var 3) .nil)) (.cons (.op .mkl .nil) .nil))) (.seq fo_law_k01_2 (.seq (.asg (.name 11) (.op .tuple (.cons (.var 9) .nil))) (.seq (.asg (.name 12) (.op .add (.cons (.op .sub (.cons (.op .len (.cons (.var 11) .nil)) (.cons (.op .len (.cons (.call 23 (.cons (.var 11) .nil)) .nil)) .nil))) (.cons (.op .len (.cons (.call 25 (.cons (.var 11) .nil)) .nil)) .nil)))) (.seq (.ifs (.or (.op .not (.cons (.call 0 (.cons (.var 11) .nil)) .nil)) (.op .ne (.cons (.call 12 (.cons (.var 11) .nil)) (.cons (.and (.call 29 (.cons (.var 11) .nil)) (.op .eq (.cons (.var 12) (.cons (.lit (.int 2)) .nil)))) .nil)))) (.ret (.lit (.bool false))) .skip) (.seq (.asg (.name 13) (.op .add (.cons (.slcH (.var 2) (.op .neg (.cons (.lit (.int 1)) .nil))) (.cons (.op .mkt (.cons (.op .add (.cons (.slcL (.op .item (.cons (.var 2) (.cons (.op .neg (.cons (.lit (.int 1)) .nil)) .nil))) (.lit (.int 1))) (.cons (.op .item (.cons (.lit (dS [97, 98, 99, 100, 101, 102, 103, 104])) (.cons (.callIO 18 1 (.cons (.lit (.int 8)) .nil)) .nil))) .nil))) .nil)) .nil)))) (.seq (.ifs (.op .ne (.cons (.call 0 (.cons (.var 13) .nil)) (.cons (.call 28 (.cons (.var 13) .nil)) .nil))) (.ret (.lit (.bool false))) .skip) (.seq (.asg (.name 14) (.op .mkl (.cons (.lit .none) (.cons (.op .mkt .nil) (.cons (.op .list (.cons (.var 2) .nil)) (.cons (.op .add (.cons (.var 2) (.cons (.op .mkt (.cons (.lit (dS [])) .nil)) .nil))) (.cons (.op .add (.cons (.var 2) (.cons (.op .mkt (.cons (.lit (dS [122])) .nil)) .nil))) (.cons (.op .mkt (.cons (.lit (.int 1)) .nil)) (.cons (.op .mkt (.cons (.lit (dS [97])) .nil)) (.cons (.op .mkt (.cons (.lit (dS [97, 98, 97, 98])) .nil)) .nil)))))))))) (.seq (.asg (.name 14) (.op .add (.cons (.var 14) (.cons (.op .mkl (.cons (.op .mkt (.cons (.lit (dS [97, 97])) (.cons (.lit (dS [98, 98])) .nil))) (.cons (.lit (dS [97, 97])) (.cons (.op .mkt (.cons (.lit (dS [65, 65])) .nil)) .nil)))) .nil)))) fo_law_k01_3)))))))))))))
abbrev n_law_k01 : Nat := 16
abbrev ce_law_k02_1 : E := (.op .eq (.cons (.call 30 (.cons (.var 4) .nil)) (.cons (.var 4) .nil)))
abbrev lc_law_k02_1 : E := (.lc [4] (.name 4) (.it .seq (.cons (.var 3) .nil)) (.lit (.bool true)) ce_law_k02_1)
abbrev ce_law_k02_2 : E := (.op .add (.cons (.slcL (.var 7) (.lit (.int 1))) (.cons (.slcH (.var 7) (.lit (.int 1))) .nil)))
abbrev lc_law_k02_2 : E := (.lc [7] (.name 7) (.it .seq (.cons (.var 2) .nil)) (.lit (.bool true)) ce_law_k02_2)
abbrev ce_law_k02_3 : E := (.op .len (.cons (.var 4) .nil))
abbrev lc_law_k02_3 : E := (.lc [4] (.name 4) (.it .seq (.cons (.var 3) .nil)) (.lit (.bool true)) ce_law_k02_3)
abbrev ce_law_k02_4 : E := (.op .len (.cons (.var 4) .nil))
abbrev lc_law_k02_4 : E := (.lc [4] (.name 4) (.it .seq (.cons (.call 15 (.cons (.var 8) .nil)) .nil)) (.lit (.bool true)) ce_law_k02_4)
def b_law_k02 : S := (.seq (.asg (.name 2) (.callIO 27 1 (.cons (.lit (.int 8)) .nil))) (.seq (.asg (.name 3) (.call 15 (.cons (.var 2) .nil))) (.seq (.ifs (.or (.op .ne (.cons (.op .list (.cons (.var 3) .nil)) (.cons (.call 31 (.cons (.var 2) .nil)) .nil))) (.op .ne (.cons (.op .add (.cons (.op .sub (.cons (.op .len (.cons (.var 2) .nil)) (.cons (.op .len (.cons (.call 23 (.cons (.var 2) .nil)) .nil)) .nil))) (.cons (.op .len (.cons (.var 3) .nil)) .nil))) (.cons (.lit (.int 2)) .nil)))) (.ret (.lit (.bool false))) .skip) (.seq (.ifs (.op .ne (.cons (.op .sorted (.cons (.meth .join (.lit (dS [])) (.cons (.var 3) .nil)) .nil)) (.cons (.op .sorted (.cons (.meth .join (.lit (dS [])) (.cons (.var 2) .nil)) .nil)) .nil))) (.ret (.lit (.bool false))) .skip) (.seq (.ifs (.op .not (.cons (.op .all (.cons lc_law_k02_1 .nil)) .nil)) (.ret (.lit (.bool false))) .skip) (.seq (.asg (.name 5) (.op .len (.cons (.call 23 (.cons (.var 2) .nil)) .nil))) (.seq (.ifs (.or (.op .ne (.cons (.call 15 (.cons (.op .mkt (.cons (.op .mul (.cons (.lit (dS [97])) (.cons (.lit (.int 2)) .nil))) .nil)) .nil)) (.cons (.op .mkt (.cons (.lit (dS [97])) (.cons (.lit (dS [97])) .nil))) .nil))) (.op .ne (.cons (.call 15 (.cons (.op .mkt (.cons (.lit (dS [97])) (.cons (.lit (dS [97])) .nil))) .nil)) (.cons (.op .mkt (.cons (.lit (dS [97, 97])) .nil)) .nil)))) (.ret (.lit (.bool false))) .skip) (.seq (.asg (.name 6) (.op .tuple (.cons lc_law_k02_2 .nil))) (.seq (.ifs (.and (.op .gt (.cons (.var 5) (.cons (.lit (.int 1)) .nil))) (.op .ne (.cons (.op .list (.cons (.call 15 (.cons (.var 6) .nil)) .nil)) (.cons (.call 31 (.cons (.var 2) .nil)) .nil)))) (.ret (.lit (.bool false))) .skip) (.seq (.ifs (.or (.op .ne (.cons (.call 15 (.cons (.op .mkt (.cons (.lit (dS [97, 98, 99])) (.cons (.lit (dS [97, 99, 98])) .nil))) .nil)) (.cons (.op .mkt (.cons (.lit (dS [97, 98])) (.cons (.lit (dS [97, 99])) (.cons (.lit (dS [98, 99])) .nil)))) .nil))) (.op .ne (.cons (.call 15 (.cons (.op .mkt (.cons (.lit (dS [97])) (.cons (.lit (dS [97, 98])) (.cons (.lit (dS [98])) .nil)))) .nil)) (.cons (.op .mkt (.cons (.lit (dS [97, 97, 98, 98])) .nil)) .nil)))) (.ret (.lit (.bool false))) .skip) (.seq (.asg (.name 8) (.callIO 32 1 (.cons (.var 2) .nil))) (.ifs (.op .ne (.cons (.op .sorted (.cons lc_law_k02_4 .nil)) (.cons (.op .sorted (.cons lc_law_k02_3 .nil)) .nil))) (.ret (.lit (.bool false))) .skip))))))))))))
abbrev n_law_k02 : Nat := 9
abbrev ce_law_k03_1 : E := (.call 30 (.cons (.var 4) .nil))
abbrev lc_law_k03_1 : E := (.lc [4] (.name 4) (.it .seq (.cons (.var 2) .nil)) (.lit (.bool true)) ce_law_k03_1)
def b_law_k03 : S := (.seq (.asg (.name 2) (.callIO 27 1 (.cons (.lit (.int 7)) .nil))) (.seq (.asg (.name 3) (.call 33 (.cons (.var 2) .nil))) (.seq (.ifs (.or (.op .ne (.cons (.var 3) (.cons (.call 15 (.cons (.var 2) .nil)) .nil))) (.op .not (.cons (.call 12 (.cons (.var 3) .nil)) .nil))) (.ret (.lit (.bool false))) .skip) (.seq (.ifs (.op .ne (.cons (.op .sorted (.cons lc_law_k03_1 .nil)) (.cons (.call 31 (.cons (.var 3) .nil)) .nil))) (.ret (.lit (.bool false))) .skip) (.seq (.ifs (.or (.op .not (.cons (.call 39 (.cons (.call 33 (.cons (.var 3) .nil)) (.cons (.var 2) .nil))) .nil)) (.op .ne (.cons (.call 41 (.cons (.call 33 (.cons (.var 3) .nil)) .nil)) (.cons (.call 41 (.cons (.var 2) .nil)) .nil)))) (.ret (.lit (.bool false))) .skip) (.seq (.ifs (.op .not (.cons (.call 39 (.cons (.call 33 (.cons (.callIO 32 1 (.cons (.var 2) .nil)) .nil)) (.cons (.var 3) .nil))) .nil)) (.ret (.lit (.bool false))) .skip) (.seq (.ifs (.or (.op .ne (.cons (.op .len (.cons (.call 33 (.cons (.var 3) .nil)) .nil)) (.cons (.op .len (.cons (.var 2) .nil)) .nil))) (.op .ne (.cons (.op .len (.cons (.call 15 (.cons (.var 3) .nil)) .nil)) (.cons (.op .len (.cons (.var 2) .nil)) .nil)))) (.ret (.lit (.bool false))) .skip) (.seq (.ifs (.or (.op .ne (.cons (.call 33 (.cons (.op .mkt (.cons (.lit (dS [97, 97])) .nil)) .nil)) (.cons (.op .mkt (.cons (.lit (dS [97])) (.cons (.lit (dS [97])) .nil))) .nil))) (.op .ne (.cons (.call 33 (.cons (.op .mkt (.cons (.lit (dS [97])) (.cons (.lit (dS [97])) .nil))) .nil)) (.cons (.op .mkt (.cons (.lit (dS [97, 97])) .nil)) .nil)))) (.ret (.lit (.bool false))) .skip) (.ifs (.op .not (.cons (.call 39 (.cons (.call 40 (.cons (.var 3) .nil)) (.cons (.call 33 (.cons (.call 40 (.cons (.var 2) .nil)) .nil)) .nil))) .nil)) (.ret (.lit (.bool false))) .skip)))))))))
abbrev n_law_k03 : Nat := 5
abbrev fb_law_k04_1 : S := (.asg (.name 7) (.op .add (.cons (.var 7) (.cons (.op .mul (.cons (.op .mkl (.cons (.var 9) .nil)) (.cons (.meth .count (.var 10) (.cons (.var 6) .nil)) .nil))) .nil))))
abbrev fo_law_k04_1 : S := (.for_ (.tup [9, 10]) (.it .enum (.cons (.var 3) .nil)) fb_law_k04_1)
abbrev fb_law_k04_2 : S := (.asg (.name 8) (.op .add (.cons (.var 8) (.cons (.op .mul (.cons (.op .mkl (.cons (.var 11) .nil)) (.cons (.meth .count (.var 12) (.cons (.var 6) .nil)) .nil))) .nil))))
abbrev fo_law_k04_2 : S := (.for_ (.tup [11, 12]) (.it .enum (.cons (.var 2) .nil)) fb_law_k04_2)
abbrev fb_law_k04_3 : S := (.seq (.par [(7, 0), (8, 0)] (.cons (.op .mkl .nil) (.cons (.op .mkl .nil) .nil))) (.seq fo_law_k04_1 (.seq fo_law_k04_2 (.seq (.ifs (.or (.op .ne (.cons (.call 44 (.cons (.var 2) (.cons (.var 6) .nil))) (.cons (.op .tuple (.cons (.var 7) .nil)) .nil))) (.op .ne (.cons (.call 45 (.cons (.var 2) (.cons (.var 6) .nil))) (.cons (.op .tuple (.cons (.var 8) .nil)) .nil)))) (.ret (.lit (.bool false))) .skip) (.seq (.ifs (.op .ne (.cons (.call 45 (.cons (.var 4) (.cons (.var 6) .nil))) (.cons (.call 44 (.cons (.var 2) (.cons (.var 6) .nil))) .nil))) (.ret (.lit (.bool false))) .skip) (.ifs (.op .ne (.cons (.op .eq (.cons (.op .item (.cons (.var 7) (.cons (.lit (.int 0)) .nil))) (.cons (.op .item (.cons (.var 7) (.cons (.lit (.int 1)) .nil))) .nil))) (.cons (.op .isin (.cons (.var 6) (.cons (.var 5) .nil))) .nil))) (.ret (.lit (.bool false))) .skip))))))
abbrev fo_law_k04_3 : S := (.for_ (.name 6) (.it .seq (.cons (.call 23 (.cons (.var 2) .nil)) .nil)) fb_law_k04_3)
abbrev fb_law_k04_4 : S := (.seq (.ifs (.op .ne (.cons (.told (.call 44 (.cons (.var 2) (.cons (.var 14) .nil)))) (.cons (.op .mkt (.cons (.lit (dS [101, 114, 114, 111, 114])) (.cons (.lit (dS [73, 110, 118, 97, 108, 105, 100, 66, 111, 114, 100, 101, 114])) .nil))) .nil))) (.ret (.lit (.bool false))) .skip) (.ifs (.op .ne (.cons (.told (.call 45 (.cons (.var 2) (.cons (.var 14) .nil)))) (.cons (.op .mkt (.cons (.lit (dS [101, 114, 114, 111, 114])) (.cons (.lit (dS [73, 110, 118, 97, 108, 105, 100, 66, 111, 114, 100, 101, 114])) .nil))) .nil))) (.ret (.lit (.bool false))) .skip))
abbrev fo_law_k04_4 : S := (.for_ (.name 14) (.it .seq (.cons (.op .mkl (.cons (.lit (dS [])) (.cons (.lit (dS [97, 98])) (.cons (.lit (dS [122])) (.cons (.lit .none) (.cons (.lit (.int 1)) (.cons (.slcB (.lit (dS [97, 98, 99, 100, 101, 102, 103, 104])) (.var 13) (.op .add (.cons (.var 13) (.cons (.lit (.int 1)) .nil)))) (.cons (.lit (dS [65])) (.cons (.op .mkl (.cons (.lit (dS [97])) .nil)) .nil))))))))) .nil)) fb_law_k04_4)
def b_law_k04 : S := (.seq (.asg (.name 2) (.callIO 27 1 (.cons (.lit (.int 8)) .nil))) (.seq (.par [(3, 0), (4, 0), (5, 0)] (.cons (.call 15 (.cons (.var 2) .nil)) (.cons (.call 33 (.cons (.var 2) .nil)) (.cons (.call 50 (.cons (.var 2) .nil)) .nil)))) (.seq fo_law_k04_3 (.seq (.asg (.name 13) (.op .len (.cons (.call 23 (.cons (.var 2) .nil)) .nil))) (.seq fo_law_k04_4 (.ifs (.op .ne (.cons (.told (.call 44 (.cons (.lit .none) (.cons (.lit (dS [97])) .nil)))) (.cons (.op .mkt (.cons (.lit (dS [101, 114, 114, 111, 114])) (.cons (.lit (dS [73, 110, 118, 97, 108, 105, 100, 77, 97, 112])) .nil))) .nil))) (.ret (.lit (.bool false))) .skip))))))
abbrev n_law_k04 : Nat := 15
abbrev cc_law_k05_1 : E := (.call 51 (.cons (.var 2) (.cons (.var 4) (.cons (.var 8) .nil))))
abbrev lc_law_k05_1 : E := (.lc [8] (.name 8) (.it .seq (.cons (.call 52 (.cons (.call 23 (.cons (.var 2) .nil)) .nil)) .nil)) cc_law_k05_1 (.var 8))
abbrev cc_law_k05_2 : E := (.call 51 (.cons (.var 2) (.cons (.var 5) (.cons (.var 8) .nil))))
abbrev lc_law_k05_2 : E := (.lc [8] (.name 8) (.it .seq (.cons (.call 52 (.cons (.call 23 (.cons (.var 2) .nil)) .nil)) .nil)) cc_law_k05_2 (.var 8))
def b_law_k05 : S := (.seq (.asg (.name 2) (.callIO 27 1 (.cons (.lit (.int 6)) .nil))) (.seq (.asg (.name 3) (.op .len (.cons (.call 23 (.cons (.var 2) .nil)) .nil))) (.seq (.asg (.tup [4, 5]) (.op .mkt (.cons (.callIO 32 1 (.cons (.var 2) .nil)) (.cons (.callIO 27 1 (.cons (.lit (.int 4)) .nil)) .nil)))) (.seq (.asg (.name 6) (.call 38 (.cons (.var 2) (.cons (.var 4) .nil)))) (.seq (.ifs (.or (.op .isN (.cons (.var 6) .nil)) (.or (.op .not (.cons (.call 51 (.cons (.var 2) (.cons (.var 4) (.cons (.var 6) .nil)))) .nil)) (.op .not (.cons (.call 39 (.cons (.var 4) (.cons (.var 2) .nil))) .nil)))) (.ret (.lit (.bool false))) .skip) (.seq (.ifs (.op .lt (.cons (.var 3) (.cons (.lit (.int 5)) .nil))) (.seq (.asg (.name 7) lc_law_k05_1) (.ifs (.op .ne (.cons (.var 6) (.cons (.op .item (.cons (.var 7) (.cons (.lit (.int 0)) .nil))) .nil))) (.ret (.lit (.bool false))) .skip)) .skip) (.seq (.ifs (.and (.op .eq (.cons (.op .len (.cons (.call 23 (.cons (.var 5) .nil)) .nil)) (.cons (.var 3) .nil))) (.op .lt (.cons (.var 3) (.cons (.lit (.int 5)) .nil)))) (.seq (.asg (.name 7) lc_law_k05_2) (.ifs (.op .ne (.cons (.call 38 (.cons (.var 2) (.cons (.var 5) .nil))) (.cons (.ife (.op .ne (.cons (.var 7) (.cons (.op .mkl .nil) .nil))) (.op .item (.cons (.var 7) (.cons (.lit (.int 0)) .nil))) (.lit .none)) .nil))) (.ret (.lit (.bool false))) .skip)) .skip) (.seq (.ifs (.op .ne (.cons (.op .isN (.cons (.call 38 (.cons (.var 2) (.cons (.var 5) .nil))) .nil)) (.cons (.op .ne (.cons (.call 41 (.cons (.var 2) .nil)) (.cons (.call 41 (.cons (.var 5) .nil)) .nil))) .nil))) (.ret (.lit (.bool false))) .skip) (.seq (.ifs (.op .ne (.cons (.call 39 (.cons (.var 2) (.cons (.var 5) .nil))) (.cons (.op .notN (.cons (.call 38 (.cons (.var 2) (.cons (.var 5) .nil))) .nil)) .nil))) (.ret (.lit (.bool false))) .skip) (.seq (.ifs (.op .ne (.cons (.call 38 (.cons (.var 2) (.cons (.var 2) .nil))) (.cons (.call 23 (.cons (.var 2) .nil)) .nil))) (.ret (.lit (.bool false))) .skip) (.ifs (.op .ne (.cons (.told (.call 38 (.cons (.var 2) (.cons (.lit .none) .nil)))) (.cons (.op .mkt (.cons (.lit (dS [101, 114, 114, 111, 114])) (.cons (.lit (dS [73, 110, 118, 97, 108, 105, 100, 77, 97, 112])) .nil))) .nil))) (.ret (.lit (.bool false))) .skip)))))))))))
abbrev n_law_k05 : Nat := 9
abbrev ce_law_k06_1 : E := (.call 53 (.cons (.var 2) (.cons (.var 4) .nil)))
abbrev lc_law_k06_1 : E := (.lc [4] (.name 4) (.it .seq (.cons (.call 22 (.cons (.var 2) .nil)) .nil)) (.lit (.bool true)) ce_law_k06_1)
abbrev ce_law_k06_2 : E := (.op .len (.cons (.var 5) .nil))
abbrev lc_law_k06_2 : E := (.lc [5] (.name 5) (.it .seq (.cons (.var 2) .nil)) (.lit (.bool true)) ce_law_k06_2)
abbrev ce_law_k06_3 : E := (.op .len (.cons (.var 5) .nil))
abbrev lc_law_k06_3 : E := (.lc [5] (.name 5) (.it .seq (.cons (.var 3) .nil)) (.lit (.bool true)) ce_law_k06_3)
def b_law_k06 : S := (.seq (.asg (.name 2) (.callIO 27 1 (.cons (.lit (.int 7)) .nil))) (.seq (.asg (.name 3) (.call 41 (.cons (.var 2) .nil))) (.seq (.ifs (.op .ne (.cons (.var 3) (.cons (.op .min1 (.cons lc_law_k06_1 .nil)) .nil))) (.ret (.lit (.bool false))) .skip) (.seq (.ifs (.or (.op .ne (.cons (.call 41 (.cons (.callIO 32 1 (.cons (.var 2) .nil)) .nil)) (.cons (.var 3) .nil))) (.or (.op .not (.cons (.call 12 (.cons (.var 3) .nil)) .nil)) (.op .not (.cons (.call 39 (.cons (.var 3) (.cons (.var 2) .nil))) .nil)))) (.ret (.lit (.bool false))) .skip) (.seq (.ifs (.or (.op .ne (.cons (.call 41 (.cons (.var 3) .nil)) (.cons (.var 3) .nil))) (.op .ne (.cons (.op .item (.cons (.op .item (.cons (.var 3) (.cons (.lit (.int 0)) .nil))) (.cons (.lit (.int 0)) .nil))) (.cons (.lit (dS [97])) .nil)))) (.ret (.lit (.bool false))) .skip) (.seq (.ifs (.op .ne (.cons (.op .sorted (.cons lc_law_k06_3 .nil)) (.cons (.op .sorted (.cons lc_law_k06_2 .nil)) .nil))) (.ret (.lit (.bool false))) .skip) (.seq (.ifs (.op .ne (.cons (.call 41 (.cons (.op .mkt (.cons (.lit (dS [98, 97])) (.cons (.lit (dS [98])) (.cons (.lit (dS [97])) .nil)))) .nil)) (.cons (.op .mkt (.cons (.lit (dS [97])) (.cons (.lit (dS [97, 98])) (.cons (.lit (dS [98])) .nil)))) .nil))) (.ret (.lit (.bool false))) .skip) (.ifs (.op .ne (.cons (.told (.call 41 (.cons (.op .mkt (.cons (.lit (dS [97, 98, 97, 98])) .nil)) .nil))) (.cons (.op .mkt (.cons (.lit (dS [101, 114, 114, 111, 114])) (.cons (.lit (dS [73, 110, 118, 97, 108, 105, 100, 77, 97, 112])) .nil))) .nil))) (.ret (.lit (.bool false))) .skip))))))))
abbrev n_law_k06 : Nat := 6
abbrev ce_law_k08_1 : E := (.call 30 (.cons (.var 5) .nil))
abbrev lc_law_k08_1 : E := (.lc [5] (.name 5) (.it .seq (.cons (.var 2) .nil)) (.lit (.bool true)) ce_law_k08_1)
abbrev ce_law_k08_2 : E := (.op .item (.cons (.var 6) (.cons (.meth .sindex (.lit (dS [97, 98, 99, 100, 101, 102, 103, 104])) (.cons (.var 8) .nil)) .nil)))
abbrev lc_law_k08_2 : E := (.lc [8] (.name 8) (.it .seq (.cons (.var 5) .nil)) (.lit (.bool true)) ce_law_k08_2)
abbrev ce_law_k08_3 : E := (.call 30 (.cons (.meth .join (.lit (dS [])) (.cons lc_law_k08_2 .nil)) .nil))
abbrev lc_law_k08_3 : E := (.lc [5] (.name 5) (.it .seq (.cons (.var 2) .nil)) (.lit (.bool true)) ce_law_k08_3)
abbrev fb_law_k08_1 : S := (.seq (.asg (.name 7) lc_law_k08_3) (.asg (.name 4) (.op .add (.cons (.var 4) (.cons (.op .int (.cons (.op .eq (.cons (.op .sorted (.cons (.var 7) .nil)) (.cons (.var 3) .nil))) .nil)) .nil)))))
abbrev fo_law_k08_1 : S := (.for_ (.name 6) (.it .seq (.cons (.call 52 (.cons (.call 23 (.cons (.var 2) .nil)) .nil)) .nil)) fb_law_k08_1)
def b_law_k08 : S := (.seq (.asg (.name 2) (.callIO 27 1 (.cons (.op .add (.cons (.lit (.int 4)) (.cons (.op .int (.cons (.op .eq (.cons (.callIO 18 1 (.cons (.lit (.int 5)) .nil)) (.cons (.lit (.int 0)) .nil))) .nil)) .nil))) .nil))) (.seq (.par [(3, 0), (4, 0)] (.cons (.op .sorted (.cons lc_law_k08_1 .nil)) (.cons (.lit (.int 0)) .nil))) (.seq fo_law_k08_1 (.seq (.ifs (.or (.op .ne (.cons (.call 54 (.cons (.var 2) .nil)) (.cons (.var 4) .nil))) (.op .ne (.cons (.call 54 (.cons (.call 33 (.cons (.var 2) .nil)) .nil)) (.cons (.var 4) .nil)))) (.ret (.lit (.bool false))) .skip) (.seq (.ifs (.op .ne (.cons (.call 54 (.cons (.callIO 32 1 (.cons (.var 2) .nil)) .nil)) (.cons (.var 4) .nil))) (.ret (.lit (.bool false))) .skip) (.seq (.asg (.name 9) (.op .add (.cons (.lit (.int 3)) (.cons (.callIO 18 1 (.cons (.lit (.int 6)) .nil)) .nil)))) (.seq (.asg (.name 10) (.op .add (.cons (.op .mkt (.cons (.slcH (.lit (dS [97, 98, 99, 100, 101, 102, 103, 104])) (.var 9)) .nil)) (.cons (.op .tuple (.cons (.op .list (.cons (.slcH (.lit (dS [97, 98, 99, 100, 101, 102, 103, 104])) (.var 9)) .nil)) .nil)) .nil)))) (.seq (.ifs (.or (.op .ne (.cons (.call 54 (.cons (.var 10) .nil)) (.cons (.var 9) .nil))) (.op .ne (.cons (.call 50 (.cons (.var 10) .nil)) (.cons (.op .tuple (.cons (.op .list (.cons (.slcH (.lit (dS [97, 98, 99, 100, 101, 102, 103, 104])) (.var 9)) .nil)) .nil)) .nil)))) (.ret (.lit (.bool false))) .skip) (.ifs (.op .ne (.cons (.told (.call 54 (.cons (.op .mkt (.cons (.lit (dS [97])) .nil)) .nil))) (.cons (.op .mkt (.cons (.lit (dS [101, 114, 114, 111, 114])) (.cons (.lit (dS [73, 110, 118, 97, 108, 105, 100, 77, 97, 112])) .nil))) .nil))) (.ret (.lit (.bool false))) .skip)))))))))
abbrev n_law_k08 : Nat := 11
abbrev fb_law_k10_1 : S := (.seq (.asg (.name 7) (.call 68 (.cons (.var 3) (.cons (.var 4) (.cons (.var 6) .nil))))) (.seq (.ifs (.and (.op .gt (.cons (.var 6) (.cons (.lit (.int 3)) .nil))) (.op .isN (.cons (.var 7) .nil))) (.ret (.lit (.bool false))) .skip) (.seq (.asg (.name 8) (.call 65 (.cons (.var 2) (.cons (.var 6) .nil)))) (.seq (.ifs (.op .ne (.cons (.var 8) (.cons (.var 7) .nil))) (.ret (.lit (.bool false))) .skip) (.seq (.ifs (.and (.op .notN (.cons (.var 8) .nil)) (.op .not (.cons (.call 64 (.cons (.var 2) (.cons (.var 6) (.cons (.var 8) .nil)))) .nil))) (.ret (.lit (.bool false))) .skip) (.asg (.name 5) (.ife (.and (.op .isN (.cons (.var 5) .nil)) (.op .notN (.cons (.var 7) .nil))) (.var 6) (.var 5))))))))
abbrev fo_law_k10_1 : S := (.for_ (.name 6) (.it .range2 (.cons (.lit (.int 1)) (.cons (.lit (.int 5)) .nil))) fb_law_k10_1)
abbrev cc_law_k10_1 : E := (.op .ne (.cons (.op .item (.cons (.call 44 (.cons (.var 2) (.cons (.var 12) .nil))) (.cons (.lit (.int 0)) .nil))) (.cons (.op .item (.cons (.call 44 (.cons (.var 2) (.cons (.var 12) .nil))) (.cons (.lit (.int 1)) .nil))) .nil)))
abbrev lc_law_k10_1 : E := (.lc [12] (.name 12) (.it .seq (.cons (.var 10) .nil)) cc_law_k10_1 (.var 12))
abbrev fb_law_k10_2 : S := (.seq (.asg (.name 11) lc_law_k10_1) (.append 9 (.op .eq (.cons (.op .mod (.cons (.op .len (.cons (.var 11) .nil)) (.cons (.lit (.int 2)) .nil))) (.cons (.lit (.int 0)) .nil)))))
abbrev fo_law_k10_2 : S := (.for_ (.name 10) (.it .seq (.cons (.var 2) .nil)) fb_law_k10_2)
def b_law_k10 : S := (.seq (.asg (.name 2) (.callIO 27 1 (.cons (.lit (.int 6)) .nil))) (.seq (.par [(3, 0), (4, 0), (5, 0)] (.cons (.call 67 (.cons (.var 2) .nil)) (.cons (.op .len (.cons (.call 15 (.cons (.var 2) .nil)) .nil)) (.cons (.lit .none) .nil)))) (.seq fo_law_k10_1 (.seq (.ifs (.or (.op .ne (.cons (.call 57 (.cons (.var 2) .nil)) (.cons (.var 5) .nil))) (.op .ne (.cons (.call 57 (.cons (.callIO 32 1 (.cons (.var 2) .nil)) .nil)) (.cons (.var 5) .nil)))) (.ret (.lit (.bool false))) .skip) (.seq (.asgM 9 1 (.op .mkl .nil)) (.seq fo_law_k10_2 (.ifs (.or (.op .ne (.cons (.op .le (.cons (.var 5) (.cons (.lit (.int 2)) .nil))) (.cons (.op .all (.cons (.var 9) .nil)) .nil))) (.op .notN (.cons (.call 65 (.cons (.op .mkt (.cons (.lit (dS [97, 98, 99])) (.cons (.lit (dS [97, 99, 98])) .nil))) (.cons (.lit (.int 2)) .nil))) .nil))) (.ret (.lit (.bool false))) .skip)))))))
abbrev n_law_k10 : Nat := 13
abbrev ce_law_k11_1 : E := (.call 44 (.cons (.var 2) (.cons (.var 10) .nil)))
abbrev lc_law_k11_1 : E := (.lc [10] (.name 10) (.it .seq (.cons (.var 5) .nil)) (.lit (.bool true)) ce_law_k11_1)
abbrev fb_law_k11_1 : S := (.ifs (.op .ne (.cons (.told (.call 70 (.cons (.var 2) (.cons (.var 12) .nil)))) (.cons (.op .mkt (.cons (.lit (dS [101, 114, 114, 111, 114])) (.cons (.lit (dS [73, 110, 118, 97, 108, 105, 100, 67, 111, 117, 110, 116])) .nil))) .nil))) (.ret (.lit (.bool false))) .skip)
abbrev fo_law_k11_1 : S := (.for_ (.name 12) (.it .seq (.cons (.op .mkl (.cons (.lit (.int 0)) (.cons (.lit (.int 6)) (.cons (.lit (.bool true)) (.cons (.lit .none) (.cons (.lit (dS [50])) .nil)))))) .nil)) fb_law_k11_1)
def b_law_k11 : S := (.seq (.asg (.tup [2, 3]) (.op .mkt (.cons (.callIO 27 1 (.cons (.lit (.int 7)) .nil)) (.cons (.op .add (.cons (.lit (.int 1)) (.cons (.callIO 18 1 (.cons (.lit (.int 5)) .nil)) .nil))) .nil)))) (.seq (.asg (.name 4) (.call 70 (.cons (.var 2) (.cons (.var 3) .nil)))) (.seq (.ifs (.op .ne (.cons (.op .eq (.cons (.var 4) (.cons (.lit (.int 0)) .nil))) (.cons (.op .isN (.cons (.call 65 (.cons (.var 2) (.cons (.var 3) .nil))) .nil)) .nil))) (.ret (.lit (.bool false))) .skip) (.seq (.ifs (.and (.op .lt (.cons (.op .len (.cons (.call 15 (.cons (.var 2) .nil)) .nil)) (.cons (.lit (.int 5)) .nil))) (.op .ne (.cons (.var 4) (.cons (.call 75 (.cons (.var 2) (.cons (.var 3) .nil))) .nil)))) (.ret (.lit (.bool false))) .skip) (.seq (.ifs (.and (.op .eq (.cons (.op .len (.cons (.call 15 (.cons (.var 2) .nil)) .nil)) (.cons (.lit (.int 1)) .nil))) (.op .ne (.cons (.var 4) (.cons (.var 3) .nil)))) (.ret (.lit (.bool false))) .skip) (.seq (.asg (.name 5) (.call 23 (.cons (.var 2) .nil))) (.seq (.asg (.name 6) (.op .item (.cons (.var 5) (.cons (.callIO 18 1 (.cons (.op .len (.cons (.var 5) .nil)) .nil)) .nil)))) (.seq (.par [(7, 0), (8, 0)] (.cons (.call 44 (.cons (.var 2) (.cons (.var 6) .nil))) (.cons (.call 45 (.cons (.var 2) (.cons (.var 6) .nil))) .nil))) (.seq (.ifs (.and (.op .ne (.cons (.op .item (.cons (.var 7) (.cons (.lit (.int 0)) .nil))) (.cons (.op .item (.cons (.var 7) (.cons (.lit (.int 1)) .nil))) .nil))) (.op .ne (.cons (.op .item (.cons (.var 8) (.cons (.lit (.int 0)) .nil))) (.cons (.op .item (.cons (.var 8) (.cons (.lit (.int 1)) .nil))) .nil)))) (.seq (.asg (.name 9) (.op .eq (.cons (.meth .count lc_law_k11_1 (.cons (.var 7) .nil)) (.cons (.lit (.int 1)) .nil)))) (.seq (.asg (.name 11) (.ife (.var 9) (.call 70 (.cons (.call 73 (.cons (.var 2) (.cons (.var 6) .nil))) (.cons (.var 3) .nil))) (.lit (.int 0)))) (.ifs (.op .ne (.cons (.var 4) (.cons (.op .sub (.cons (.call 70 (.cons (.call 74 (.cons (.var 2) (.cons (.var 6) .nil))) (.cons (.var 3) .nil))) (.cons (.var 11) .nil))) .nil))) (.ret (.lit (.bool false))) .skip))) .skip) fo_law_k11_1)))))))))
abbrev n_law_k11 : Nat := 13
abbrev cc_law_k13_1 : E := (.op .isin (.cons (.var 6) (.cons (.var 7) .nil)))
abbrev lc_law_k13_1 : E := (.lc [6] (.name 6) (.it .seq (.cons (.var 5) .nil)) cc_law_k13_1 (.var 6))
abbrev ce_law_k13_1 : E := (.op .eq (.cons (.op .mod (.cons (.op .len (.cons lc_law_k13_1 .nil)) (.cons (.lit (.int 2)) .nil))) (.cons (.lit (.int 0)) .nil)))
abbrev lc_law_k13_2 : E := (.lc [7] (.name 7) (.it .seq (.cons (.var 4) .nil)) (.lit (.bool true)) ce_law_k13_1)
abbrev fb_law_k13_1 : S := (.seq (.ifs (.call 76 (.cons (.var 2) (.cons (.var 5) .nil))) (.ret (.lit (.bool false))) .skip) (.ifs (.op .not (.cons (.op .all (.cons lc_law_k13_2 .nil)) .nil)) (.ret (.lit (.bool false))) .skip))
abbrev fo_law_k13_1 : S := (.for_ (.name 5) (.it .seq (.cons (.var 3) .nil)) fb_law_k13_1)
def b_law_k13 : S := (.seq (.asg (.name 2) (.callIO 27 1 (.cons (.lit (.int 7)) .nil))) (.seq (.asg (.name 3) (.call 80 (.cons (.var 2) .nil))) (.seq (.ifs (.or (.op .ne (.cons (.call 61 (.cons (.var 2) .nil)) (.cons (.var 3) .nil))) (.op .ne (.cons (.call 50 (.cons (.call 33 (.cons (.var 2) .nil)) .nil)) (.cons (.var 3) .nil)))) (.ret (.lit (.bool false))) .skip) (.seq (.ifs (.op .ne (.cons (.op .eq (.cons (.var 3) (.cons (.op .mkt .nil) .nil))) (.cons (.op .eq (.cons (.op .len (.cons (.call 15 (.cons (.var 2) .nil)) .nil)) (.cons (.lit (.int 1)) .nil))) .nil))) (.ret (.lit (.bool false))) .skip) (.seq (.asg (.name 4) (.call 50 (.cons (.var 2) .nil))) (.seq fo_law_k13_1 (.ifs (.or (.op .ne (.cons (.call 61 (.cons (.op .mkt (.cons (.lit (dS [97, 98, 99])) (.cons (.lit (dS [97, 99, 98])) .nil))) .nil)) (.cons (.op .mkt (.cons (.lit (dS [97, 98])) (.cons (.lit (dS [97, 99])) (.cons (.lit (dS [98, 99])) .nil)))) .nil))) (.op .ne (.cons (.call 61 (.cons (.op .mkt (.cons (.lit (dS [97])) (.cons (.lit (dS [97])) .nil))) .nil)) (.cons (.op .mkt .nil) .nil)))) (.ret (.lit (.bool false))) .skip)))))))
abbrev n_law_k13 : Nat := 8
abbrev cc_law_k14_1 : E := (.call 82 (.cons (.var 2) (.cons (.var 4) .nil)))
abbrev lc_law_k14_1 : E := (.lc [4] (.name 4) (.it .seq (.cons (.call 77 (.cons (.call 23 (.cons (.var 2) .nil)) .nil)) .nil)) cc_law_k14_1 (.var 4))
abbrev ce_law_k14_1 : E := (.op .isin (.cons (.var 6) (.cons (.var 7) .nil)))
abbrev lc_law_k14_2 : E := (.lc [6] (.name 6) (.it .seq (.cons (.var 5) .nil)) (.lit (.bool true)) ce_law_k14_1)
abbrev ce_law_k14_2 : E := (.op .any (.cons lc_law_k14_2 .nil))
abbrev lc_law_k14_3 : E := (.lc [7] (.name 7) (.it .seq (.cons (.var 3) .nil)) (.lit (.bool true)) ce_law_k14_2)
abbrev fb_law_k14_1 : S := (.ifs (.op .not (.cons (.op .all (.cons lc_law_k14_3 .nil)) .nil)) (.ret (.lit (.bool false))) .skip)
abbrev fo_law_k14_1 : S := (.for_ (.name 5) (.it .seq (.cons (.slcH (.call 59 (.cons (.var 2) .nil)) (.lit (.int 4))) .nil)) fb_law_k14_1)
def b_law_k14 : S := (.seq (.asg (.name 2) (.callIO 27 1 (.cons (.lit (.int 6)) .nil))) (.seq (.asg (.name 3) (.op .tuple (.cons (.op .sorted (.cons lc_law_k14_1 .nil)) .nil))) (.seq (.ifs (.or (.op .ne (.cons (.call 50 (.cons (.var 2) .nil)) (.cons (.var 3) .nil))) (.op .ne (.cons (.call 61 (.cons (.call 33 (.cons (.var 2) .nil)) .nil)) (.cons (.var 3) .nil)))) (.ret (.lit (.bool false))) .skip) (.seq (.ifs (.op .ne (.cons (.op .eq (.cons (.var 3) (.cons (.op .mkt .nil) .nil))) (.cons (.op .eq (.cons (.op .len (.cons (.var 2) .nil)) (.cons (.lit (.int 1)) .nil))) .nil))) (.ret (.lit (.bool false))) .skip) (.seq fo_law_k14_1 (.ifs (.or (.op .ne (.cons (.call 50 (.cons (.op .mkt (.cons (.lit (dS [97, 98, 99])) (.cons (.lit (dS [97, 99, 98])) .nil))) .nil)) (.cons (.op .mkt (.cons (.lit (dS [97, 98, 99])) .nil)) .nil))) (.op .ne (.cons (.call 50 (.cons (.op .mkt (.cons (.lit (dS [97, 97])) .nil)) .nil)) (.cons (.op .mkt .nil) .nil)))) (.ret (.lit (.bool false))) .skip))))))
abbrev n_law_k14 : Nat := 8
abbrev fb_law_k15_1 : S := (.seq (.par [(5, 0), (6, 0)] (.cons (.call 44 (.cons (.var 2) (.cons (.var 4) .nil))) (.cons (.told (.call 73 (.cons (.var 2) (.cons (.var 4) .nil)))) .nil))) (.ifs (.op .eq (.cons (.op .item (.cons (.var 5) (.cons (.lit (.int 0)) .nil))) (.cons (.op .item (.cons (.var 5) (.cons (.lit (.int 1)) .nil))) .nil))) (.ifs (.op .ne (.cons (.var 6) (.cons (.op .mkt (.cons (.lit (dS [101, 114, 114, 111, 114])) (.cons (.lit (dS [66, 114, 105, 100, 103, 101])) .nil))) .nil))) (.ret (.lit (.bool false))) .skip) (.ifs (.op .eq (.cons (.op .len (.cons (.var 3) .nil)) (.cons (.lit (.int 1)) .nil))) (.ifs (.op .ne (.cons (.var 6) (.cons (.op .mkt (.cons (.lit (dS [101, 114, 114, 111, 114])) (.cons (.lit (dS [76, 97, 115, 116, 66, 111, 114, 100, 101, 114])) .nil))) .nil))) (.ret (.lit (.bool false))) .skip) (.seq (.ifs (.or (.op .ne (.cons (.var 6) (.cons (.call 83 (.cons (.var 2) (.cons (.var 4) .nil))) .nil))) (.op .not (.cons (.call 12 (.cons (.var 6) .nil)) .nil))) (.ret (.lit (.bool false))) .skip) (.seq (.ifs (.or (.op .ne (.cons (.op .len (.cons (.call 15 (.cons (.var 6) .nil)) .nil)) (.cons (.op .sub (.cons (.op .len (.cons (.call 15 (.cons (.var 2) .nil)) .nil)) (.cons (.lit (.int 1)) .nil))) .nil))) (.op .ne (.cons (.op .len (.cons (.var 6) .nil)) (.cons (.op .len (.cons (.var 2) .nil)) .nil)))) (.ret (.lit (.bool false))) .skip) (.ifs (.op .not (.cons (.call 39 (.cons (.call 33 (.cons (.var 6) .nil)) (.cons (.call 74 (.cons (.call 33 (.cons (.var 2) .nil)) (.cons (.var 4) .nil))) .nil))) .nil)) (.ret (.lit (.bool false))) .skip))))))
abbrev fo_law_k15_1 : S := (.for_ (.name 4) (.it .seq (.cons (.var 3) .nil)) fb_law_k15_1)
abbrev fb_law_k15_2 : S := (.ifs (.and (.op .ne (.cons (.var 7) (.cons (.lit (dS [97])) .nil))) (.op .ne (.cons (.told (.call 73 (.cons (.var 2) (.cons (.var 7) .nil)))) (.cons (.op .mkt (.cons (.lit (dS [101, 114, 114, 111, 114])) (.cons (.lit (dS [73, 110, 118, 97, 108, 105, 100, 66, 111, 114, 100, 101, 114])) .nil))) .nil)))) (.ret (.lit (.bool false))) .skip)
abbrev fo_law_k15_2 : S := (.for_ (.name 7) (.it .seq (.cons (.op .mkl (.cons (.lit (dS [])) (.cons (.lit (dS [122])) (.cons (.lit .none) (.cons (.var 3) (.cons (.op .add (.cons (.var 3) (.cons (.lit (dS [97])) .nil))) (.cons (.lit (.int 1)) .nil))))))) .nil)) fb_law_k15_2)
def b_law_k15 : S := (.seq (.asg (.name 2) (.callIO 27 1 (.cons (.lit (.int 7)) .nil))) (.seq (.asg (.name 3) (.call 23 (.cons (.var 2) .nil))) (.seq fo_law_k15_1 (.seq fo_law_k15_2 (.seq (.ifs (.op .ne (.cons (.told (.call 73 (.cons (.op .mkt (.cons (.lit (dS [97])) (.cons (.lit (dS [97])) .nil))) (.cons (.lit (dS [97])) .nil)))) (.cons (.op .mkt (.cons (.lit (dS [101, 114, 114, 111, 114])) (.cons (.lit (dS [66, 114, 105, 100, 103, 101])) .nil))) .nil))) (.ret (.lit (.bool false))) .skip) (.ifs (.op .ne (.cons (.told (.call 73 (.cons (.op .mkt (.cons (.lit (dS [97, 97])) .nil)) (.cons (.lit (dS [97])) .nil)))) (.cons (.op .mkt (.cons (.lit (dS [101, 114, 114, 111, 114])) (.cons (.lit (dS [76, 97, 115, 116, 66, 111, 114, 100, 101, 114])) .nil))) .nil))) (.ret (.lit (.bool false))) .skip))))))
abbrev n_law_k15 : Nat := 8
abbrev fb_law_k16_1 : S := (.seq (.par [(5, 0), (6, 0)] (.cons (.call 45 (.cons (.var 2) (.cons (.var 4) .nil))) (.cons (.told (.call 74 (.cons (.var 2) (.cons (.var 4) .nil)))) .nil))) (.ifs (.op .eq (.cons (.op .item (.cons (.var 5) (.cons (.lit (.int 0)) .nil))) (.cons (.op .item (.cons (.var 5) (.cons (.lit (.int 1)) .nil))) .nil))) (.ifs (.op .ne (.cons (.var 6) (.cons (.op .mkt (.cons (.lit (dS [101, 114, 114, 111, 114])) (.cons (.lit (dS [76, 111, 111, 112])) .nil))) .nil))) (.ret (.lit (.bool false))) .skip) (.ifs (.op .eq (.cons (.op .len (.cons (.var 3) .nil)) (.cons (.lit (.int 1)) .nil))) (.ifs (.op .ne (.cons (.var 6) (.cons (.op .mkt (.cons (.lit (dS [101, 114, 114, 111, 114])) (.cons (.lit (dS [76, 97, 115, 116, 66, 111, 114, 100, 101, 114])) .nil))) .nil))) (.ret (.lit (.bool false))) .skip) (.seq (.ifs (.or (.op .ne (.cons (.var 6) (.cons (.call 85 (.cons (.var 2) (.cons (.var 4) .nil))) .nil))) (.op .not (.cons (.call 12 (.cons (.var 6) .nil)) .nil))) (.ret (.lit (.bool false))) .skip) (.seq (.ifs (.or (.op .ne (.cons (.op .len (.cons (.var 6) .nil)) (.cons (.op .sub (.cons (.op .len (.cons (.var 2) .nil)) (.cons (.lit (.int 1)) .nil))) .nil))) (.op .ne (.cons (.op .len (.cons (.call 15 (.cons (.var 6) .nil)) .nil)) (.cons (.op .len (.cons (.call 15 (.cons (.var 2) .nil)) .nil)) .nil)))) (.ret (.lit (.bool false))) .skip) (.ifs (.op .not (.cons (.call 39 (.cons (.call 33 (.cons (.var 6) .nil)) (.cons (.call 73 (.cons (.call 33 (.cons (.var 2) .nil)) (.cons (.var 4) .nil))) .nil))) .nil)) (.ret (.lit (.bool false))) .skip))))))
abbrev fo_law_k16_1 : S := (.for_ (.name 4) (.it .seq (.cons (.var 3) .nil)) fb_law_k16_1)
abbrev fb_law_k16_2 : S := (.ifs (.op .ne (.cons (.told (.call 74 (.cons (.var 2) (.cons (.var 7) .nil)))) (.cons (.op .mkt (.cons (.lit (dS [101, 114, 114, 111, 114])) (.cons (.lit (dS [73, 110, 118, 97, 108, 105, 100, 66, 111, 114, 100, 101, 114])) .nil))) .nil))) (.ret (.lit (.bool false))) .skip)
abbrev fo_law_k16_2 : S := (.for_ (.name 7) (.it .seq (.cons (.op .mkl (.cons (.lit (dS [])) (.cons (.lit (dS [122])) (.cons (.lit .none) (.cons (.lit (.int 1)) (.cons (.op .mkl (.cons (.lit (dS [97])) .nil)) .nil)))))) .nil)) fb_law_k16_2)
def b_law_k16 : S := (.seq (.asg (.name 2) (.callIO 27 1 (.cons (.lit (.int 7)) .nil))) (.seq (.asg (.name 3) (.call 23 (.cons (.var 2) .nil))) (.seq fo_law_k16_1 (.seq fo_law_k16_2 (.seq (.ifs (.op .ne (.cons (.told (.call 74 (.cons (.op .mkt (.cons (.lit (dS [97, 97])) .nil)) (.cons (.lit (dS [97])) .nil)))) (.cons (.op .mkt (.cons (.lit (dS [101, 114, 114, 111, 114])) (.cons (.lit (dS [76, 111, 111, 112])) .nil))) .nil))) (.ret (.lit (.bool false))) .skip) (.ifs (.op .ne (.cons (.call 74 (.cons (.op .mkt (.cons (.lit (dS [97])) (.cons (.lit (dS [97, 98])) (.cons (.lit (dS [98])) .nil)))) (.cons (.lit (dS [97])) .nil))) (.cons (.op .mkt (.cons (.lit (dS [97])) (.cons (.lit (dS [97])) .nil))) .nil))) (.ret (.lit (.bool false))) .skip))))))
abbrev n_law_k16 : Nat := 8
abbrev fb_law_k18_1 : S := (.seq (.ifs (.op .ne (.cons (.call 97 (.cons (.var 2) (.cons (.var 3) (.cons (.var 5) .nil)))) (.cons (.op .item (.cons (.var 4) (.cons (.var 5) .nil))) .nil))) (.ret (.lit (.bool false))) .skip) (.ifs (.op .ne (.cons (.call 97 (.cons (.var 2) (.cons (.var 5) (.cons (.var 3) .nil)))) (.cons (.op .item (.cons (.var 4) (.cons (.var 5) .nil))) .nil))) (.ret (.lit (.bool false))) .skip))
abbrev fo_law_k18_1 : S := (.for_ (.name 5) (.it .range1 (.cons (.op .len (.cons (.var 2) .nil)) .nil)) fb_law_k18_1)
abbrev fb_law_k18_2 : S := (.seq (.ifs (.op .ne (.cons (.call 98 (.cons (.var 2) (.cons (.var 8) (.cons (.var 9) .nil)))) (.cons (.call 97 (.cons (.var 6) (.cons (.var 8) (.cons (.var 9) .nil)))) .nil))) (.ret (.lit (.bool false))) .skip) (.ifs (.op .ne (.cons (.op .eq (.cons (.call 98 (.cons (.var 2) (.cons (.var 8) (.cons (.var 9) .nil)))) (.cons (.lit (.int 0)) .nil))) (.cons (.op .eq (.cons (.var 8) (.cons (.var 9) .nil))) .nil))) (.ret (.lit (.bool false))) .skip))
abbrev fo_law_k18_2 : S := (.for_ (.name 9) (.it .range1 (.cons (.var 7) .nil)) fb_law_k18_2)
abbrev fb_law_k18_3 : S := (.ifs (.op .ne (.cons (.told (.call 97 (.cons (.var 2) (.cons (.lit (.int 0)) (.cons (.var 10) .nil))))) (.cons (.op .mkt (.cons (.lit (dS [101, 114, 114, 111, 114])) (.cons (.lit (dS [73, 110, 118, 97, 108, 105, 100, 80, 111, 105, 110, 116])) .nil))) .nil))) (.ret (.lit (.bool false))) .skip)
abbrev fo_law_k18_3 : S := (.for_ (.name 10) (.it .seq (.cons (.op .mkl (.cons (.op .neg (.cons (.lit (.int 1)) .nil)) (.cons (.op .len (.cons (.var 2) .nil)) (.cons (.lit (.bool true)) (.cons (.lit .none) (.cons (.lit (dS [48])) .nil)))))) .nil)) fb_law_k18_3)
abbrev fb_law_k18_4 : S := (.ifs (.op .ne (.cons (.told (.call 98 (.cons (.var 2) (.cons (.var 10) (.cons (.lit (.int 0)) .nil))))) (.cons (.op .mkt (.cons (.lit (dS [101, 114, 114, 111, 114])) (.cons (.lit (dS [73, 110, 118, 97, 108, 105, 100, 76, 97, 110, 100])) .nil))) .nil))) (.ret (.lit (.bool false))) .skip)
abbrev fo_law_k18_4 : S := (.for_ (.name 10) (.it .seq (.cons (.op .mkl (.cons (.op .neg (.cons (.lit (.int 1)) .nil)) (.cons (.var 7) (.cons (.lit (.bool true)) (.cons (.lit .none) .nil))))) .nil)) fb_law_k18_4)
def b_law_k18 : S := (.seq (.asg (.name 2) (.callIO 27 1 (.cons (.lit (.int 7)) .nil))) (.seq (.asg (.name 3) (.callIO 18 1 (.cons (.op .len (.cons (.var 2) .nil)) .nil))) (.seq (.asg (.name 4) (.call 99 (.cons (.var 2) (.cons (.var 3) .nil)))) (.seq fo_law_k18_1 (.seq (.par [(6, 0), (7, 0)] (.cons (.call 33 (.cons (.var 2) .nil)) (.cons (.op .len (.cons (.call 15 (.cons (.var 2) .nil)) .nil)) .nil))) (.seq (.asg (.name 8) (.callIO 18 1 (.cons (.var 7) .nil))) (.seq fo_law_k18_2 (.seq fo_law_k18_3 fo_law_k18_4))))))))
abbrev n_law_k18 : Nat := 11
abbrev fb_law_k20_1 : S := (.asg (.name 3) (.op .add (.cons (.op .add (.cons (.var 3) (.cons (.lit (dS [32])) .nil))) (.cons (.var 4) .nil))))
abbrev fo_law_k20_1 : S := (.for_ (.name 4) (.it .seq (.cons (.slcL (.var 2) (.lit (.int 1))) .nil)) fb_law_k20_1)
abbrev fb_law_k20_2 : S := (.seq (.par [(6, 0), (7, 0)] (.cons (.callIO 18 1 (.cons (.op .add (.cons (.op .len (.cons (.var 3) .nil)) (.cons (.lit (.int 1)) .nil))) .nil)) (.cons (.op .item (.cons (.lit (dS [32, 97, 98, 99, 104])) (.cons (.callIO 18 1 (.cons (.lit (.int 5)) .nil)) .nil))) .nil))) (.seq (.asg (.name 8) (.op .item (.cons (.op .mkl (.cons (.op .add (.cons (.slcH (.var 3) (.var 6)) (.cons (.slcL (.var 3) (.op .add (.cons (.var 6) (.cons (.lit (.int 1)) .nil)))) .nil))) (.cons (.op .add (.cons (.op .add (.cons (.slcH (.var 3) (.var 6)) (.cons (.var 7) .nil))) (.cons (.slcL (.var 3) (.var 6)) .nil))) (.cons (.op .add (.cons (.var 3) (.cons (.var 7) .nil))) (.cons (.slcH (.var 3) (.var 6)) .nil))))) (.cons (.op .mod (.cons (.var 5) (.cons (.lit (.int 4)) .nil))) .nil)))) (.seq (.asg (.name 9) (.told (.call 107 (.cons (.var 8) .nil)))) (.ifs (.op .ne (.cons (.var 9) (.cons (.op .mkt (.cons (.lit (dS [101, 114, 114, 111, 114])) (.cons (.lit (dS [73, 110, 118, 97, 108, 105, 100, 84, 101, 120, 116])) .nil))) .nil))) (.ifs (.or (.op .not (.cons (.call 12 (.cons (.var 9) .nil)) .nil)) (.op .ne (.cons (.call 106 (.cons (.var 9) .nil)) (.cons (.var 8) .nil)))) (.ret (.lit (.bool false))) .skip) .skip))))
abbrev fo_law_k20_2 : S := (.for_ (.name 5) (.it .range1 (.cons (.lit (.int 8)) .nil)) fb_law_k20_2)
abbrev fb_law_k20_3 : S := (.ifs (.op .ne (.cons (.told (.call 107 (.cons (.var 11) .nil))) (.cons (.op .mkt (.cons (.lit (dS [101, 114, 114, 111, 114])) (.cons (.lit (dS [73, 110, 118, 97, 108, 105, 100, 84, 101, 120, 116])) .nil))) .nil))) (.ret (.lit (.bool false))) .skip)
abbrev fo_law_k20_3 : S := (.for_ (.name 11) (.it .seq (.cons (.var 10) .nil)) fb_law_k20_3)
def b_law_k20 : S := (.seq (.asg (.name 2) (.callIO 27 1 (.cons (.lit (.int 8)) .nil))) (.seq (.asg (.name 3) (.op .item (.cons (.var 2) (.cons (.lit (.int 0)) .nil)))) (.seq fo_law_k20_1 (.seq (.ifs (.or (.op .ne (.cons (.call 106 (.cons (.var 2) .nil)) (.cons (.var 3) .nil))) (.op .ne (.cons (.told (.call 107 (.cons (.var 3) .nil))) (.cons (.var 2) .nil)))) (.ret (.lit (.bool false))) .skip) (.seq fo_law_k20_2 (.seq (.asg (.name 10) (.op .mkl (.cons (.lit (dS [])) (.cons (.lit (dS [32])) (.cons (.lit .none) (.cons (.lit (.int 5)) (.cons (.lit (dS [97])) (.cons (.lit (dS [97, 98, 97, 98])) (.cons (.lit (dS [97, 97, 32, 98, 98])) (.cons (.lit (dS [97, 32, 32, 97])) (.cons (.lit (dS [97, 44, 97])) (.cons (.lit (dS [97, 98, 32, 97, 98, 32])) (.cons (.var 2) (.cons (.op .mkl (.cons (.var 3) .nil)) .nil)))))))))))))) (.seq (.asg (.name 10) (.op .add (.cons (.var 10) (.cons (.op .mkl (.cons (.lit (dS [122, 122])) (.cons (.lit (dS [65, 65])) .nil))) .nil)))) fo_law_k20_3)))))))
abbrev n_law_k20 : Nat := 12
end Bm
end
section
set_option Elab.async false
set_option linter.all false
set_option maxRecDepth 100000
set_option maxHeartbeats 4000000
namespace Bm.Lk02
open PySem PySem.Spec L2 LamX L2H HotX Bm
def top (i : Nat) : Stmt := PySem.Challenge.pw_ballmaps_k02_whole_lands.main.body.getD i (.Pass ⟨0, 0, 0, 0⟩)
abbrev s_is_drawing : Stmt := top 5
abbrev s_ends_in : Stmt := top 6
abbrev s_letter_at : Stmt := top 7
abbrev s_other_end : Stmt := top 8
abbrev s_next_around : Stmt := top 9
abbrev s_gone_on : Stmt := top 10
abbrev s_least_turn : Stmt := top 11
abbrev s_rounds : Stmt := top 12
abbrev s_reached : Stmt := top 13
abbrev s_pairs_of : Stmt := top 14
abbrev s_points_of : Stmt := top 15
abbrev s_letters_of : Stmt := top 16
abbrev s_is_map : Stmt := top 17
abbrev s_need_map : Stmt := top 18
abbrev s_land_strings : Stmt := top 19
abbrev s_lands : Stmt := top 20
abbrev s__law_cell : Stmt := top 22
abbrev s__law_drawn : Stmt := top 23
abbrev s__law_roll : Stmt := top 24
abbrev s__law_rounds : Stmt := top 25
abbrev s__law_ends : Stmt := top 26
abbrev s__law_letters : Stmt := top 27
abbrev s__law_on : Stmt := top 28
abbrev s__law_walks : Stmt := top 29
abbrev s__law_turned : Stmt := top 30
abbrev s__law_lands : Stmt := top 31
abbrev s__law_put : Stmt := top 32
abbrev s__law_any_map : Stmt := top 33
abbrev s__law_copy : Stmt := top 34
abbrev s_law : Stmt := top 35
structure Txt (K : PySem.W.Frag) (mg : Str → Option Value) (ca : Nat → Addr) (tk0 : Tok) : Prop where
  b_all : mg "all" = none
  b_enumerate : mg "enumerate" = none
  b_isinstance : mg "isinstance" = none
  b_len : mg "len" = none
  b_list : mg "list" = none
  b_max : mg "max" = none
  b_min : mg "min" = none
  b_range : mg "range" = none
  b_sorted : mg "sorted" = none
  b_str : mg "str" = none
  b_sum : mg "sum" = none
  b_tuple : mg "tuple" = none
  g_NAMES : mg "NAMES" = some (.str (Str.ofString "abcdefgh") tk0)
  x_InvalidMap : ExcAt K mg "InvalidMap" (ca 0)
structure Defs (K : PySem.W.Frag) (mg : Str → Option Value) : Prop where
  f_is_drawing : ∃ fa fd, mg "is_drawing" = some (.ref fa) ∧ Fun K "is_drawing" "is_drawing" s_is_drawing fa fd
  f_ends_in : ∃ fa fd, mg "ends_in" = some (.ref fa) ∧ Fun K "ends_in" "ends_in" s_ends_in fa fd
  f_letter_at : ∃ fa fd, mg "letter_at" = some (.ref fa) ∧ Fun K "letter_at" "letter_at" s_letter_at fa fd
  f_other_end : ∃ fa fd, mg "other_end" = some (.ref fa) ∧ Fun K "other_end" "other_end" s_other_end fa fd
  f_next_around : ∃ fa fd, mg "next_around" = some (.ref fa) ∧ Fun K "next_around" "next_around" s_next_around fa fd
  f_gone_on : ∃ fa fd, mg "gone_on" = some (.ref fa) ∧ Fun K "gone_on" "gone_on" s_gone_on fa fd
  f_least_turn : ∃ fa fd, mg "least_turn" = some (.ref fa) ∧ Fun K "least_turn" "least_turn" s_least_turn fa fd
  f_rounds : ∃ fa fd, mg "rounds" = some (.ref fa) ∧ Fun K "rounds" "rounds" s_rounds fa fd
  f_reached : ∃ fa fd, mg "reached" = some (.ref fa) ∧ Fun K "reached" "reached" s_reached fa fd
  f_pairs_of : ∃ fa fd, mg "pairs_of" = some (.ref fa) ∧ Fun K "pairs_of" "pairs_of" s_pairs_of fa fd
  f_points_of : ∃ fa fd, mg "points_of" = some (.ref fa) ∧ Fun K "points_of" "points_of" s_points_of fa fd
  f_letters_of : ∃ fa fd, mg "letters_of" = some (.ref fa) ∧ Fun K "letters_of" "letters_of" s_letters_of fa fd
  f_is_map : ∃ fa fd, mg "is_map" = some (.ref fa) ∧ Fun K "is_map" "is_map" s_is_map fa fd
  f_need_map : ∃ fa fd, mg "need_map" = some (.ref fa) ∧ Fun K "need_map" "need_map" s_need_map fa fd
  f_land_strings : ∃ fa fd, mg "land_strings" = some (.ref fa) ∧ Fun K "land_strings" "land_strings" s_land_strings fa fd
  f_lands : ∃ fa fd, mg "lands" = some (.ref fa) ∧ Fun K "lands" "lands" s_lands fa fd
  f__law_cell : ∃ fa fd, mg "_law_cell" = some (.ref fa) ∧ Fun K "_law_cell" "_law_cell" s__law_cell fa fd
  f__law_drawn : ∃ fa fd, mg "_law_drawn" = some (.ref fa) ∧ Fun K "_law_drawn" "_law_drawn" s__law_drawn fa fd
  f__law_roll : ∃ fa fd, mg "_law_roll" = some (.ref fa) ∧ Fun K "_law_roll" "_law_roll" s__law_roll fa fd
  f__law_rounds : ∃ fa fd, mg "_law_rounds" = some (.ref fa) ∧ Fun K "_law_rounds" "_law_rounds" s__law_rounds fa fd
  f__law_ends : ∃ fa fd, mg "_law_ends" = some (.ref fa) ∧ Fun K "_law_ends" "_law_ends" s__law_ends fa fd
  f__law_letters : ∃ fa fd, mg "_law_letters" = some (.ref fa) ∧ Fun K "_law_letters" "_law_letters" s__law_letters fa fd
  f__law_on : ∃ fa fd, mg "_law_on" = some (.ref fa) ∧ Fun K "_law_on" "_law_on" s__law_on fa fd
  f__law_walks : ∃ fa fd, mg "_law_walks" = some (.ref fa) ∧ Fun K "_law_walks" "_law_walks" s__law_walks fa fd
  f__law_turned : ∃ fa fd, mg "_law_turned" = some (.ref fa) ∧ Fun K "_law_turned" "_law_turned" s__law_turned fa fd
  f__law_lands : ∃ fa fd, mg "_law_lands" = some (.ref fa) ∧ Fun K "_law_lands" "_law_lands" s__law_lands fa fd
  f__law_put : ∃ fa fd, mg "_law_put" = some (.ref fa) ∧ Fun K "_law_put" "_law_put" s__law_put fa fd
  f__law_any_map : ∃ fa fd, mg "_law_any_map" = some (.ref fa) ∧ Fun K "_law_any_map" "_law_any_map" s__law_any_map fa fd
  f__law_copy : ∃ fa fd, mg "_law_copy" = some (.ref fa) ∧ Fun K "_law_copy" "_law_copy" s__law_copy fa fd
section
variable (P : Program) (w : World) (K : PySem.W.Frag) (mg : Str → Option Value) (base : Heap) (J : Hp → Prop) (hJ : ∀ H H' : Hp, (∀ b o, H b = some o → H' b = some o ∨ isMut o) → J H → J H') (ca : Nat → Addr) (tk0 : Tok)
def At (n : Nat) : Nat → Prop
  | 0 => FnAt P w K mg base (n + 1) "is_drawing" (spF K J (fun k => .ref (ca k)) (run T n 0 none))
  | 1 => FnAt P w K mg base (n + 1) "ends_in" (spF K J (fun k => .ref (ca k)) (run T n 1 none))
  | 2 => FnAt P w K mg base (n + 1) "letter_at" (spF K J (fun k => .ref (ca k)) (run T n 2 none))
  | 3 => FnAt P w K mg base (n + 1) "other_end" (spF K J (fun k => .ref (ca k)) (run T n 3 none))
  | 4 => FnAt P w K mg base (n + 1) "next_around" (spF K J (fun k => .ref (ca k)) (run T n 4 none))
  | 5 => FnAt P w K mg base (n + 1) "gone_on" (spF K J (fun k => .ref (ca k)) (run T n 5 none))
  | 6 => FnAt P w K mg base (n + 1) "least_turn" (spF K J (fun k => .ref (ca k)) (run T n 6 none))
  | 7 => FnAt P w K mg base (n + 1) "rounds" (spF K J (fun k => .ref (ca k)) (run T n 7 none))
  | 8 => FnAt P w K mg base (n + 1) "reached" (spF K J (fun k => .ref (ca k)) (run T n 8 none))
  | 9 => FnAt P w K mg base (n + 1) "pairs_of" (spF K J (fun k => .ref (ca k)) (run T n 9 none))
  | 10 => FnAt P w K mg base (n + 1) "points_of" (spF K J (fun k => .ref (ca k)) (run T n 10 none))
  | 11 => FnAt P w K mg base (n + 1) "letters_of" (spF K J (fun k => .ref (ca k)) (run T n 11 none))
  | 12 => FnAt P w K mg base (n + 1) "is_map" (spF K J (fun k => .ref (ca k)) (run T n 12 none))
  | 13 => FnAt P w K mg base (n + 1) "need_map" (spF K J (fun k => .ref (ca k)) (run T n 13 none))
  | 14 => FnAt P w K mg base (n + 1) "land_strings" (spF K J (fun k => .ref (ca k)) (run T n 14 none))
  | 15 => FnAt P w K mg base (n + 1) "lands" (spF K J (fun k => .ref (ca k)) (run T n 15 none))
  | 17 => FnAt P w K mg base (n + 1) "_law_drawn" (spF K J (fun k => .ref (ca k)) (run T n 17 none))
  | 18 => FnAt P w K mg base (n + 1) "_law_roll" (spIO K J fun m => run T n 18 (some m))
  | 22 => FnAt P w K mg base (n + 1) "_law_ends" (spF K J (fun k => .ref (ca k)) (run T n 22 none))
  | 23 => FnAt P w K mg base (n + 1) "_law_letters" (spF K J (fun k => .ref (ca k)) (run T n 23 none))
  | 24 => FnAt P w K mg base (n + 1) "_law_on" (spF K J (fun k => .ref (ca k)) (run T n 24 none))
  | 25 => FnAt P w K mg base (n + 1) "_law_walks" (spF K J (fun k => .ref (ca k)) (run T n 25 none))
  | 26 => FnAt P w K mg base (n + 1) "_law_put" (spF K J (fun k => .ref (ca k)) (run T n 26 none))
  | 27 => FnAt P w K mg base (n + 1) "_law_any_map" (spIO K J fun m => run T n 27 (some m))
  | 30 => FnAt P w K mg base (n + 1) "_law_turned" (spF K J (fun k => .ref (ca k)) (run T n 30 none))
  | 31 => FnAt P w K mg base (n + 1) "_law_lands" (spF K J (fun k => .ref (ca k)) (run T n 31 none))
  | 32 => FnAt P w K mg base (n + 1) "_law_copy" (spIO K J fun m => run T n 32 (some m))
  | _ => True
theorem sc_is_drawing : FnScope ["value", "one", "text", "many"] ["value"] (defScope s_is_drawing) := ⟨rfl, rfl, rfl, by decide +kernel, rfl, by decide +kernel, by decide +kernel⟩
theorem d_is_drawing (Z : Txt K mg ca tk0) (n : Nat) (G : ∀ f, At P w K mg base J ca n f) (fa : Addr) (W : Ent) (E : XK) (cdv : Value) (A : Around) (outer : List PySem.Env) (s : Shared) (H : Hp) (hp : ∀ b, W.P0 b) (hr : Room (n + 1) (A.deeper (PyProof.Rows.envOfC "is_drawing" (defScope s_is_drawing) s.heap.objs.size fa cdv))) :
    PSs (cxOf (L2N.CX P w) P w K mg base ["value", "one", "text", "many"] "is_drawing" (defScope s_is_drawing) fa cdv A outer s H E) (defBody s_is_drawing) (TSv K (cfg J hJ (fun k => .ref (ca k)) (run T n) W E) b_is_drawing) := by
  have nd := (sc_is_drawing).nd
  have hu : (A.deeper (PyProof.Rows.envOfC "is_drawing" (defScope s_is_drawing) s.heap.objs.size fa cdv)).units + 64 < cLine := hr.units
  have hu1 : (A.deeper (PyProof.Rows.envOfC "is_drawing" (defScope s_is_drawing) s.heap.objs.size fa cdv)).units + 1 < cLine := by omega
  have hc : (cxOf (L2N.CX P w) P w K mg base ["value", "one", "text", "many"] "is_drawing" (defScope s_is_drawing) fa cdv A outer s H E).calm = true := rfl
  have tk : L2N.Takes (cxOf (L2N.CX P w) P w K mg base ["value", "one", "text", "many"] "is_drawing" (defScope s_is_drawing) fa cdv A outer s H E) (fun cls d _ H => E cls d H) := L2N.takes_of rfl rfl rfl rfl
  have hx : Passes (L2N.CX P w) (cxOf (L2N.CX P w) P w K mg base ["value", "one", "text", "many"] "is_drawing" (defScope s_is_drawing) fa cdv A outer s H E) E := L2N.passes_call tk (fun _ _ _ _ h => h)
  have po : PassesOwn (model P w) (cxOf (L2N.CX P w) P w K mg base ["value", "one", "text", "many"] "is_drawing" (defScope s_is_drawing) fa cdv A outer s H E).A (cxOf (L2N.CX P w) P w K mg base ["value", "one", "text", "many"] "is_drawing" (defScope s_is_drawing) fa cdv A outer s H E).env (cxOf (L2N.CX P w) P w K mg base ["value", "one", "text", "many"] "is_drawing" (defScope s_is_drawing) fa cdv A outer s H E).xe := passes_of rfl
  exact (ss_cons (ss_if (PW.pt (sx_or (sw_not (sw_val (sv_istup (by rfl) Z.b_isinstance (by rfl) Z.b_tuple (sv_var (i := 0))))) (sx_or1 (sw_not (sw_val (sv_all hc (by rfl) Z.b_all (sv_lc hc nd (si_seq (sv_var (i := 0))) (blkOk_by (N := ["value", "one", "text", "many"]) (sc := defScope s_is_drawing) (own := [("one", 1)]) (by decide +kernel)) to_name rfl (fun _ _ _ _ _ => (pg_name (i := 1) nd rfl (Or.inl rfl))) (fun _ _ _ _ _ => st_nil) (fun _ _ _ _ _ => (sv_and (sv_isstr (by rfl) Z.b_isinstance (by rfl) Z.b_str (sv_var (i := 1))) (sv_one (sv_ne hu (sv_var (i := 1)) sv_strL))))))))))) (ss_one (ss_ret sv_bool)) ss_nil) (ss_cons (ss_asg tg_name (sv_join sv_strL (sv_var (i := 0))) (pg_name (i := 2) nd rfl (Or.inl rfl))) (ss_cons (ss_asg tg_name (sv_fdiv (sv_len (by rfl) Z.b_len (sv_var (i := 2))) sv_int) (pg_name (i := 3) nd rfl (Or.inl rfl))) (ss_one (ss_ret (sv_and (sv_lele sv_int (sv_len (by rfl) Z.b_len (sv_var (i := 2))) sv_int) (sv_one (sv_eq hu (sv_sorted hc hu (by rfl) Z.b_sorted (sv_var (i := 2))) (sv_sorted hc hu (by rfl) Z.b_sorted (sv_mul (sv_slcH (sv_gstrL (by rfl) Z.g_NAMES) (sv_var (i := 3))) sv_int))))))))))
theorem sc_ends_in : FnScope ["chart", "found", "point", "row", "place"] ["chart"] (defScope s_ends_in) := ⟨rfl, rfl, rfl, by decide +kernel, rfl, by decide +kernel, by decide +kernel⟩
theorem d_ends_in (Z : Txt K mg ca tk0) (n : Nat) (G : ∀ f, At P w K mg base J ca n f) (fa : Addr) (W : Ent) (E : XK) (cdv : Value) (A : Around) (outer : List PySem.Env) (s : Shared) (H : Hp) (hp : ∀ b, W.P0 b) (hr : Room (n + 1) (A.deeper (PyProof.Rows.envOfC "ends_in" (defScope s_ends_in) s.heap.objs.size fa cdv))) :
    PSs (cxOf (L2N.CX P w) P w K mg base ["chart", "found", "point", "row", "place"] "ends_in" (defScope s_ends_in) fa cdv A outer s H E) (defBody s_ends_in) (TSv K (cfg J hJ (fun k => .ref (ca k)) (run T n) W E) b_ends_in) := by
  have nd := (sc_ends_in).nd
  have hu : (A.deeper (PyProof.Rows.envOfC "ends_in" (defScope s_ends_in) s.heap.objs.size fa cdv)).units + 64 < cLine := hr.units
  have hu1 : (A.deeper (PyProof.Rows.envOfC "ends_in" (defScope s_ends_in) s.heap.objs.size fa cdv)).units + 1 < cLine := by omega
  have hc : (cxOf (L2N.CX P w) P w K mg base ["chart", "found", "point", "row", "place"] "ends_in" (defScope s_ends_in) fa cdv A outer s H E).calm = true := rfl
  have tk : L2N.Takes (cxOf (L2N.CX P w) P w K mg base ["chart", "found", "point", "row", "place"] "ends_in" (defScope s_ends_in) fa cdv A outer s H E) (fun cls d _ H => E cls d H) := L2N.takes_of rfl rfl rfl rfl
  have hx : Passes (L2N.CX P w) (cxOf (L2N.CX P w) P w K mg base ["chart", "found", "point", "row", "place"] "ends_in" (defScope s_ends_in) fa cdv A outer s H E) E := L2N.passes_call tk (fun _ _ _ _ h => h)
  have po : PassesOwn (model P w) (cxOf (L2N.CX P w) P w K mg base ["chart", "found", "point", "row", "place"] "ends_in" (defScope s_ends_in) fa cdv A outer s H E).A (cxOf (L2N.CX P w) P w K mg base ["chart", "found", "point", "row", "place"] "ends_in" (defScope s_ends_in) fa cdv A outer s H E).env (cxOf (L2N.CX P w) P w K mg base ["chart", "found", "point", "row", "place"] "ends_in" (defScope s_ends_in) fa cdv A outer s H E).xe := passes_of rfl
  exact (ss_cons (ss_asg tg_name (sv_mkl sa_nil) (pg_name (i := 1) nd rfl (Or.inl rfl))) (ss_cons (ss_for po hc (si_enum (by rfl) Z.b_enumerate (sa_cons (sv_var (i := 0)) sa_nil)) (tg_tup rfl) (pg_tup hc (pgs_names (pg_name (i := 2) nd rfl (Or.inr rfl)) (pgs_names (pg_name (i := 3) nd rfl (Or.inl rfl)) pgs_none))) (ss_one (ss_asg tg_name (sv_add (sv_var (i := 1)) (sv_lc hc nd (si_range1 (by rfl) Z.b_range (sa_cons (sv_len (by rfl) Z.b_len (sv_var (i := 3))) sa_nil)) (blkOk_by (N := ["chart", "found", "point", "row", "place"]) (sc := defScope s_ends_in) (own := [("place", 4)]) (by decide +kernel)) to_name rfl (fun _ _ _ _ _ => (pg_name (i := 4) nd rfl (Or.inl rfl))) (fun _ _ _ _ _ => st_nil) (fun _ _ _ _ _ => (sv_mkt (sa_cons (sv_var (i := 2)) (sa_cons (sv_var (i := 4)) sa_nil)))))) (pg_name (i := 1) nd rfl (Or.inl rfl))))) (ss_one (ss_ret (sv_var (i := 1))))))
theorem sc_letter_at : FnScope ["chart", "end"] ["chart", "end"] (defScope s_letter_at) := ⟨rfl, rfl, rfl, by decide +kernel, rfl, by decide +kernel, by decide +kernel⟩
theorem d_letter_at (Z : Txt K mg ca tk0) (n : Nat) (G : ∀ f, At P w K mg base J ca n f) (fa : Addr) (W : Ent) (E : XK) (cdv : Value) (A : Around) (outer : List PySem.Env) (s : Shared) (H : Hp) (hp : ∀ b, W.P0 b) (hr : Room (n + 1) (A.deeper (PyProof.Rows.envOfC "letter_at" (defScope s_letter_at) s.heap.objs.size fa cdv))) :
    PSs (cxOf (L2N.CX P w) P w K mg base ["chart", "end"] "letter_at" (defScope s_letter_at) fa cdv A outer s H E) (defBody s_letter_at) (TSv K (cfg J hJ (fun k => .ref (ca k)) (run T n) W E) b_letter_at) := by
  have nd := (sc_letter_at).nd
  have hu : (A.deeper (PyProof.Rows.envOfC "letter_at" (defScope s_letter_at) s.heap.objs.size fa cdv)).units + 64 < cLine := hr.units
  have hu1 : (A.deeper (PyProof.Rows.envOfC "letter_at" (defScope s_letter_at) s.heap.objs.size fa cdv)).units + 1 < cLine := by omega
  have hc : (cxOf (L2N.CX P w) P w K mg base ["chart", "end"] "letter_at" (defScope s_letter_at) fa cdv A outer s H E).calm = true := rfl
  have tk : L2N.Takes (cxOf (L2N.CX P w) P w K mg base ["chart", "end"] "letter_at" (defScope s_letter_at) fa cdv A outer s H E) (fun cls d _ H => E cls d H) := L2N.takes_of rfl rfl rfl rfl
  have hx : Passes (L2N.CX P w) (cxOf (L2N.CX P w) P w K mg base ["chart", "end"] "letter_at" (defScope s_letter_at) fa cdv A outer s H E) E := L2N.passes_call tk (fun _ _ _ _ h => h)
  have po : PassesOwn (model P w) (cxOf (L2N.CX P w) P w K mg base ["chart", "end"] "letter_at" (defScope s_letter_at) fa cdv A outer s H E).A (cxOf (L2N.CX P w) P w K mg base ["chart", "end"] "letter_at" (defScope s_letter_at) fa cdv A outer s H E).env (cxOf (L2N.CX P w) P w K mg base ["chart", "end"] "letter_at" (defScope s_letter_at) fa cdv A outer s H E).xe := passes_of rfl
  exact (ss_one (ss_ret (sv_item (sv_item (sv_var (i := 0)) (sv_item (sv_var (i := 1)) sv_int)) (sv_item (sv_var (i := 1)) sv_int))))
theorem sc_other_end : FnScope ["chart", "end", "letter", "point", "row", "place"] ["chart", "end"] (defScope s_other_end) := ⟨rfl, rfl, rfl, by decide +kernel, rfl, by decide +kernel, by decide +kernel⟩
theorem d_other_end (Z : Txt K mg ca tk0) (n : Nat) (G : ∀ f, At P w K mg base J ca n f) (fa : Addr) (W : Ent) (E : XK) (cdv : Value) (A : Around) (outer : List PySem.Env) (s : Shared) (H : Hp) (hp : ∀ b, W.P0 b) (hr : Room (n + 1) (A.deeper (PyProof.Rows.envOfC "other_end" (defScope s_other_end) s.heap.objs.size fa cdv))) :
    PSs (cxOf (L2N.CX P w) P w K mg base ["chart", "end", "letter", "point", "row", "place"] "other_end" (defScope s_other_end) fa cdv A outer s H E) (defBody s_other_end) (TSv K (cfg J hJ (fun k => .ref (ca k)) (run T n) W E) b_other_end) := by
  have nd := (sc_other_end).nd
  have hu : (A.deeper (PyProof.Rows.envOfC "other_end" (defScope s_other_end) s.heap.objs.size fa cdv)).units + 64 < cLine := hr.units
  have hu1 : (A.deeper (PyProof.Rows.envOfC "other_end" (defScope s_other_end) s.heap.objs.size fa cdv)).units + 1 < cLine := by omega
  have hc : (cxOf (L2N.CX P w) P w K mg base ["chart", "end", "letter", "point", "row", "place"] "other_end" (defScope s_other_end) fa cdv A outer s H E).calm = true := rfl
  have tk : L2N.Takes (cxOf (L2N.CX P w) P w K mg base ["chart", "end", "letter", "point", "row", "place"] "other_end" (defScope s_other_end) fa cdv A outer s H E) (fun cls d _ H => E cls d H) := L2N.takes_of rfl rfl rfl rfl
  have hx : Passes (L2N.CX P w) (cxOf (L2N.CX P w) P w K mg base ["chart", "end", "letter", "point", "row", "place"] "other_end" (defScope s_other_end) fa cdv A outer s H E) E := L2N.passes_call tk (fun _ _ _ _ h => h)
  have po : PassesOwn (model P w) (cxOf (L2N.CX P w) P w K mg base ["chart", "end", "letter", "point", "row", "place"] "other_end" (defScope s_other_end) fa cdv A outer s H E).A (cxOf (L2N.CX P w) P w K mg base ["chart", "end", "letter", "point", "row", "place"] "other_end" (defScope s_other_end) fa cdv A outer s H E).env (cxOf (L2N.CX P w) P w K mg base ["chart", "end", "letter", "point", "row", "place"] "other_end" (defScope s_other_end) fa cdv A outer s H E).xe := passes_of rfl
  exact (ss_cons (ss_asg tg_name (sv_call (f := 2) (G 2) hr hx (by rfl) (sa_cons (sv_var (i := 0)) (sa_cons (sv_var (i := 1)) sa_nil))) (pg_name (i := 2) nd rfl (Or.inl rfl))) (ss_cons (ss_for po hc (si_enum (by rfl) Z.b_enumerate (sa_cons (sv_var (i := 0)) sa_nil)) (tg_tup rfl) (pg_tup hc (pgs_names (pg_name (i := 3) nd rfl (Or.inl rfl)) (pgs_names (pg_name (i := 4) nd rfl (Or.inl rfl)) pgs_none))) (ss_cons (ss_asg tg_name (sv_find (sv_var (i := 4)) (sv_var (i := 2))) (pg_name (i := 5) nd rfl (Or.inl rfl))) (ss_cons (ss_if (sw_eq hu (sv_mkt (sa_cons (sv_var (i := 3)) (sa_cons (sv_var (i := 5)) sa_nil))) (sv_var (i := 1))) (ss_one (ss_asg tg_name (sv_find2 (sv_var (i := 4)) (sv_var (i := 2)) (sv_add (sv_var (i := 5)) sv_int)) (pg_name (i := 5) nd rfl (Or.inl rfl)))) ss_nil) (ss_one (ss_if (sw_ge (sv_var (i := 5)) sv_int) (ss_one (ss_ret (sv_mkt (sa_cons (sv_var (i := 3)) (sa_cons (sv_var (i := 5)) sa_nil))))) ss_nil))))) (ss_one (ss_ret (sv_var (i := 1))))))
theorem sc_next_around : FnScope ["chart", "end"] ["chart", "end"] (defScope s_next_around) := ⟨rfl, rfl, rfl, by decide +kernel, rfl, by decide +kernel, by decide +kernel⟩
theorem d_next_around (Z : Txt K mg ca tk0) (n : Nat) (G : ∀ f, At P w K mg base J ca n f) (fa : Addr) (W : Ent) (E : XK) (cdv : Value) (A : Around) (outer : List PySem.Env) (s : Shared) (H : Hp) (hp : ∀ b, W.P0 b) (hr : Room (n + 1) (A.deeper (PyProof.Rows.envOfC "next_around" (defScope s_next_around) s.heap.objs.size fa cdv))) :
    PSs (cxOf (L2N.CX P w) P w K mg base ["chart", "end"] "next_around" (defScope s_next_around) fa cdv A outer s H E) (defBody s_next_around) (TSv K (cfg J hJ (fun k => .ref (ca k)) (run T n) W E) b_next_around) := by
  have nd := (sc_next_around).nd
  have hu : (A.deeper (PyProof.Rows.envOfC "next_around" (defScope s_next_around) s.heap.objs.size fa cdv)).units + 64 < cLine := hr.units
  have hu1 : (A.deeper (PyProof.Rows.envOfC "next_around" (defScope s_next_around) s.heap.objs.size fa cdv)).units + 1 < cLine := by omega
  have hc : (cxOf (L2N.CX P w) P w K mg base ["chart", "end"] "next_around" (defScope s_next_around) fa cdv A outer s H E).calm = true := rfl
  have tk : L2N.Takes (cxOf (L2N.CX P w) P w K mg base ["chart", "end"] "next_around" (defScope s_next_around) fa cdv A outer s H E) (fun cls d _ H => E cls d H) := L2N.takes_of rfl rfl rfl rfl
  have hx : Passes (L2N.CX P w) (cxOf (L2N.CX P w) P w K mg base ["chart", "end"] "next_around" (defScope s_next_around) fa cdv A outer s H E) E := L2N.passes_call tk (fun _ _ _ _ h => h)
  have po : PassesOwn (model P w) (cxOf (L2N.CX P w) P w K mg base ["chart", "end"] "next_around" (defScope s_next_around) fa cdv A outer s H E).A (cxOf (L2N.CX P w) P w K mg base ["chart", "end"] "next_around" (defScope s_next_around) fa cdv A outer s H E).env (cxOf (L2N.CX P w) P w K mg base ["chart", "end"] "next_around" (defScope s_next_around) fa cdv A outer s H E).xe := passes_of rfl
  exact (ss_one (ss_ret (sv_mkt (sa_cons (sv_item (sv_var (i := 1)) sv_int) (sa_cons (sv_mod (sv_add (sv_item (sv_var (i := 1)) sv_int) sv_int) (sv_len (by rfl) Z.b_len (sv_item (sv_var (i := 0)) (sv_item (sv_var (i := 1)) sv_int)))) sa_nil)))))
theorem sc_gone_on : FnScope ["chart", "end"] ["chart", "end"] (defScope s_gone_on) := ⟨rfl, rfl, rfl, by decide +kernel, rfl, by decide +kernel, by decide +kernel⟩
theorem d_gone_on (Z : Txt K mg ca tk0) (n : Nat) (G : ∀ f, At P w K mg base J ca n f) (fa : Addr) (W : Ent) (E : XK) (cdv : Value) (A : Around) (outer : List PySem.Env) (s : Shared) (H : Hp) (hp : ∀ b, W.P0 b) (hr : Room (n + 1) (A.deeper (PyProof.Rows.envOfC "gone_on" (defScope s_gone_on) s.heap.objs.size fa cdv))) :
    PSs (cxOf (L2N.CX P w) P w K mg base ["chart", "end"] "gone_on" (defScope s_gone_on) fa cdv A outer s H E) (defBody s_gone_on) (TSv K (cfg J hJ (fun k => .ref (ca k)) (run T n) W E) b_gone_on) := by
  have nd := (sc_gone_on).nd
  have hu : (A.deeper (PyProof.Rows.envOfC "gone_on" (defScope s_gone_on) s.heap.objs.size fa cdv)).units + 64 < cLine := hr.units
  have hu1 : (A.deeper (PyProof.Rows.envOfC "gone_on" (defScope s_gone_on) s.heap.objs.size fa cdv)).units + 1 < cLine := by omega
  have hc : (cxOf (L2N.CX P w) P w K mg base ["chart", "end"] "gone_on" (defScope s_gone_on) fa cdv A outer s H E).calm = true := rfl
  have tk : L2N.Takes (cxOf (L2N.CX P w) P w K mg base ["chart", "end"] "gone_on" (defScope s_gone_on) fa cdv A outer s H E) (fun cls d _ H => E cls d H) := L2N.takes_of rfl rfl rfl rfl
  have hx : Passes (L2N.CX P w) (cxOf (L2N.CX P w) P w K mg base ["chart", "end"] "gone_on" (defScope s_gone_on) fa cdv A outer s H E) E := L2N.passes_call tk (fun _ _ _ _ h => h)
  have po : PassesOwn (model P w) (cxOf (L2N.CX P w) P w K mg base ["chart", "end"] "gone_on" (defScope s_gone_on) fa cdv A outer s H E).A (cxOf (L2N.CX P w) P w K mg base ["chart", "end"] "gone_on" (defScope s_gone_on) fa cdv A outer s H E).env (cxOf (L2N.CX P w) P w K mg base ["chart", "end"] "gone_on" (defScope s_gone_on) fa cdv A outer s H E).xe := passes_of rfl
  exact (ss_one (ss_ret (sv_call (f := 4) (G 4) hr hx (by rfl) (sa_cons (sv_var (i := 0)) (sa_cons (sv_call (f := 3) (G 3) hr hx (by rfl) (sa_cons (sv_var (i := 0)) (sa_cons (sv_var (i := 1)) sa_nil))) sa_nil)))))
theorem sc_least_turn : FnScope ["text", "at"] ["text"] (defScope s_least_turn) := ⟨rfl, rfl, rfl, by decide +kernel, rfl, by decide +kernel, by decide +kernel⟩
theorem d_least_turn (Z : Txt K mg ca tk0) (n : Nat) (G : ∀ f, At P w K mg base J ca n f) (fa : Addr) (W : Ent) (E : XK) (cdv : Value) (A : Around) (outer : List PySem.Env) (s : Shared) (H : Hp) (hp : ∀ b, W.P0 b) (hr : Room (n + 1) (A.deeper (PyProof.Rows.envOfC "least_turn" (defScope s_least_turn) s.heap.objs.size fa cdv))) :
    PSs (cxOf (L2N.CX P w) P w K mg base ["text", "at"] "least_turn" (defScope s_least_turn) fa cdv A outer s H E) (defBody s_least_turn) (TSv K (cfg J hJ (fun k => .ref (ca k)) (run T n) W E) b_least_turn) := by
  have nd := (sc_least_turn).nd
  have hu : (A.deeper (PyProof.Rows.envOfC "least_turn" (defScope s_least_turn) s.heap.objs.size fa cdv)).units + 64 < cLine := hr.units
  have hu1 : (A.deeper (PyProof.Rows.envOfC "least_turn" (defScope s_least_turn) s.heap.objs.size fa cdv)).units + 1 < cLine := by omega
  have hc : (cxOf (L2N.CX P w) P w K mg base ["text", "at"] "least_turn" (defScope s_least_turn) fa cdv A outer s H E).calm = true := rfl
  have tk : L2N.Takes (cxOf (L2N.CX P w) P w K mg base ["text", "at"] "least_turn" (defScope s_least_turn) fa cdv A outer s H E) (fun cls d _ H => E cls d H) := L2N.takes_of rfl rfl rfl rfl
  have hx : Passes (L2N.CX P w) (cxOf (L2N.CX P w) P w K mg base ["text", "at"] "least_turn" (defScope s_least_turn) fa cdv A outer s H E) E := L2N.passes_call tk (fun _ _ _ _ h => h)
  have po : PassesOwn (model P w) (cxOf (L2N.CX P w) P w K mg base ["text", "at"] "least_turn" (defScope s_least_turn) fa cdv A outer s H E).A (cxOf (L2N.CX P w) P w K mg base ["text", "at"] "least_turn" (defScope s_least_turn) fa cdv A outer s H E).env (cxOf (L2N.CX P w) P w K mg base ["text", "at"] "least_turn" (defScope s_least_turn) fa cdv A outer s H E).xe := passes_of rfl
  exact (ss_one (ss_ret (sv_min1 hc hu (by rfl) Z.b_min (sv_lc hc nd (si_range1 (by rfl) Z.b_range (sa_cons (sv_len (by rfl) Z.b_len (sv_var (i := 0))) sa_nil)) (blkOk_by (N := ["text", "at"]) (sc := defScope s_least_turn) (own := [("at", 1)]) (by decide +kernel)) to_name rfl (fun _ _ _ _ _ => (pg_name (i := 1) nd rfl (Or.inl rfl))) (fun _ _ _ _ _ => st_nil) (fun _ _ _ _ _ => (sv_add (sv_slcL (sv_var (i := 0)) (sv_var (i := 1))) (sv_slcH (sv_var (i := 0)) (sv_var (i := 1)))))))))
theorem sc_rounds : FnScope ["chart", "found", "seen", "end", "some", "text", "one", "first"] ["chart"] (defScope s_rounds) := ⟨rfl, rfl, rfl, by decide +kernel, rfl, by decide +kernel, by decide +kernel⟩
theorem d_rounds (Z : Txt K mg ca tk0) (n : Nat) (G : ∀ f, At P w K mg base J ca n f) (fa : Addr) (W : Ent) (E : XK) (cdv : Value) (A : Around) (outer : List PySem.Env) (s : Shared) (H : Hp) (hp : ∀ b, W.P0 b) (hr : Room (n + 1) (A.deeper (PyProof.Rows.envOfC "rounds" (defScope s_rounds) s.heap.objs.size fa cdv))) :
    PSs (cxOf (L2N.CX P w) P w K mg base ["chart", "found", "seen", "end", "some", "text", "one", "first"] "rounds" (defScope s_rounds) fa cdv A outer s H E) (defBody s_rounds) (TSv K (cfg J hJ (fun k => .ref (ca k)) (run T n) W E) b_rounds) := by
  have nd := (sc_rounds).nd
  have hu : (A.deeper (PyProof.Rows.envOfC "rounds" (defScope s_rounds) s.heap.objs.size fa cdv)).units + 64 < cLine := hr.units
  have hu1 : (A.deeper (PyProof.Rows.envOfC "rounds" (defScope s_rounds) s.heap.objs.size fa cdv)).units + 1 < cLine := by omega
  have hc : (cxOf (L2N.CX P w) P w K mg base ["chart", "found", "seen", "end", "some", "text", "one", "first"] "rounds" (defScope s_rounds) fa cdv A outer s H E).calm = true := rfl
  have tk : L2N.Takes (cxOf (L2N.CX P w) P w K mg base ["chart", "found", "seen", "end", "some", "text", "one", "first"] "rounds" (defScope s_rounds) fa cdv A outer s H E) (fun cls d _ H => E cls d H) := L2N.takes_of rfl rfl rfl rfl
  have hx : Passes (L2N.CX P w) (cxOf (L2N.CX P w) P w K mg base ["chart", "found", "seen", "end", "some", "text", "one", "first"] "rounds" (defScope s_rounds) fa cdv A outer s H E) E := L2N.passes_call tk (fun _ _ _ _ h => h)
  have po : PassesOwn (model P w) (cxOf (L2N.CX P w) P w K mg base ["chart", "found", "seen", "end", "some", "text", "one", "first"] "rounds" (defScope s_rounds) fa cdv A outer s H E).A (cxOf (L2N.CX P w) P w K mg base ["chart", "found", "seen", "end", "some", "text", "one", "first"] "rounds" (defScope s_rounds) fa cdv A outer s H E).env (cxOf (L2N.CX P w) P w K mg base ["chart", "found", "seen", "end", "some", "text", "one", "first"] "rounds" (defScope s_rounds) fa cdv A outer s H E).xe := passes_of rfl
  exact (ss_cons (ss_par2 (i := 1) (j := 2) hc nd rfl rfl (by decide) rfl rfl (saf_cons (sf_list sa_nil) (saf_cons sf_dT saf_nil)) rfl) (ss_cons (ss_for po hc (si_seq (sv_call (f := 1) (G 1) hr hx (by rfl) (sa_cons (sv_var (i := 0)) sa_nil))) tg_name (pg_name (i := 3) nd rfl (Or.inl rfl)) (ss_one (ss_if (sw_dNotIn hu1 (pv 2) (sv_var (i := 3))) (ss_cons (ss_asgM (i := 4) nd rfl (Or.inl rfl) (sf_list sa_nil)) (ss_cons (ss_while po (sw_dNotIn hu1 (pv 2) (sv_var (i := 3))) (ss_cons (ss_dput (i := 2) hu1 (pv 2) (sv_var (i := 3)) sv_bool) (ss_cons (ss_append (i := 4) (pv 4) (sv_var (i := 3))) (ss_one (ss_asg tg_name (sv_call (f := 5) (G 5) hr hx (by rfl) (sa_cons (sv_var (i := 0)) (sa_cons (sv_var (i := 3)) sa_nil))) (pg_name (i := 3) nd rfl (Or.inl rfl))))))) (ss_cons (ss_asg tg_name (sv_join sv_strL (sv_lc hc nd (si_seq (sv_var (i := 4))) (blkOk_by (N := ["chart", "found", "seen", "end", "some", "text", "one", "first"]) (sc := defScope s_rounds) (own := [("one", 6)]) (by decide +kernel)) to_name rfl (fun _ _ _ _ _ => (pg_name (i := 6) nd rfl (Or.inl rfl))) (fun _ _ _ _ _ => st_nil) (fun _ _ _ _ _ => (sv_call (f := 2) (G 2) hr (L2N.passes_call takesN0 fun _ _ _ _ h => h) (by rfl) (sa_cons (sv_var (i := 0)) (sa_cons (sv_var (i := 6)) sa_nil)))))) (pg_name (i := 5) nd rfl (Or.inl rfl))) (ss_one (ss_append (i := 1) (pv 1) (sv_mkt (sa_cons (sv_call (f := 6) (G 6) hr hx (by rfl) (sa_cons (sv_var (i := 5)) sa_nil)) (sa_cons (sv_min1 hc hu (by rfl) Z.b_min (sv_var (i := 4))) (sa_cons (sv_tuple (by rfl) Z.b_tuple (sv_var (i := 4))) sa_nil))))))))) ss_nil))) (ss_one (ss_ret (sv_lc hc nd (si_seq (sv_sorted hc hu (by rfl) Z.b_sorted (sv_var (i := 1)))) (blkOk_by (N := ["chart", "found", "seen", "end", "some", "text", "one", "first"]) (sc := defScope s_rounds) (own := [("text", 5), ("first", 7), ("some", 4)]) (by decide +kernel)) (to_tup rfl) rfl (fun _ _ _ _ _ => (pg_tup hc (pgs_names (pg_name (i := 5) nd rfl (Or.inl rfl)) (pgs_names (pg_name (i := 7) nd rfl (Or.inl rfl)) (pgs_names (pg_name (i := 4) nd rfl (Or.inl rfl)) pgs_none))))) (fun _ _ _ _ _ => st_nil) (fun _ _ _ _ _ => (sv_mkt (sa_cons (sv_var (i := 5)) (sa_cons (sv_var (i := 4)) sa_nil)))))))))
theorem sc_reached : FnScope ["pairs", "start", "found", "left", "size", "rest", "one", "other"] ["pairs", "start"] (defScope s_reached) := ⟨rfl, rfl, rfl, by decide +kernel, rfl, by decide +kernel, by decide +kernel⟩
theorem d_reached (Z : Txt K mg ca tk0) (n : Nat) (G : ∀ f, At P w K mg base J ca n f) (fa : Addr) (W : Ent) (E : XK) (cdv : Value) (A : Around) (outer : List PySem.Env) (s : Shared) (H : Hp) (hp : ∀ b, W.P0 b) (hr : Room (n + 1) (A.deeper (PyProof.Rows.envOfC "reached" (defScope s_reached) s.heap.objs.size fa cdv))) :
    PSs (cxOf (L2N.CX P w) P w K mg base ["pairs", "start", "found", "left", "size", "rest", "one", "other"] "reached" (defScope s_reached) fa cdv A outer s H E) (defBody s_reached) (TSv K (cfg J hJ (fun k => .ref (ca k)) (run T n) W E) b_reached) := by
  have nd := (sc_reached).nd
  have hu : (A.deeper (PyProof.Rows.envOfC "reached" (defScope s_reached) s.heap.objs.size fa cdv)).units + 64 < cLine := hr.units
  have hu1 : (A.deeper (PyProof.Rows.envOfC "reached" (defScope s_reached) s.heap.objs.size fa cdv)).units + 1 < cLine := by omega
  have hc : (cxOf (L2N.CX P w) P w K mg base ["pairs", "start", "found", "left", "size", "rest", "one", "other"] "reached" (defScope s_reached) fa cdv A outer s H E).calm = true := rfl
  have tk : L2N.Takes (cxOf (L2N.CX P w) P w K mg base ["pairs", "start", "found", "left", "size", "rest", "one", "other"] "reached" (defScope s_reached) fa cdv A outer s H E) (fun cls d _ H => E cls d H) := L2N.takes_of rfl rfl rfl rfl
  have hx : Passes (L2N.CX P w) (cxOf (L2N.CX P w) P w K mg base ["pairs", "start", "found", "left", "size", "rest", "one", "other"] "reached" (defScope s_reached) fa cdv A outer s H E) E := L2N.passes_call tk (fun _ _ _ _ h => h)
  have po : PassesOwn (model P w) (cxOf (L2N.CX P w) P w K mg base ["pairs", "start", "found", "left", "size", "rest", "one", "other"] "reached" (defScope s_reached) fa cdv A outer s H E).A (cxOf (L2N.CX P w) P w K mg base ["pairs", "start", "found", "left", "size", "rest", "one", "other"] "reached" (defScope s_reached) fa cdv A outer s H E).env (cxOf (L2N.CX P w) P w K mg base ["pairs", "start", "found", "left", "size", "rest", "one", "other"] "reached" (defScope s_reached) fa cdv A outer s H E).xe := passes_of rfl
  exact (ss_cons (ss_par3 (i := 2) (j := 3) (l := 4) hc nd rfl rfl rfl (by decide) (by decide) (by decide) rfl rfl rfl (saf_cons (sf_list (sa_cons (sv_var (i := 1)) sa_nil)) (saf_cons (sf_val (sv_var (i := 0))) (saf_cons (sf_val sv_int) saf_nil))) rfl) (ss_cons (ss_while po (sw_lt (sv_var (i := 4)) (sv_peek (sv_len (by rfl) Z.b_len (sv_var (i := 2))))) (ss_cons (ss_par2 (i := 4) (j := 5) hc nd rfl rfl (by decide) rfl rfl (saf_cons (sf_val (sv_peek (sv_len (by rfl) Z.b_len (sv_var (i := 2))))) (saf_cons (sf_list sa_nil) saf_nil)) rfl) (ss_cons (ss_for po hc (si_seq (sv_var (i := 3))) (tg_tup rfl) (pg_tup hc (pgs_names (pg_name (i := 6) nd rfl (Or.inl rfl)) (pgs_names (pg_name (i := 7) nd rfl (Or.inl rfl)) pgs_none))) (ss_one (ss_if (PW.pt (sx_and (sw_peek (sw_in hu (sv_var (i := 6)) (sv_var (i := 2)))) (sx_and1 (sw_peek (sw_notin hu (sv_var (i := 7)) (sv_var (i := 2))))))) (ss_one (ss_append (i := 2) (pv 2) (sv_var (i := 7)))) (ss_one (ss_if (PW.pt (sx_and (sw_peek (sw_in hu (sv_var (i := 7)) (sv_var (i := 2)))) (sx_and1 (sw_peek (sw_notin hu (sv_var (i := 6)) (sv_var (i := 2))))))) (ss_one (ss_append (i := 2) (pv 2) (sv_var (i := 6)))) (ss_one (ss_if (sw_peek (sw_notin hu (sv_var (i := 6)) (sv_var (i := 2)))) (ss_one (ss_append (i := 5) (pv 5) (sv_mkt (sa_cons (sv_var (i := 6)) (sa_cons (sv_var (i := 7)) sa_nil))))) ss_nil))))))) (ss_one (ss_asg tg_name (sv_var (i := 5)) (pg_name (i := 3) nd rfl (Or.inl rfl))))))) (ss_one (ss_ret (sv_var (i := 2))))))
theorem sc_pairs_of : FnScope ["chart", "letters", "letter"] ["chart", "letters"] (defScope s_pairs_of) := ⟨rfl, rfl, rfl, by decide +kernel, rfl, by decide +kernel, by decide +kernel⟩
theorem d_pairs_of (Z : Txt K mg ca tk0) (n : Nat) (G : ∀ f, At P w K mg base J ca n f) (fa : Addr) (W : Ent) (E : XK) (cdv : Value) (A : Around) (outer : List PySem.Env) (s : Shared) (H : Hp) (hp : ∀ b, W.P0 b) (hr : Room (n + 1) (A.deeper (PyProof.Rows.envOfC "pairs_of" (defScope s_pairs_of) s.heap.objs.size fa cdv))) :
    PSs (cxOf (L2N.CX P w) P w K mg base ["chart", "letters", "letter"] "pairs_of" (defScope s_pairs_of) fa cdv A outer s H E) (defBody s_pairs_of) (TSv K (cfg J hJ (fun k => .ref (ca k)) (run T n) W E) b_pairs_of) := by
  have nd := (sc_pairs_of).nd
  have hu : (A.deeper (PyProof.Rows.envOfC "pairs_of" (defScope s_pairs_of) s.heap.objs.size fa cdv)).units + 64 < cLine := hr.units
  have hu1 : (A.deeper (PyProof.Rows.envOfC "pairs_of" (defScope s_pairs_of) s.heap.objs.size fa cdv)).units + 1 < cLine := by omega
  have hc : (cxOf (L2N.CX P w) P w K mg base ["chart", "letters", "letter"] "pairs_of" (defScope s_pairs_of) fa cdv A outer s H E).calm = true := rfl
  have tk : L2N.Takes (cxOf (L2N.CX P w) P w K mg base ["chart", "letters", "letter"] "pairs_of" (defScope s_pairs_of) fa cdv A outer s H E) (fun cls d _ H => E cls d H) := L2N.takes_of rfl rfl rfl rfl
  have hx : Passes (L2N.CX P w) (cxOf (L2N.CX P w) P w K mg base ["chart", "letters", "letter"] "pairs_of" (defScope s_pairs_of) fa cdv A outer s H E) E := L2N.passes_call tk (fun _ _ _ _ h => h)
  have po : PassesOwn (model P w) (cxOf (L2N.CX P w) P w K mg base ["chart", "letters", "letter"] "pairs_of" (defScope s_pairs_of) fa cdv A outer s H E).A (cxOf (L2N.CX P w) P w K mg base ["chart", "letters", "letter"] "pairs_of" (defScope s_pairs_of) fa cdv A outer s H E).env (cxOf (L2N.CX P w) P w K mg base ["chart", "letters", "letter"] "pairs_of" (defScope s_pairs_of) fa cdv A outer s H E).xe := passes_of rfl
  exact (ss_one (ss_ret (sv_lc hc nd (si_seq (sv_var (i := 1))) (blkOk_by (N := ["chart", "letters", "letter"]) (sc := defScope s_pairs_of) (own := [("letter", 2)]) (by decide +kernel)) to_name rfl (fun _ _ _ _ _ => (pg_name (i := 2) nd rfl (Or.inl rfl))) (fun _ _ _ _ _ => st_nil) (fun _ _ _ _ _ => (sv_call (f := 10) (G 10) hr (L2N.passes_call takesN0 fun _ _ _ _ h => h) (by rfl) (sa_cons (sv_var (i := 0)) (sa_cons (sv_var (i := 2)) sa_nil)))))))
theorem sc_points_of : FnScope ["chart", "letter", "found", "point", "row"] ["chart", "letter"] (defScope s_points_of) := ⟨rfl, rfl, rfl, by decide +kernel, rfl, by decide +kernel, by decide +kernel⟩
theorem d_points_of (Z : Txt K mg ca tk0) (n : Nat) (G : ∀ f, At P w K mg base J ca n f) (fa : Addr) (W : Ent) (E : XK) (cdv : Value) (A : Around) (outer : List PySem.Env) (s : Shared) (H : Hp) (hp : ∀ b, W.P0 b) (hr : Room (n + 1) (A.deeper (PyProof.Rows.envOfC "points_of" (defScope s_points_of) s.heap.objs.size fa cdv))) :
    PSs (cxOf (L2N.CX P w) P w K mg base ["chart", "letter", "found", "point", "row"] "points_of" (defScope s_points_of) fa cdv A outer s H E) (defBody s_points_of) (TSv K (cfg J hJ (fun k => .ref (ca k)) (run T n) W E) b_points_of) := by
  have nd := (sc_points_of).nd
  have hu : (A.deeper (PyProof.Rows.envOfC "points_of" (defScope s_points_of) s.heap.objs.size fa cdv)).units + 64 < cLine := hr.units
  have hu1 : (A.deeper (PyProof.Rows.envOfC "points_of" (defScope s_points_of) s.heap.objs.size fa cdv)).units + 1 < cLine := by omega
  have hc : (cxOf (L2N.CX P w) P w K mg base ["chart", "letter", "found", "point", "row"] "points_of" (defScope s_points_of) fa cdv A outer s H E).calm = true := rfl
  have tk : L2N.Takes (cxOf (L2N.CX P w) P w K mg base ["chart", "letter", "found", "point", "row"] "points_of" (defScope s_points_of) fa cdv A outer s H E) (fun cls d _ H => E cls d H) := L2N.takes_of rfl rfl rfl rfl
  have hx : Passes (L2N.CX P w) (cxOf (L2N.CX P w) P w K mg base ["chart", "letter", "found", "point", "row"] "points_of" (defScope s_points_of) fa cdv A outer s H E) E := L2N.passes_call tk (fun _ _ _ _ h => h)
  have po : PassesOwn (model P w) (cxOf (L2N.CX P w) P w K mg base ["chart", "letter", "found", "point", "row"] "points_of" (defScope s_points_of) fa cdv A outer s H E).A (cxOf (L2N.CX P w) P w K mg base ["chart", "letter", "found", "point", "row"] "points_of" (defScope s_points_of) fa cdv A outer s H E).env (cxOf (L2N.CX P w) P w K mg base ["chart", "letter", "found", "point", "row"] "points_of" (defScope s_points_of) fa cdv A outer s H E).xe := passes_of rfl
  exact (ss_cons (ss_asg tg_name (sv_mkl sa_nil) (pg_name (i := 2) nd rfl (Or.inl rfl))) (ss_cons (ss_for po hc (si_enum (by rfl) Z.b_enumerate (sa_cons (sv_var (i := 0)) sa_nil)) (tg_tup rfl) (pg_tup hc (pgs_names (pg_name (i := 3) nd rfl (Or.inl rfl)) (pgs_names (pg_name (i := 4) nd rfl (Or.inl rfl)) pgs_none))) (ss_one (ss_asg tg_name (sv_add (sv_var (i := 2)) (sv_mul (sv_mkl (sa_cons (sv_var (i := 3)) sa_nil)) (sv_count (sv_var (i := 4)) (sv_var (i := 1))))) (pg_name (i := 2) nd rfl (Or.inl rfl))))) (ss_one (ss_ret (sv_tuple (by rfl) Z.b_tuple (sv_var (i := 2)))))))
theorem sc_letters_of : FnScope ["chart"] ["chart"] (defScope s_letters_of) := ⟨rfl, rfl, rfl, by decide +kernel, rfl, by decide +kernel, by decide +kernel⟩
theorem d_letters_of (Z : Txt K mg ca tk0) (n : Nat) (G : ∀ f, At P w K mg base J ca n f) (fa : Addr) (W : Ent) (E : XK) (cdv : Value) (A : Around) (outer : List PySem.Env) (s : Shared) (H : Hp) (hp : ∀ b, W.P0 b) (hr : Room (n + 1) (A.deeper (PyProof.Rows.envOfC "letters_of" (defScope s_letters_of) s.heap.objs.size fa cdv))) :
    PSs (cxOf (L2N.CX P w) P w K mg base ["chart"] "letters_of" (defScope s_letters_of) fa cdv A outer s H E) (defBody s_letters_of) (TSv K (cfg J hJ (fun k => .ref (ca k)) (run T n) W E) b_letters_of) := by
  have nd := (sc_letters_of).nd
  have hu : (A.deeper (PyProof.Rows.envOfC "letters_of" (defScope s_letters_of) s.heap.objs.size fa cdv)).units + 64 < cLine := hr.units
  have hu1 : (A.deeper (PyProof.Rows.envOfC "letters_of" (defScope s_letters_of) s.heap.objs.size fa cdv)).units + 1 < cLine := by omega
  have hc : (cxOf (L2N.CX P w) P w K mg base ["chart"] "letters_of" (defScope s_letters_of) fa cdv A outer s H E).calm = true := rfl
  have tk : L2N.Takes (cxOf (L2N.CX P w) P w K mg base ["chart"] "letters_of" (defScope s_letters_of) fa cdv A outer s H E) (fun cls d _ H => E cls d H) := L2N.takes_of rfl rfl rfl rfl
  have hx : Passes (L2N.CX P w) (cxOf (L2N.CX P w) P w K mg base ["chart"] "letters_of" (defScope s_letters_of) fa cdv A outer s H E) E := L2N.passes_call tk (fun _ _ _ _ h => h)
  have po : PassesOwn (model P w) (cxOf (L2N.CX P w) P w K mg base ["chart"] "letters_of" (defScope s_letters_of) fa cdv A outer s H E).A (cxOf (L2N.CX P w) P w K mg base ["chart"] "letters_of" (defScope s_letters_of) fa cdv A outer s H E).env (cxOf (L2N.CX P w) P w K mg base ["chart"] "letters_of" (defScope s_letters_of) fa cdv A outer s H E).xe := passes_of rfl
  exact (ss_one (ss_ret (sv_slcH (sv_gstrL (by rfl) Z.g_NAMES) (sv_fdiv (sv_len (by rfl) Z.b_len (sv_join sv_strL (sv_var (i := 0)))) sv_int))))
theorem sc_is_map : FnScope ["value"] ["value"] (defScope s_is_map) := ⟨rfl, rfl, rfl, by decide +kernel, rfl, by decide +kernel, by decide +kernel⟩
theorem d_is_map (Z : Txt K mg ca tk0) (n : Nat) (G : ∀ f, At P w K mg base J ca n f) (fa : Addr) (W : Ent) (E : XK) (cdv : Value) (A : Around) (outer : List PySem.Env) (s : Shared) (H : Hp) (hp : ∀ b, W.P0 b) (hr : Room (n + 1) (A.deeper (PyProof.Rows.envOfC "is_map" (defScope s_is_map) s.heap.objs.size fa cdv))) :
    PSs (cxOf (L2N.CX P w) P w K mg base ["value"] "is_map" (defScope s_is_map) fa cdv A outer s H E) (defBody s_is_map) (TSv K (cfg J hJ (fun k => .ref (ca k)) (run T n) W E) b_is_map) := by
  have nd := (sc_is_map).nd
  have hu : (A.deeper (PyProof.Rows.envOfC "is_map" (defScope s_is_map) s.heap.objs.size fa cdv)).units + 64 < cLine := hr.units
  have hu1 : (A.deeper (PyProof.Rows.envOfC "is_map" (defScope s_is_map) s.heap.objs.size fa cdv)).units + 1 < cLine := by omega
  have hc : (cxOf (L2N.CX P w) P w K mg base ["value"] "is_map" (defScope s_is_map) fa cdv A outer s H E).calm = true := rfl
  have tk : L2N.Takes (cxOf (L2N.CX P w) P w K mg base ["value"] "is_map" (defScope s_is_map) fa cdv A outer s H E) (fun cls d _ H => E cls d H) := L2N.takes_of rfl rfl rfl rfl
  have hx : Passes (L2N.CX P w) (cxOf (L2N.CX P w) P w K mg base ["value"] "is_map" (defScope s_is_map) fa cdv A outer s H E) E := L2N.passes_call tk (fun _ _ _ _ h => h)
  have po : PassesOwn (model P w) (cxOf (L2N.CX P w) P w K mg base ["value"] "is_map" (defScope s_is_map) fa cdv A outer s H E).A (cxOf (L2N.CX P w) P w K mg base ["value"] "is_map" (defScope s_is_map) fa cdv A outer s H E).env (cxOf (L2N.CX P w) P w K mg base ["value"] "is_map" (defScope s_is_map) fa cdv A outer s H E).xe := passes_of rfl
  exact (ss_cons (ss_if (PW.pt (sx_or (sw_not (sw_val (sv_call (f := 0) (G 0) hr hx (by rfl) (sa_cons (sv_var (i := 0)) sa_nil)))) (sx_or1 (sw_ne hu (sv_len (by rfl) Z.b_len (sv_call (f := 8) (G 8) hr hx (by rfl) (sa_cons (sv_call (f := 9) (G 9) hr hx (by rfl) (sa_cons (sv_var (i := 0)) (sa_cons (sv_call (f := 11) (G 11) hr hx (by rfl) (sa_cons (sv_var (i := 0)) sa_nil)) sa_nil))) (sa_cons sv_int sa_nil)))) (sv_len (by rfl) Z.b_len (sv_var (i := 0))))))) (ss_one (ss_ret sv_bool)) ss_nil) (ss_one (ss_ret (sv_eq hu (sv_add (sv_sub (sv_len (by rfl) Z.b_len (sv_var (i := 0))) (sv_len (by rfl) Z.b_len (sv_call (f := 11) (G 11) hr hx (by rfl) (sa_cons (sv_var (i := 0)) sa_nil)))) (sv_len (by rfl) Z.b_len (sv_call (f := 7) (G 7) hr hx (by rfl) (sa_cons (sv_var (i := 0)) sa_nil)))) sv_int))))
theorem sc_need_map : FnScope ["chart"] ["chart"] (defScope s_need_map) := ⟨rfl, rfl, rfl, by decide +kernel, rfl, by decide +kernel, by decide +kernel⟩
theorem d_need_map (Z : Txt K mg ca tk0) (n : Nat) (G : ∀ f, At P w K mg base J ca n f) (fa : Addr) (W : Ent) (E : XK) (cdv : Value) (A : Around) (outer : List PySem.Env) (s : Shared) (H : Hp) (hp : ∀ b, W.P0 b) (hr : Room (n + 1) (A.deeper (PyProof.Rows.envOfC "need_map" (defScope s_need_map) s.heap.objs.size fa cdv))) :
    PSs (cxOf (L2N.CX P w) P w K mg base ["chart"] "need_map" (defScope s_need_map) fa cdv A outer s H E) (defBody s_need_map) (TSv K (cfg J hJ (fun k => .ref (ca k)) (run T n) W E) b_need_map) := by
  have nd := (sc_need_map).nd
  have hu : (A.deeper (PyProof.Rows.envOfC "need_map" (defScope s_need_map) s.heap.objs.size fa cdv)).units + 64 < cLine := hr.units
  have hu1 : (A.deeper (PyProof.Rows.envOfC "need_map" (defScope s_need_map) s.heap.objs.size fa cdv)).units + 1 < cLine := by omega
  have hc : (cxOf (L2N.CX P w) P w K mg base ["chart"] "need_map" (defScope s_need_map) fa cdv A outer s H E).calm = true := rfl
  have tk : L2N.Takes (cxOf (L2N.CX P w) P w K mg base ["chart"] "need_map" (defScope s_need_map) fa cdv A outer s H E) (fun cls d _ H => E cls d H) := L2N.takes_of rfl rfl rfl rfl
  have hx : Passes (L2N.CX P w) (cxOf (L2N.CX P w) P w K mg base ["chart"] "need_map" (defScope s_need_map) fa cdv A outer s H E) E := L2N.passes_call tk (fun _ _ _ _ h => h)
  have po : PassesOwn (model P w) (cxOf (L2N.CX P w) P w K mg base ["chart"] "need_map" (defScope s_need_map) fa cdv A outer s H E).A (cxOf (L2N.CX P w) P w K mg base ["chart"] "need_map" (defScope s_need_map) fa cdv A outer s H E).env (cxOf (L2N.CX P w) P w K mg base ["chart"] "need_map" (defScope s_need_map) fa cdv A outer s H E).xe := passes_of rfl
  exact (ss_one (ss_if (sw_not (sw_val (sv_call (f := 12) (G 12) hr hx (by rfl) (sa_cons (sv_var (i := 0)) sa_nil)))) (ss_one (ss_raise hc tk Z.x_InvalidMap rfl (by rfl))) ss_nil))
theorem sc_land_strings : FnScope ["chart", "text", "some"] ["chart"] (defScope s_land_strings) := ⟨rfl, rfl, rfl, by decide +kernel, rfl, by decide +kernel, by decide +kernel⟩
theorem d_land_strings (Z : Txt K mg ca tk0) (n : Nat) (G : ∀ f, At P w K mg base J ca n f) (fa : Addr) (W : Ent) (E : XK) (cdv : Value) (A : Around) (outer : List PySem.Env) (s : Shared) (H : Hp) (hp : ∀ b, W.P0 b) (hr : Room (n + 1) (A.deeper (PyProof.Rows.envOfC "land_strings" (defScope s_land_strings) s.heap.objs.size fa cdv))) :
    PSs (cxOf (L2N.CX P w) P w K mg base ["chart", "text", "some"] "land_strings" (defScope s_land_strings) fa cdv A outer s H E) (defBody s_land_strings) (TSv K (cfg J hJ (fun k => .ref (ca k)) (run T n) W E) b_land_strings) := by
  have nd := (sc_land_strings).nd
  have hu : (A.deeper (PyProof.Rows.envOfC "land_strings" (defScope s_land_strings) s.heap.objs.size fa cdv)).units + 64 < cLine := hr.units
  have hu1 : (A.deeper (PyProof.Rows.envOfC "land_strings" (defScope s_land_strings) s.heap.objs.size fa cdv)).units + 1 < cLine := by omega
  have hc : (cxOf (L2N.CX P w) P w K mg base ["chart", "text", "some"] "land_strings" (defScope s_land_strings) fa cdv A outer s H E).calm = true := rfl
  have tk : L2N.Takes (cxOf (L2N.CX P w) P w K mg base ["chart", "text", "some"] "land_strings" (defScope s_land_strings) fa cdv A outer s H E) (fun cls d _ H => E cls d H) := L2N.takes_of rfl rfl rfl rfl
  have hx : Passes (L2N.CX P w) (cxOf (L2N.CX P w) P w K mg base ["chart", "text", "some"] "land_strings" (defScope s_land_strings) fa cdv A outer s H E) E := L2N.passes_call tk (fun _ _ _ _ h => h)
  have po : PassesOwn (model P w) (cxOf (L2N.CX P w) P w K mg base ["chart", "text", "some"] "land_strings" (defScope s_land_strings) fa cdv A outer s H E).A (cxOf (L2N.CX P w) P w K mg base ["chart", "text", "some"] "land_strings" (defScope s_land_strings) fa cdv A outer s H E).env (cxOf (L2N.CX P w) P w K mg base ["chart", "text", "some"] "land_strings" (defScope s_land_strings) fa cdv A outer s H E).xe := passes_of rfl
  exact (ss_one (ss_ret (sv_tuple (by rfl) Z.b_tuple (sv_lc hc nd (si_seq (sv_call (f := 7) (G 7) hr hx (by rfl) (sa_cons (sv_var (i := 0)) sa_nil))) (blkOk_by (N := ["chart", "text", "some"]) (sc := defScope s_land_strings) (own := [("text", 1), ("some", 2)]) (by decide +kernel)) (to_tup rfl) rfl (fun _ _ _ _ _ => (pg_tup hc (pgs_names (pg_name (i := 1) nd rfl (Or.inl rfl)) (pgs_names (pg_name (i := 2) nd rfl (Or.inl rfl)) pgs_none)))) (fun _ _ _ _ _ => st_nil) (fun _ _ _ _ _ => (sv_var (i := 1)))))))
theorem sc_lands : FnScope ["chart"] ["chart"] (defScope s_lands) := ⟨rfl, rfl, rfl, by decide +kernel, rfl, by decide +kernel, by decide +kernel⟩
theorem d_lands (Z : Txt K mg ca tk0) (n : Nat) (G : ∀ f, At P w K mg base J ca n f) (fa : Addr) (W : Ent) (E : XK) (cdv : Value) (A : Around) (outer : List PySem.Env) (s : Shared) (H : Hp) (hp : ∀ b, W.P0 b) (hr : Room (n + 1) (A.deeper (PyProof.Rows.envOfC "lands" (defScope s_lands) s.heap.objs.size fa cdv))) :
    PSs (cxOf (L2N.CX P w) P w K mg base ["chart"] "lands" (defScope s_lands) fa cdv A outer s H E) (defBody s_lands) (TSv K (cfg J hJ (fun k => .ref (ca k)) (run T n) W E) b_lands) := by
  have nd := (sc_lands).nd
  have hu : (A.deeper (PyProof.Rows.envOfC "lands" (defScope s_lands) s.heap.objs.size fa cdv)).units + 64 < cLine := hr.units
  have hu1 : (A.deeper (PyProof.Rows.envOfC "lands" (defScope s_lands) s.heap.objs.size fa cdv)).units + 1 < cLine := by omega
  have hc : (cxOf (L2N.CX P w) P w K mg base ["chart"] "lands" (defScope s_lands) fa cdv A outer s H E).calm = true := rfl
  have tk : L2N.Takes (cxOf (L2N.CX P w) P w K mg base ["chart"] "lands" (defScope s_lands) fa cdv A outer s H E) (fun cls d _ H => E cls d H) := L2N.takes_of rfl rfl rfl rfl
  have hx : Passes (L2N.CX P w) (cxOf (L2N.CX P w) P w K mg base ["chart"] "lands" (defScope s_lands) fa cdv A outer s H E) E := L2N.passes_call tk (fun _ _ _ _ h => h)
  have po : PassesOwn (model P w) (cxOf (L2N.CX P w) P w K mg base ["chart"] "lands" (defScope s_lands) fa cdv A outer s H E).A (cxOf (L2N.CX P w) P w K mg base ["chart"] "lands" (defScope s_lands) fa cdv A outer s H E).env (cxOf (L2N.CX P w) P w K mg base ["chart"] "lands" (defScope s_lands) fa cdv A outer s H E).xe := passes_of rfl
  exact (ss_cons (ss_expr (sv_call (f := 13) (G 13) hr hx (by rfl) (sa_cons (sv_var (i := 0)) sa_nil))) (ss_one (ss_ret (sv_call (f := 14) (G 14) hr hx (by rfl) (sa_cons (sv_var (i := 0)) sa_nil)))))
theorem sc__law_drawn : FnScope ["cell", "k", "more"] ["cell", "k"] (defScope s__law_drawn) := ⟨rfl, rfl, rfl, by decide +kernel, rfl, by decide +kernel, by decide +kernel⟩
theorem d__law_drawn (Z : Txt K mg ca tk0) (n : Nat) (G : ∀ f, At P w K mg base J ca n f) (fa : Addr) (W : Ent) (E : XK) (cdv : Value) (A : Around) (outer : List PySem.Env) (s : Shared) (H : Hp) (hp : ∀ b, W.P0 b) (hr : Room (n + 1) (A.deeper (PyProof.Rows.envOfC "_law_drawn" (defScope s__law_drawn) s.heap.objs.size fa cdv))) :
    PSs (cxOf (L2N.CX P w) P w K mg base ["cell", "k", "more"] "_law_drawn" (defScope s__law_drawn) fa cdv A outer s H E) (defBody s__law_drawn) (TSv K (cfg J hJ (fun k => .ref (ca k)) (run T n) W E) b__law_drawn) := by
  have nd := (sc__law_drawn).nd
  have hu : (A.deeper (PyProof.Rows.envOfC "_law_drawn" (defScope s__law_drawn) s.heap.objs.size fa cdv)).units + 64 < cLine := hr.units
  have hu1 : (A.deeper (PyProof.Rows.envOfC "_law_drawn" (defScope s__law_drawn) s.heap.objs.size fa cdv)).units + 1 < cLine := by omega
  have hc : (cxOf (L2N.CX P w) P w K mg base ["cell", "k", "more"] "_law_drawn" (defScope s__law_drawn) fa cdv A outer s H E).calm = true := rfl
  have tk : L2N.Takes (cxOf (L2N.CX P w) P w K mg base ["cell", "k", "more"] "_law_drawn" (defScope s__law_drawn) fa cdv A outer s H E) (fun cls d _ H => E cls d H) := L2N.takes_of rfl rfl rfl rfl
  have hx : Passes (L2N.CX P w) (cxOf (L2N.CX P w) P w K mg base ["cell", "k", "more"] "_law_drawn" (defScope s__law_drawn) fa cdv A outer s H E) E := L2N.passes_call tk (fun _ _ _ _ h => h)
  have po : PassesOwn (model P w) (cxOf (L2N.CX P w) P w K mg base ["cell", "k", "more"] "_law_drawn" (defScope s__law_drawn) fa cdv A outer s H E).A (cxOf (L2N.CX P w) P w K mg base ["cell", "k", "more"] "_law_drawn" (defScope s__law_drawn) fa cdv A outer s H E).env (cxOf (L2N.CX P w) P w K mg base ["cell", "k", "more"] "_law_drawn" (defScope s__law_drawn) fa cdv A outer s H E).xe := passes_of rfl
  exact (ss_cons (ss_asg tg_name (sv_mod (sv_add (sv_mul (sv_var (i := 0)) sv_int) (sv_mul (sv_add (sv_var (i := 1)) sv_int) sv_int)) sv_int) (pg_name (i := 2) nd rfl (Or.inl rfl))) (ss_cons (ss_asg tg_name (sv_mod (sv_mul (sv_var (i := 2)) (sv_var (i := 2))) sv_int) (pg_name (i := 2) nd rfl (Or.inl rfl))) (ss_cons (ss_asg tg_name (sv_mul (sv_mul (sv_add (sv_mod (sv_var (i := 2)) sv_int) sv_int) (sv_add (sv_fdiv (sv_var (i := 2)) sv_int) sv_int)) (sv_var (i := 2))) (pg_name (i := 2) nd rfl (Or.inl rfl))) (ss_one (ss_ret (sv_mod (sv_var (i := 2)) sv_int))))))
theorem sc__law_roll : FnScope ["dice", "many", "told"] ["dice", "many"] (defScope s__law_roll) := ⟨rfl, rfl, rfl, by decide +kernel, rfl, by decide +kernel, by decide +kernel⟩
theorem d__law_roll (Z : Txt K mg ca tk0) (n : Nat) (G : ∀ f, At P w K mg base J ca n f) (fa : Addr) (W : Ent) (E : XK) (cdv : Value) (A : Around) (outer : List PySem.Env) (s : Shared) (H : Hp) (hr : Room (n + 1) (A.deeper (PyProof.Rows.envOfC "_law_roll" (defScope s__law_roll) s.heap.objs.size fa cdv))) :
    PSs (cxOf (L2N.CX P w) P w K mg base ["dice", "many", "told"] "_law_roll" (defScope s__law_roll) fa cdv A outer s H E) (defBody s__law_roll) (TSv K (cfg J hJ (fun k => .ref (ca k)) (run T n) W E) b__law_roll) := by
  have nd := (sc__law_roll).nd
  have hu : (A.deeper (PyProof.Rows.envOfC "_law_roll" (defScope s__law_roll) s.heap.objs.size fa cdv)).units + 64 < cLine := hr.units
  have hu1 : (A.deeper (PyProof.Rows.envOfC "_law_roll" (defScope s__law_roll) s.heap.objs.size fa cdv)).units + 1 < cLine := by omega
  have hc : (cxOf (L2N.CX P w) P w K mg base ["dice", "many", "told"] "_law_roll" (defScope s__law_roll) fa cdv A outer s H E).calm = true := rfl
  have tk : L2N.Takes (cxOf (L2N.CX P w) P w K mg base ["dice", "many", "told"] "_law_roll" (defScope s__law_roll) fa cdv A outer s H E) (fun cls d _ H => E cls d H) := L2N.takes_of rfl rfl rfl rfl
  have hx : Passes (L2N.CX P w) (cxOf (L2N.CX P w) P w K mg base ["dice", "many", "told"] "_law_roll" (defScope s__law_roll) fa cdv A outer s H E) E := L2N.passes_call tk (fun _ _ _ _ h => h)
  have po : PassesOwn (model P w) (cxOf (L2N.CX P w) P w K mg base ["dice", "many", "told"] "_law_roll" (defScope s__law_roll) fa cdv A outer s H E).A (cxOf (L2N.CX P w) P w K mg base ["dice", "many", "told"] "_law_roll" (defScope s__law_roll) fa cdv A outer s H E).env (cxOf (L2N.CX P w) P w K mg base ["dice", "many", "told"] "_law_roll" (defScope s__law_roll) fa cdv A outer s H E).xe := passes_of rfl
  exact (ss_cons (ss_if (sw_ge (sv_oitem (pv 0) sv_int) (sv_pow sv_int sv_int)) (ss_cons (ss_asg tg_name (sv_mod (sv_oitem (pv 0) sv_int) (sv_var (i := 1))) (pg_name (i := 2) nd rfl (Or.inl rfl))) (ss_cons (ss_store (i := 0) (pv 0) sv_int (sv_fdiv (sv_oitem (pv 0) sv_int) (sv_var (i := 1)))) (ss_one (ss_ret (sv_var (i := 2)))))) ss_nil) (ss_cons (ss_store (i := 0) (pv 0) sv_int (sv_add (sv_oitem (pv 0) sv_int) sv_int)) (ss_one (ss_ret (sv_mod (sv_fdiv (sv_call (f := 17) (G 17) hr hx (by rfl) (sa_cons (sv_oitem (pv 0) sv_int) (sa_cons (sv_oitem (pv 0) sv_int) sa_nil))) sv_int) (sv_var (i := 1)))))))
theorem sc__law_ends : FnScope ["chart", "found", "point", "row", "place"] ["chart"] (defScope s__law_ends) := ⟨rfl, rfl, rfl, by decide +kernel, rfl, by decide +kernel, by decide +kernel⟩
theorem d__law_ends (Z : Txt K mg ca tk0) (n : Nat) (G : ∀ f, At P w K mg base J ca n f) (fa : Addr) (W : Ent) (E : XK) (cdv : Value) (A : Around) (outer : List PySem.Env) (s : Shared) (H : Hp) (hp : ∀ b, W.P0 b) (hr : Room (n + 1) (A.deeper (PyProof.Rows.envOfC "_law_ends" (defScope s__law_ends) s.heap.objs.size fa cdv))) :
    PSs (cxOf (L2N.CX P w) P w K mg base ["chart", "found", "point", "row", "place"] "_law_ends" (defScope s__law_ends) fa cdv A outer s H E) (defBody s__law_ends) (TSv K (cfg J hJ (fun k => .ref (ca k)) (run T n) W E) b__law_ends) := by
  have nd := (sc__law_ends).nd
  have hu : (A.deeper (PyProof.Rows.envOfC "_law_ends" (defScope s__law_ends) s.heap.objs.size fa cdv)).units + 64 < cLine := hr.units
  have hu1 : (A.deeper (PyProof.Rows.envOfC "_law_ends" (defScope s__law_ends) s.heap.objs.size fa cdv)).units + 1 < cLine := by omega
  have hc : (cxOf (L2N.CX P w) P w K mg base ["chart", "found", "point", "row", "place"] "_law_ends" (defScope s__law_ends) fa cdv A outer s H E).calm = true := rfl
  have tk : L2N.Takes (cxOf (L2N.CX P w) P w K mg base ["chart", "found", "point", "row", "place"] "_law_ends" (defScope s__law_ends) fa cdv A outer s H E) (fun cls d _ H => E cls d H) := L2N.takes_of rfl rfl rfl rfl
  have hx : Passes (L2N.CX P w) (cxOf (L2N.CX P w) P w K mg base ["chart", "found", "point", "row", "place"] "_law_ends" (defScope s__law_ends) fa cdv A outer s H E) E := L2N.passes_call tk (fun _ _ _ _ h => h)
  have po : PassesOwn (model P w) (cxOf (L2N.CX P w) P w K mg base ["chart", "found", "point", "row", "place"] "_law_ends" (defScope s__law_ends) fa cdv A outer s H E).A (cxOf (L2N.CX P w) P w K mg base ["chart", "found", "point", "row", "place"] "_law_ends" (defScope s__law_ends) fa cdv A outer s H E).env (cxOf (L2N.CX P w) P w K mg base ["chart", "found", "point", "row", "place"] "_law_ends" (defScope s__law_ends) fa cdv A outer s H E).xe := passes_of rfl
  exact (ss_cons (ss_asg tg_name (sv_mkl sa_nil) (pg_name (i := 1) nd rfl (Or.inl rfl))) (ss_cons (ss_for po hc (si_enum (by rfl) Z.b_enumerate (sa_cons (sv_var (i := 0)) sa_nil)) (tg_tup rfl) (pg_tup hc (pgs_names (pg_name (i := 2) nd rfl (Or.inr rfl)) (pgs_names (pg_name (i := 3) nd rfl (Or.inl rfl)) pgs_none))) (ss_one (ss_asg tg_name (sv_add (sv_var (i := 1)) (sv_lc hc nd (si_range1 (by rfl) Z.b_range (sa_cons (sv_len (by rfl) Z.b_len (sv_var (i := 3))) sa_nil)) (blkOk_by (N := ["chart", "found", "point", "row", "place"]) (sc := defScope s__law_ends) (own := [("place", 4)]) (by decide +kernel)) to_name rfl (fun _ _ _ _ _ => (pg_name (i := 4) nd rfl (Or.inl rfl))) (fun _ _ _ _ _ => st_nil) (fun _ _ _ _ _ => (sv_mkt (sa_cons (sv_var (i := 2)) (sa_cons (sv_var (i := 4)) sa_nil)))))) (pg_name (i := 1) nd rfl (Or.inl rfl))))) (ss_one (ss_ret (sv_var (i := 1))))))
theorem sc__law_letters : FnScope ["chart", "row"] ["chart"] (defScope s__law_letters) := ⟨rfl, rfl, rfl, by decide +kernel, rfl, by decide +kernel, by decide +kernel⟩
theorem d__law_letters (Z : Txt K mg ca tk0) (n : Nat) (G : ∀ f, At P w K mg base J ca n f) (fa : Addr) (W : Ent) (E : XK) (cdv : Value) (A : Around) (outer : List PySem.Env) (s : Shared) (H : Hp) (hp : ∀ b, W.P0 b) (hr : Room (n + 1) (A.deeper (PyProof.Rows.envOfC "_law_letters" (defScope s__law_letters) s.heap.objs.size fa cdv))) :
    PSs (cxOf (L2N.CX P w) P w K mg base ["chart", "row"] "_law_letters" (defScope s__law_letters) fa cdv A outer s H E) (defBody s__law_letters) (TSv K (cfg J hJ (fun k => .ref (ca k)) (run T n) W E) b__law_letters) := by
  have nd := (sc__law_letters).nd
  have hu : (A.deeper (PyProof.Rows.envOfC "_law_letters" (defScope s__law_letters) s.heap.objs.size fa cdv)).units + 64 < cLine := hr.units
  have hu1 : (A.deeper (PyProof.Rows.envOfC "_law_letters" (defScope s__law_letters) s.heap.objs.size fa cdv)).units + 1 < cLine := by omega
  have hc : (cxOf (L2N.CX P w) P w K mg base ["chart", "row"] "_law_letters" (defScope s__law_letters) fa cdv A outer s H E).calm = true := rfl
  have tk : L2N.Takes (cxOf (L2N.CX P w) P w K mg base ["chart", "row"] "_law_letters" (defScope s__law_letters) fa cdv A outer s H E) (fun cls d _ H => E cls d H) := L2N.takes_of rfl rfl rfl rfl
  have hx : Passes (L2N.CX P w) (cxOf (L2N.CX P w) P w K mg base ["chart", "row"] "_law_letters" (defScope s__law_letters) fa cdv A outer s H E) E := L2N.passes_call tk (fun _ _ _ _ h => h)
  have po : PassesOwn (model P w) (cxOf (L2N.CX P w) P w K mg base ["chart", "row"] "_law_letters" (defScope s__law_letters) fa cdv A outer s H E).A (cxOf (L2N.CX P w) P w K mg base ["chart", "row"] "_law_letters" (defScope s__law_letters) fa cdv A outer s H E).env (cxOf (L2N.CX P w) P w K mg base ["chart", "row"] "_law_letters" (defScope s__law_letters) fa cdv A outer s H E).xe := passes_of rfl
  exact (ss_one (ss_ret (sv_slcH sv_strL (sv_fdiv (sv_sum hc (by rfl) Z.b_sum (sv_lc hc nd (si_seq (sv_var (i := 0))) (blkOk_by (N := ["chart", "row"]) (sc := defScope s__law_letters) (own := [("row", 1)]) (by decide +kernel)) to_name rfl (fun _ _ _ _ _ => (pg_name (i := 1) nd rfl (Or.inl rfl))) (fun _ _ _ _ _ => st_nil) (fun _ _ _ _ _ => (sv_len (by rfl) Z.b_len (sv_var (i := 1)))))) sv_int))))
theorem sc__law_on : FnScope ["chart", "end", "letter", "point", "place", "one"] ["chart", "end"] (defScope s__law_on) := ⟨rfl, rfl, rfl, by decide +kernel, rfl, by decide +kernel, by decide +kernel⟩
theorem d__law_on (Z : Txt K mg ca tk0) (n : Nat) (G : ∀ f, At P w K mg base J ca n f) (fa : Addr) (W : Ent) (E : XK) (cdv : Value) (A : Around) (outer : List PySem.Env) (s : Shared) (H : Hp) (hp : ∀ b, W.P0 b) (hr : Room (n + 1) (A.deeper (PyProof.Rows.envOfC "_law_on" (defScope s__law_on) s.heap.objs.size fa cdv))) :
    PSs (cxOf (L2N.CX P w) P w K mg base ["chart", "end", "letter", "point", "place", "one"] "_law_on" (defScope s__law_on) fa cdv A outer s H E) (defBody s__law_on) (TSv K (cfg J hJ (fun k => .ref (ca k)) (run T n) W E) b__law_on) := by
  have nd := (sc__law_on).nd
  have hu : (A.deeper (PyProof.Rows.envOfC "_law_on" (defScope s__law_on) s.heap.objs.size fa cdv)).units + 64 < cLine := hr.units
  have hu1 : (A.deeper (PyProof.Rows.envOfC "_law_on" (defScope s__law_on) s.heap.objs.size fa cdv)).units + 1 < cLine := by omega
  have hc : (cxOf (L2N.CX P w) P w K mg base ["chart", "end", "letter", "point", "place", "one"] "_law_on" (defScope s__law_on) fa cdv A outer s H E).calm = true := rfl
  have tk : L2N.Takes (cxOf (L2N.CX P w) P w K mg base ["chart", "end", "letter", "point", "place", "one"] "_law_on" (defScope s__law_on) fa cdv A outer s H E) (fun cls d _ H => E cls d H) := L2N.takes_of rfl rfl rfl rfl
  have hx : Passes (L2N.CX P w) (cxOf (L2N.CX P w) P w K mg base ["chart", "end", "letter", "point", "place", "one"] "_law_on" (defScope s__law_on) fa cdv A outer s H E) E := L2N.passes_call tk (fun _ _ _ _ h => h)
  have po : PassesOwn (model P w) (cxOf (L2N.CX P w) P w K mg base ["chart", "end", "letter", "point", "place", "one"] "_law_on" (defScope s__law_on) fa cdv A outer s H E).A (cxOf (L2N.CX P w) P w K mg base ["chart", "end", "letter", "point", "place", "one"] "_law_on" (defScope s__law_on) fa cdv A outer s H E).env (cxOf (L2N.CX P w) P w K mg base ["chart", "end", "letter", "point", "place", "one"] "_law_on" (defScope s__law_on) fa cdv A outer s H E).xe := passes_of rfl
  exact (ss_cons (ss_asg tg_name (sv_item (sv_item (sv_var (i := 0)) (sv_item (sv_var (i := 1)) sv_int)) (sv_item (sv_var (i := 1)) sv_int)) (pg_name (i := 2) nd rfl (Or.inr rfl))) (ss_cons (ss_asg (tg_tup rfl) (sv_item (sv_lc hc nd (si_seq (sv_call (f := 22) (G 22) hr hx (by rfl) (sa_cons (sv_var (i := 0)) sa_nil))) (blkOk_by (N := ["chart", "end", "letter", "point", "place", "one"]) (sc := defScope s__law_on) (own := [("one", 5)]) (by decide +kernel)) to_name rfl (fun _ _ _ _ _ => (pg_name (i := 5) nd rfl (Or.inl rfl))) (fun _ _ _ _ _ => (st_one (PW.pt (sx_and (sw_ne hu (sv_var (i := 5)) (sv_var (i := 1))) (sx_and1 (sw_eq hu (sv_item (sv_item (sv_var (i := 0)) (sv_item (sv_var (i := 5)) sv_int)) (sv_item (sv_var (i := 5)) sv_int)) (sv_var (i := 2)))))))) (fun _ _ _ _ _ => (sv_var (i := 5)))) sv_int) (pg_tup hc (pgs_names (pg_name (i := 3) nd rfl (Or.inl rfl)) (pgs_names (pg_name (i := 4) nd rfl (Or.inl rfl)) pgs_none)))) (ss_one (ss_ret (sv_mkt (sa_cons (sv_var (i := 3)) (sa_cons (sv_mod (sv_add (sv_var (i := 4)) sv_int) (sv_len (by rfl) Z.b_len (sv_item (sv_var (i := 0)) (sv_var (i := 3))))) sa_nil)))))))
theorem sc__law_walks : FnScope ["chart", "found", "seen", "end", "some", "turn"] ["chart"] (defScope s__law_walks) := ⟨rfl, rfl, rfl, by decide +kernel, rfl, by decide +kernel, by decide +kernel⟩
theorem d__law_walks (Z : Txt K mg ca tk0) (n : Nat) (G : ∀ f, At P w K mg base J ca n f) (fa : Addr) (W : Ent) (E : XK) (cdv : Value) (A : Around) (outer : List PySem.Env) (s : Shared) (H : Hp) (hp : ∀ b, W.P0 b) (hr : Room (n + 1) (A.deeper (PyProof.Rows.envOfC "_law_walks" (defScope s__law_walks) s.heap.objs.size fa cdv))) :
    PSs (cxOf (L2N.CX P w) P w K mg base ["chart", "found", "seen", "end", "some", "turn"] "_law_walks" (defScope s__law_walks) fa cdv A outer s H E) (defBody s__law_walks) (TSv K (cfg J hJ (fun k => .ref (ca k)) (run T n) W E) b__law_walks) := by
  have nd := (sc__law_walks).nd
  have hu : (A.deeper (PyProof.Rows.envOfC "_law_walks" (defScope s__law_walks) s.heap.objs.size fa cdv)).units + 64 < cLine := hr.units
  have hu1 : (A.deeper (PyProof.Rows.envOfC "_law_walks" (defScope s__law_walks) s.heap.objs.size fa cdv)).units + 1 < cLine := by omega
  have hc : (cxOf (L2N.CX P w) P w K mg base ["chart", "found", "seen", "end", "some", "turn"] "_law_walks" (defScope s__law_walks) fa cdv A outer s H E).calm = true := rfl
  have tk : L2N.Takes (cxOf (L2N.CX P w) P w K mg base ["chart", "found", "seen", "end", "some", "turn"] "_law_walks" (defScope s__law_walks) fa cdv A outer s H E) (fun cls d _ H => E cls d H) := L2N.takes_of rfl rfl rfl rfl
  have hx : Passes (L2N.CX P w) (cxOf (L2N.CX P w) P w K mg base ["chart", "found", "seen", "end", "some", "turn"] "_law_walks" (defScope s__law_walks) fa cdv A outer s H E) E := L2N.passes_call tk (fun _ _ _ _ h => h)
  have po : PassesOwn (model P w) (cxOf (L2N.CX P w) P w K mg base ["chart", "found", "seen", "end", "some", "turn"] "_law_walks" (defScope s__law_walks) fa cdv A outer s H E).A (cxOf (L2N.CX P w) P w K mg base ["chart", "found", "seen", "end", "some", "turn"] "_law_walks" (defScope s__law_walks) fa cdv A outer s H E).env (cxOf (L2N.CX P w) P w K mg base ["chart", "found", "seen", "end", "some", "turn"] "_law_walks" (defScope s__law_walks) fa cdv A outer s H E).xe := passes_of rfl
  exact (ss_cons (ss_par2 (i := 1) (j := 2) hc nd rfl rfl (by decide) rfl rfl (saf_cons (sf_list sa_nil) (saf_cons sf_dT saf_nil)) rfl) (ss_cons (ss_for po hc (si_seq (sv_call (f := 22) (G 22) hr hx (by rfl) (sa_cons (sv_var (i := 0)) sa_nil))) tg_name (pg_name (i := 3) nd rfl (Or.inl rfl)) (ss_one (ss_if (sw_dNotIn hu1 (pv 2) (sv_var (i := 3))) (ss_cons (ss_asgM (i := 4) nd rfl (Or.inl rfl) (sf_list sa_nil)) (ss_cons (ss_for po hc (si_range1 (by rfl) Z.b_range (sa_cons sv_int sa_nil)) tg_name (pg_name (i := 5) nd rfl (Or.inl rfl)) (ss_one (ss_if (sw_dNotIn hu1 (pv 2) (sv_var (i := 3))) (ss_cons (ss_dput (i := 2) hu1 (pv 2) (sv_var (i := 3)) sv_bool) (ss_cons (ss_append (i := 4) (pv 4) (sv_var (i := 3))) (ss_one (ss_asg tg_name (sv_call (f := 24) (G 24) hr hx (by rfl) (sa_cons (sv_var (i := 0)) (sa_cons (sv_var (i := 3)) sa_nil))) (pg_name (i := 3) nd rfl (Or.inl rfl)))))) ss_nil))) (ss_one (ss_append (i := 1) (pv 1) (sv_var (i := 4)))))) ss_nil))) (ss_one (ss_ret (sv_var (i := 1))))))
theorem sc__law_turned : FnScope ["text", "at"] ["text"] (defScope s__law_turned) := ⟨rfl, rfl, rfl, by decide +kernel, rfl, by decide +kernel, by decide +kernel⟩
theorem d__law_turned (Z : Txt K mg ca tk0) (n : Nat) (G : ∀ f, At P w K mg base J ca n f) (fa : Addr) (W : Ent) (E : XK) (cdv : Value) (A : Around) (outer : List PySem.Env) (s : Shared) (H : Hp) (hp : ∀ b, W.P0 b) (hr : Room (n + 1) (A.deeper (PyProof.Rows.envOfC "_law_turned" (defScope s__law_turned) s.heap.objs.size fa cdv))) :
    PSs (cxOf (L2N.CX P w) P w K mg base ["text", "at"] "_law_turned" (defScope s__law_turned) fa cdv A outer s H E) (defBody s__law_turned) (TSv K (cfg J hJ (fun k => .ref (ca k)) (run T n) W E) b__law_turned) := by
  have nd := (sc__law_turned).nd
  have hu : (A.deeper (PyProof.Rows.envOfC "_law_turned" (defScope s__law_turned) s.heap.objs.size fa cdv)).units + 64 < cLine := hr.units
  have hu1 : (A.deeper (PyProof.Rows.envOfC "_law_turned" (defScope s__law_turned) s.heap.objs.size fa cdv)).units + 1 < cLine := by omega
  have hc : (cxOf (L2N.CX P w) P w K mg base ["text", "at"] "_law_turned" (defScope s__law_turned) fa cdv A outer s H E).calm = true := rfl
  have tk : L2N.Takes (cxOf (L2N.CX P w) P w K mg base ["text", "at"] "_law_turned" (defScope s__law_turned) fa cdv A outer s H E) (fun cls d _ H => E cls d H) := L2N.takes_of rfl rfl rfl rfl
  have hx : Passes (L2N.CX P w) (cxOf (L2N.CX P w) P w K mg base ["text", "at"] "_law_turned" (defScope s__law_turned) fa cdv A outer s H E) E := L2N.passes_call tk (fun _ _ _ _ h => h)
  have po : PassesOwn (model P w) (cxOf (L2N.CX P w) P w K mg base ["text", "at"] "_law_turned" (defScope s__law_turned) fa cdv A outer s H E).A (cxOf (L2N.CX P w) P w K mg base ["text", "at"] "_law_turned" (defScope s__law_turned) fa cdv A outer s H E).env (cxOf (L2N.CX P w) P w K mg base ["text", "at"] "_law_turned" (defScope s__law_turned) fa cdv A outer s H E).xe := passes_of rfl
  exact (ss_one (ss_ret (sv_min1 hc hu (by rfl) Z.b_min (sv_lc hc nd (si_range1 (by rfl) Z.b_range (sa_cons (sv_len (by rfl) Z.b_len (sv_var (i := 0))) sa_nil)) (blkOk_by (N := ["text", "at"]) (sc := defScope s__law_turned) (own := [("at", 1)]) (by decide +kernel)) to_name rfl (fun _ _ _ _ _ => (pg_name (i := 1) nd rfl (Or.inl rfl))) (fun _ _ _ _ _ => st_nil) (fun _ _ _ _ _ => (sv_add (sv_slcL (sv_var (i := 0)) (sv_var (i := 1))) (sv_slcH (sv_var (i := 0)) (sv_var (i := 1)))))))))
theorem sc__law_lands : FnScope ["chart", "found", "some", "point", "place"] ["chart"] (defScope s__law_lands) := ⟨rfl, rfl, rfl, by decide +kernel, rfl, by decide +kernel, by decide +kernel⟩
theorem d__law_lands (Z : Txt K mg ca tk0) (n : Nat) (G : ∀ f, At P w K mg base J ca n f) (fa : Addr) (W : Ent) (E : XK) (cdv : Value) (A : Around) (outer : List PySem.Env) (s : Shared) (H : Hp) (hp : ∀ b, W.P0 b) (hr : Room (n + 1) (A.deeper (PyProof.Rows.envOfC "_law_lands" (defScope s__law_lands) s.heap.objs.size fa cdv))) :
    PSs (cxOf (L2N.CX P w) P w K mg base ["chart", "found", "some", "point", "place"] "_law_lands" (defScope s__law_lands) fa cdv A outer s H E) (defBody s__law_lands) (TSv K (cfg J hJ (fun k => .ref (ca k)) (run T n) W E) b__law_lands) := by
  have nd := (sc__law_lands).nd
  have hu : (A.deeper (PyProof.Rows.envOfC "_law_lands" (defScope s__law_lands) s.heap.objs.size fa cdv)).units + 64 < cLine := hr.units
  have hu1 : (A.deeper (PyProof.Rows.envOfC "_law_lands" (defScope s__law_lands) s.heap.objs.size fa cdv)).units + 1 < cLine := by omega
  have hc : (cxOf (L2N.CX P w) P w K mg base ["chart", "found", "some", "point", "place"] "_law_lands" (defScope s__law_lands) fa cdv A outer s H E).calm = true := rfl
  have tk : L2N.Takes (cxOf (L2N.CX P w) P w K mg base ["chart", "found", "some", "point", "place"] "_law_lands" (defScope s__law_lands) fa cdv A outer s H E) (fun cls d _ H => E cls d H) := L2N.takes_of rfl rfl rfl rfl
  have hx : Passes (L2N.CX P w) (cxOf (L2N.CX P w) P w K mg base ["chart", "found", "some", "point", "place"] "_law_lands" (defScope s__law_lands) fa cdv A outer s H E) E := L2N.passes_call tk (fun _ _ _ _ h => h)
  have po : PassesOwn (model P w) (cxOf (L2N.CX P w) P w K mg base ["chart", "found", "some", "point", "place"] "_law_lands" (defScope s__law_lands) fa cdv A outer s H E).A (cxOf (L2N.CX P w) P w K mg base ["chart", "found", "some", "point", "place"] "_law_lands" (defScope s__law_lands) fa cdv A outer s H E).env (cxOf (L2N.CX P w) P w K mg base ["chart", "found", "some", "point", "place"] "_law_lands" (defScope s__law_lands) fa cdv A outer s H E).xe := passes_of rfl
  exact (ss_cons (ss_asgM (i := 1) nd rfl (Or.inl rfl) (sf_list sa_nil)) (ss_cons (ss_for po hc (si_seq (sv_call (f := 25) (G 25) hr hx (by rfl) (sa_cons (sv_var (i := 0)) sa_nil))) tg_name (pg_name (i := 2) nd rfl (Or.inl rfl)) (ss_one (ss_append (i := 1) (pv 1) (sv_call (f := 30) (G 30) hr hx (by rfl) (sa_cons (sv_join sv_strL (sv_lc hc nd (si_seq (sv_var (i := 2))) (blkOk_by (N := ["chart", "found", "some", "point", "place"]) (sc := defScope s__law_lands) (own := [("point", 3), ("place", 4)]) (by decide +kernel)) (to_tup rfl) rfl (fun _ _ _ _ _ => (pg_tup hc (pgs_names (pg_name (i := 3) nd rfl (Or.inl rfl)) (pgs_names (pg_name (i := 4) nd rfl (Or.inl rfl)) pgs_none)))) (fun _ _ _ _ _ => st_nil) (fun _ _ _ _ _ => (sv_item (sv_item (sv_var (i := 0)) (sv_var (i := 3))) (sv_var (i := 4)))))) sa_nil))))) (ss_one (ss_ret (sv_sorted hc hu (by rfl) Z.b_sorted (sv_var (i := 1)))))))
theorem sc__law_put : FnScope ["chart", "point", "place", "letter", "row"] ["chart", "point", "place", "letter"] (defScope s__law_put) := ⟨rfl, rfl, rfl, by decide +kernel, rfl, by decide +kernel, by decide +kernel⟩
theorem d__law_put (Z : Txt K mg ca tk0) (n : Nat) (G : ∀ f, At P w K mg base J ca n f) (fa : Addr) (W : Ent) (E : XK) (cdv : Value) (A : Around) (outer : List PySem.Env) (s : Shared) (H : Hp) (hp : ∀ b, W.P0 b) (hr : Room (n + 1) (A.deeper (PyProof.Rows.envOfC "_law_put" (defScope s__law_put) s.heap.objs.size fa cdv))) :
    PSs (cxOf (L2N.CX P w) P w K mg base ["chart", "point", "place", "letter", "row"] "_law_put" (defScope s__law_put) fa cdv A outer s H E) (defBody s__law_put) (TSv K (cfg J hJ (fun k => .ref (ca k)) (run T n) W E) b__law_put) := by
  have nd := (sc__law_put).nd
  have hu : (A.deeper (PyProof.Rows.envOfC "_law_put" (defScope s__law_put) s.heap.objs.size fa cdv)).units + 64 < cLine := hr.units
  have hu1 : (A.deeper (PyProof.Rows.envOfC "_law_put" (defScope s__law_put) s.heap.objs.size fa cdv)).units + 1 < cLine := by omega
  have hc : (cxOf (L2N.CX P w) P w K mg base ["chart", "point", "place", "letter", "row"] "_law_put" (defScope s__law_put) fa cdv A outer s H E).calm = true := rfl
  have tk : L2N.Takes (cxOf (L2N.CX P w) P w K mg base ["chart", "point", "place", "letter", "row"] "_law_put" (defScope s__law_put) fa cdv A outer s H E) (fun cls d _ H => E cls d H) := L2N.takes_of rfl rfl rfl rfl
  have hx : Passes (L2N.CX P w) (cxOf (L2N.CX P w) P w K mg base ["chart", "point", "place", "letter", "row"] "_law_put" (defScope s__law_put) fa cdv A outer s H E) E := L2N.passes_call tk (fun _ _ _ _ h => h)
  have po : PassesOwn (model P w) (cxOf (L2N.CX P w) P w K mg base ["chart", "point", "place", "letter", "row"] "_law_put" (defScope s__law_put) fa cdv A outer s H E).A (cxOf (L2N.CX P w) P w K mg base ["chart", "point", "place", "letter", "row"] "_law_put" (defScope s__law_put) fa cdv A outer s H E).env (cxOf (L2N.CX P w) P w K mg base ["chart", "point", "place", "letter", "row"] "_law_put" (defScope s__law_put) fa cdv A outer s H E).xe := passes_of rfl
  exact (ss_cons (ss_asg tg_name (sv_add (sv_add (sv_slcH (sv_item (sv_var (i := 0)) (sv_var (i := 1))) (sv_var (i := 2))) (sv_var (i := 3))) (sv_slcL (sv_item (sv_var (i := 0)) (sv_var (i := 1))) (sv_var (i := 2)))) (pg_name (i := 4) nd rfl (Or.inl rfl))) (ss_one (ss_ret (sv_add (sv_add (sv_slcH (sv_var (i := 0)) (sv_var (i := 1))) (sv_mkt (sa_cons (sv_var (i := 4)) sa_nil))) (sv_slcL (sv_var (i := 0)) (sv_add (sv_var (i := 1)) sv_int))))))
theorem sc__law_any_map : FnScope ["dice", "most", "chart", "leaves", "letter", "some", "one", "first", "last"] ["dice", "most"] (defScope s__law_any_map) := ⟨rfl, rfl, rfl, by decide +kernel, rfl, by decide +kernel, by decide +kernel⟩
theorem d__law_any_map (Z : Txt K mg ca tk0) (n : Nat) (G : ∀ f, At P w K mg base J ca n f) (fa : Addr) (W : Ent) (E : XK) (cdv : Value) (A : Around) (outer : List PySem.Env) (s : Shared) (H : Hp) (hr : Room (n + 1) (A.deeper (PyProof.Rows.envOfC "_law_any_map" (defScope s__law_any_map) s.heap.objs.size fa cdv))) :
    PSs (cxOf (L2N.CX P w) P w K mg base ["dice", "most", "chart", "leaves", "letter", "some", "one", "first", "last"] "_law_any_map" (defScope s__law_any_map) fa cdv A outer s H E) (defBody s__law_any_map) (TSv K (cfg J hJ (fun k => .ref (ca k)) (run T n) W E) b__law_any_map) := by
  have nd := (sc__law_any_map).nd
  have hu : (A.deeper (PyProof.Rows.envOfC "_law_any_map" (defScope s__law_any_map) s.heap.objs.size fa cdv)).units + 64 < cLine := hr.units
  have hu1 : (A.deeper (PyProof.Rows.envOfC "_law_any_map" (defScope s__law_any_map) s.heap.objs.size fa cdv)).units + 1 < cLine := by omega
  have hc : (cxOf (L2N.CX P w) P w K mg base ["dice", "most", "chart", "leaves", "letter", "some", "one", "first", "last"] "_law_any_map" (defScope s__law_any_map) fa cdv A outer s H E).calm = true := rfl
  have tk : L2N.Takes (cxOf (L2N.CX P w) P w K mg base ["dice", "most", "chart", "leaves", "letter", "some", "one", "first", "last"] "_law_any_map" (defScope s__law_any_map) fa cdv A outer s H E) (fun cls d _ H => E cls d H) := L2N.takes_of rfl rfl rfl rfl
  have hx : Passes (L2N.CX P w) (cxOf (L2N.CX P w) P w K mg base ["dice", "most", "chart", "leaves", "letter", "some", "one", "first", "last"] "_law_any_map" (defScope s__law_any_map) fa cdv A outer s H E) E := L2N.passes_call tk (fun _ _ _ _ h => h)
  have po : PassesOwn (model P w) (cxOf (L2N.CX P w) P w K mg base ["dice", "most", "chart", "leaves", "letter", "some", "one", "first", "last"] "_law_any_map" (defScope s__law_any_map) fa cdv A outer s H E).A (cxOf (L2N.CX P w) P w K mg base ["dice", "most", "chart", "leaves", "letter", "some", "one", "first", "last"] "_law_any_map" (defScope s__law_any_map) fa cdv A outer s H E).env (cxOf (L2N.CX P w) P w K mg base ["dice", "most", "chart", "leaves", "letter", "some", "one", "first", "last"] "_law_any_map" (defScope s__law_any_map) fa cdv A outer s H E).xe := passes_of rfl
  exact (ss_cons (ss_par2 (i := 2) (j := 3) hc nd rfl rfl (by decide) rfl rfl (saf_cons (sf_val (sv_item (sv_mkl (sa_cons (sv_mkt (sa_cons sv_strL (sa_cons sv_strL sa_nil))) (sa_cons (sv_mkt (sa_cons sv_strL sa_nil)) sa_nil))) (sv_callIO (f := 18) (G 18) hr hx (by rfl) (pv 0) (sa_cons sv_int sa_nil)))) (saf_cons (sf_val (sv_add sv_int (sv_callIO (f := 18) (G 18) hr hx (by rfl) (pv 0) (sa_cons sv_int sa_nil)))) saf_nil)) rfl) (ss_cons (ss_for po hc (si_seq (sv_slcH sv_strL (sv_callIO (f := 18) (G 18) hr hx (by rfl) (pv 0) (sa_cons (sv_var (i := 1)) sa_nil)))) tg_name (pg_name (i := 4) nd rfl (Or.inl rfl)) (ss_cons (ss_asg tg_name (sv_call (f := 25) (G 25) hr hx (by rfl) (sa_cons (sv_var (i := 2)) sa_nil)) (pg_name (i := 5) nd rfl (Or.inl rfl))) (ss_cons (ss_asg tg_name (sv_item (sv_var (i := 5)) (sv_callIO (f := 18) (G 18) hr hx (by rfl) (pv 0) (sa_cons (sv_len (by rfl) Z.b_len (sv_var (i := 5))) sa_nil))) (pg_name (i := 5) nd rfl (Or.inl rfl))) (ss_cons (ss_asg tg_name (sv_item (sv_var (i := 5)) (sv_callIO (f := 18) (G 18) hr hx (by rfl) (pv 0) (sa_cons (sv_len (by rfl) Z.b_len (sv_var (i := 5))) sa_nil))) (pg_name (i := 6) nd rfl (Or.inl rfl))) (ss_one (ss_if (sw_lt (sv_callIO (f := 18) (G 18) hr hx (by rfl) (pv 0) (sa_cons sv_int sa_nil)) (sv_sub (sv_var (i := 3)) sv_int)) (ss_one (ss_asg tg_name (sv_add (sv_call (f := 26) (G 26) hr hx (by rfl) (sa_cons (sv_var (i := 2)) (sa_cons (sv_item (sv_var (i := 6)) sv_int) (sa_cons (sv_item (sv_var (i := 6)) sv_int) (sa_cons (sv_var (i := 4)) sa_nil))))) (sv_mkt (sa_cons (sv_var (i := 4)) sa_nil))) (pg_name (i := 2) nd rfl (Or.inl rfl)))) (ss_cons (ss_asg (tg_lst rfl) (sv_sorted hc hu (by rfl) Z.b_sorted (sv_mkl (sa_cons (sv_var (i := 6)) (sa_cons (sv_item (sv_var (i := 5)) (sv_callIO (f := 18) (G 18) hr hx (by rfl) (pv 0) (sa_cons (sv_len (by rfl) Z.b_len (sv_var (i := 5))) sa_nil))) sa_nil)))) (pg_unl hc (pgs_names (pg_name (i := 7) nd rfl (Or.inl rfl)) (pgs_names (pg_name (i := 8) nd rfl (Or.inl rfl)) pgs_none)))) (ss_one (ss_asg tg_name (sv_call (f := 26) (G 26) hr hx (by rfl) (sa_cons (sv_call (f := 26) (G 26) hr hx (by rfl) (sa_cons (sv_var (i := 2)) (sa_cons (sv_item (sv_var (i := 8)) sv_int) (sa_cons (sv_item (sv_var (i := 8)) sv_int) (sa_cons (sv_var (i := 4)) sa_nil))))) (sa_cons (sv_item (sv_var (i := 7)) sv_int) (sa_cons (sv_item (sv_var (i := 7)) sv_int) (sa_cons (sv_var (i := 4)) sa_nil))))) (pg_name (i := 2) nd rfl (Or.inl rfl))))))))))) (ss_one (ss_ret (sv_var (i := 2))))))
theorem sc__law_copy : FnScope ["dice", "chart", "names", "rows", "at", "place", "row", "text", "letter"] ["dice", "chart"] (defScope s__law_copy) := ⟨rfl, rfl, rfl, by decide +kernel, rfl, by decide +kernel, by decide +kernel⟩
theorem d__law_copy (Z : Txt K mg ca tk0) (n : Nat) (G : ∀ f, At P w K mg base J ca n f) (fa : Addr) (W : Ent) (E : XK) (cdv : Value) (A : Around) (outer : List PySem.Env) (s : Shared) (H : Hp) (hr : Room (n + 1) (A.deeper (PyProof.Rows.envOfC "_law_copy" (defScope s__law_copy) s.heap.objs.size fa cdv))) :
    PSs (cxOf (L2N.CX P w) P w K mg base ["dice", "chart", "names", "rows", "at", "place", "row", "text", "letter"] "_law_copy" (defScope s__law_copy) fa cdv A outer s H E) (defBody s__law_copy) (TSv K (cfg J hJ (fun k => .ref (ca k)) (run T n) W E) b__law_copy) := by
  have nd := (sc__law_copy).nd
  have hu : (A.deeper (PyProof.Rows.envOfC "_law_copy" (defScope s__law_copy) s.heap.objs.size fa cdv)).units + 64 < cLine := hr.units
  have hu1 : (A.deeper (PyProof.Rows.envOfC "_law_copy" (defScope s__law_copy) s.heap.objs.size fa cdv)).units + 1 < cLine := by omega
  have hc : (cxOf (L2N.CX P w) P w K mg base ["dice", "chart", "names", "rows", "at", "place", "row", "text", "letter"] "_law_copy" (defScope s__law_copy) fa cdv A outer s H E).calm = true := rfl
  have tk : L2N.Takes (cxOf (L2N.CX P w) P w K mg base ["dice", "chart", "names", "rows", "at", "place", "row", "text", "letter"] "_law_copy" (defScope s__law_copy) fa cdv A outer s H E) (fun cls d _ H => E cls d H) := L2N.takes_of rfl rfl rfl rfl
  have hx : Passes (L2N.CX P w) (cxOf (L2N.CX P w) P w K mg base ["dice", "chart", "names", "rows", "at", "place", "row", "text", "letter"] "_law_copy" (defScope s__law_copy) fa cdv A outer s H E) E := L2N.passes_call tk (fun _ _ _ _ h => h)
  have po : PassesOwn (model P w) (cxOf (L2N.CX P w) P w K mg base ["dice", "chart", "names", "rows", "at", "place", "row", "text", "letter"] "_law_copy" (defScope s__law_copy) fa cdv A outer s H E).A (cxOf (L2N.CX P w) P w K mg base ["dice", "chart", "names", "rows", "at", "place", "row", "text", "letter"] "_law_copy" (defScope s__law_copy) fa cdv A outer s H E).env (cxOf (L2N.CX P w) P w K mg base ["dice", "chart", "names", "rows", "at", "place", "row", "text", "letter"] "_law_copy" (defScope s__law_copy) fa cdv A outer s H E).xe := passes_of rfl
  exact (ss_cons (ss_parC2 (pg_tup hc (pgs_names (pg_name (i := 2) nd rfl (Or.inr rfl)) (pgs_names (pg_name (i := 3) nd rfl (Or.inl rfl)) pgs_none))) (saf_cons (sf_listOf hc (by rfl) Z.b_list (sv_call (f := 23) (G 23) hr hx (by rfl) (sa_cons (sv_var (i := 1)) sa_nil))) (saf_cons (sf_list sa_nil) saf_nil))) (ss_cons (ss_for po hc (si_range1 (by rfl) Z.b_range (sa_cons (sv_peek (sv_len (by rfl) Z.b_len (sv_var (i := 2)))) sa_nil)) tg_name (pg_name (i := 4) nd rfl (Or.inl rfl)) (ss_cons (ss_asg tg_name (sv_callIO (f := 18) (G 18) hr hx (by rfl) (pv 0) (sa_cons (sv_peek (sv_len (by rfl) Z.b_len (sv_var (i := 2)))) sa_nil)) (pg_name (i := 5) nd rfl (Or.inl rfl))) (ss_one (ss_sto2 (sv_mkt (sa_cons (sv_oitem (pv 2) (sv_var (i := 5))) (sa_cons (sv_oitem (pv 2) (sv_var (i := 4))) sa_nil))) (pg_tup hc (pgs_cons (pg_sub (pv 2) (pv 4) set_list) (pgs_cons (pg_sub (pv 2) (pv 5) set_list) pgs_nil))))))) (ss_cons (ss_for po hc (si_seq (sv_var (i := 1))) tg_name (pg_name (i := 6) nd rfl (Or.inl rfl)) (ss_cons (ss_asg tg_name (sv_join sv_strL (sv_lc hc nd (si_seq (sv_var (i := 6))) (blkOk_by (N := ["dice", "chart", "names", "rows", "at", "place", "row", "text", "letter"]) (sc := defScope s__law_copy) (own := [("letter", 8)]) (by decide +kernel)) to_name rfl (fun _ _ _ _ _ => (pg_name (i := 8) nd rfl (Or.inl rfl))) (fun _ _ _ _ _ => st_nil) (fun _ _ _ _ _ => (sv_oitem (pv 2) (sv_sindex sv_strL (sv_var (i := 8))))))) (pg_name (i := 7) nd rfl (Or.inl rfl))) (ss_cons (ss_asg tg_name (sv_callIO (f := 18) (G 18) hr hx (by rfl) (pv 0) (sa_cons (sv_len (by rfl) Z.b_len (sv_var (i := 7))) sa_nil)) (pg_name (i := 4) nd rfl (Or.inl rfl))) (ss_one (ss_append (i := 3) (pv 3) (sv_add (sv_slcL (sv_var (i := 7)) (sv_var (i := 4))) (sv_slcH (sv_var (i := 7)) (sv_var (i := 4))))))))) (ss_cons (ss_asg tg_name (sv_callIO (f := 18) (G 18) hr hx (by rfl) (pv 0) (sa_cons (sv_peek (sv_len (by rfl) Z.b_len (sv_var (i := 3)))) sa_nil)) (pg_name (i := 4) nd rfl (Or.inl rfl))) (ss_one (ss_ret (sv_tuple (by rfl) Z.b_tuple (sv_add (sv_slcL (sv_var (i := 3)) (sv_var (i := 4))) (sv_slcH (sv_var (i := 3)) (sv_var (i := 4)))))))))))
include hJ in
theorem at_all (Z : Txt K mg ca tk0) (D : Defs K mg) : ∀ n f, At P w K mg base J ca n f := by
  intro n
  induction n with
  | zero =>
    intro f
    unfold At
    split
    · obtain ⟨fa, fd, g, F⟩ := D.f_is_drawing
      exact def_ok0 F sc_is_drawing (F.binds (ps := ["value"]) fun _ _ _ _ _ _ us hl => match us, hl with | [_], _ => rfl) g
    · obtain ⟨fa, fd, g, F⟩ := D.f_ends_in
      exact def_ok0 F sc_ends_in (F.binds (ps := ["chart"]) fun _ _ _ _ _ _ us hl => match us, hl with | [_], _ => rfl) g
    · obtain ⟨fa, fd, g, F⟩ := D.f_letter_at
      exact def_ok0 F sc_letter_at (F.binds (ps := ["chart", "end"]) fun _ _ _ _ _ _ us hl => match us, hl with | [_, _], _ => rfl) g
    · obtain ⟨fa, fd, g, F⟩ := D.f_other_end
      exact def_ok0 F sc_other_end (F.binds (ps := ["chart", "end"]) fun _ _ _ _ _ _ us hl => match us, hl with | [_, _], _ => rfl) g
    · obtain ⟨fa, fd, g, F⟩ := D.f_next_around
      exact def_ok0 F sc_next_around (F.binds (ps := ["chart", "end"]) fun _ _ _ _ _ _ us hl => match us, hl with | [_, _], _ => rfl) g
    · obtain ⟨fa, fd, g, F⟩ := D.f_gone_on
      exact def_ok0 F sc_gone_on (F.binds (ps := ["chart", "end"]) fun _ _ _ _ _ _ us hl => match us, hl with | [_, _], _ => rfl) g
    · obtain ⟨fa, fd, g, F⟩ := D.f_least_turn
      exact def_ok0 F sc_least_turn (F.binds (ps := ["text"]) fun _ _ _ _ _ _ us hl => match us, hl with | [_], _ => rfl) g
    · obtain ⟨fa, fd, g, F⟩ := D.f_rounds
      exact def_ok0 F sc_rounds (F.binds (ps := ["chart"]) fun _ _ _ _ _ _ us hl => match us, hl with | [_], _ => rfl) g
    · obtain ⟨fa, fd, g, F⟩ := D.f_reached
      exact def_ok0 F sc_reached (F.binds (ps := ["pairs", "start"]) fun _ _ _ _ _ _ us hl => match us, hl with | [_, _], _ => rfl) g
    · obtain ⟨fa, fd, g, F⟩ := D.f_pairs_of
      exact def_ok0 F sc_pairs_of (F.binds (ps := ["chart", "letters"]) fun _ _ _ _ _ _ us hl => match us, hl with | [_, _], _ => rfl) g
    · obtain ⟨fa, fd, g, F⟩ := D.f_points_of
      exact def_ok0 F sc_points_of (F.binds (ps := ["chart", "letter"]) fun _ _ _ _ _ _ us hl => match us, hl with | [_, _], _ => rfl) g
    · obtain ⟨fa, fd, g, F⟩ := D.f_letters_of
      exact def_ok0 F sc_letters_of (F.binds (ps := ["chart"]) fun _ _ _ _ _ _ us hl => match us, hl with | [_], _ => rfl) g
    · obtain ⟨fa, fd, g, F⟩ := D.f_is_map
      exact def_ok0 F sc_is_map (F.binds (ps := ["value"]) fun _ _ _ _ _ _ us hl => match us, hl with | [_], _ => rfl) g
    · obtain ⟨fa, fd, g, F⟩ := D.f_need_map
      exact def_ok0 F sc_need_map (F.binds (ps := ["chart"]) fun _ _ _ _ _ _ us hl => match us, hl with | [_], _ => rfl) g
    · obtain ⟨fa, fd, g, F⟩ := D.f_land_strings
      exact def_ok0 F sc_land_strings (F.binds (ps := ["chart"]) fun _ _ _ _ _ _ us hl => match us, hl with | [_], _ => rfl) g
    · obtain ⟨fa, fd, g, F⟩ := D.f_lands
      exact def_ok0 F sc_lands (F.binds (ps := ["chart"]) fun _ _ _ _ _ _ us hl => match us, hl with | [_], _ => rfl) g
    · obtain ⟨fa, fd, g, F⟩ := D.f__law_drawn
      exact def_ok0 F sc__law_drawn (F.binds (ps := ["cell", "k"]) fun _ _ _ _ _ _ us hl => match us, hl with | [_, _], _ => rfl) g
    · obtain ⟨fa, fd, g, F⟩ := D.f__law_roll
      exact def_io0 F sc__law_roll (F.binds (ps := ["dice", "many"]) fun _ _ _ _ _ _ us hl => match us, hl with | [_, _], _ => rfl) g
    · obtain ⟨fa, fd, g, F⟩ := D.f__law_ends
      exact def_ok0 F sc__law_ends (F.binds (ps := ["chart"]) fun _ _ _ _ _ _ us hl => match us, hl with | [_], _ => rfl) g
    · obtain ⟨fa, fd, g, F⟩ := D.f__law_letters
      exact def_ok0 F sc__law_letters (F.binds (ps := ["chart"]) fun _ _ _ _ _ _ us hl => match us, hl with | [_], _ => rfl) g
    · obtain ⟨fa, fd, g, F⟩ := D.f__law_on
      exact def_ok0 F sc__law_on (F.binds (ps := ["chart", "end"]) fun _ _ _ _ _ _ us hl => match us, hl with | [_, _], _ => rfl) g
    · obtain ⟨fa, fd, g, F⟩ := D.f__law_walks
      exact def_ok0 F sc__law_walks (F.binds (ps := ["chart"]) fun _ _ _ _ _ _ us hl => match us, hl with | [_], _ => rfl) g
    · obtain ⟨fa, fd, g, F⟩ := D.f__law_put
      exact def_ok0 F sc__law_put (F.binds (ps := ["chart", "point", "place", "letter"]) fun _ _ _ _ _ _ us hl => match us, hl with | [_, _, _, _], _ => rfl) g
    · obtain ⟨fa, fd, g, F⟩ := D.f__law_any_map
      exact def_io0 F sc__law_any_map (F.binds (ps := ["dice", "most"]) fun _ _ _ _ _ _ us hl => match us, hl with | [_, _], _ => rfl) g
    · obtain ⟨fa, fd, g, F⟩ := D.f__law_turned
      exact def_ok0 F sc__law_turned (F.binds (ps := ["text"]) fun _ _ _ _ _ _ us hl => match us, hl with | [_], _ => rfl) g
    · obtain ⟨fa, fd, g, F⟩ := D.f__law_lands
      exact def_ok0 F sc__law_lands (F.binds (ps := ["chart"]) fun _ _ _ _ _ _ us hl => match us, hl with | [_], _ => rfl) g
    · obtain ⟨fa, fd, g, F⟩ := D.f__law_copy
      exact def_io0 F sc__law_copy (F.binds (ps := ["dice", "chart"]) fun _ _ _ _ _ _ us hl => match us, hl with | [_, _], _ => rfl) g
    · trivial
  | succ n G =>
    intro f
    unfold At
    split
    · obtain ⟨fa, fd, g, F⟩ := D.f_is_drawing
      exact def_ok (J := J) (hJ := hJ) T_is_drawing rfl F sc_is_drawing rfl rfl (by decide) (F.binds (ps := ["value"]) fun _ _ _ _ _ _ us hl => match us, hl with | [_], _ => rfl) g fun W E cdv A outer s H hp hr => d_is_drawing P w K mg base J hJ ca tk0 Z n G fa W E cdv A outer s H hp hr
    · obtain ⟨fa, fd, g, F⟩ := D.f_ends_in
      exact def_ok (J := J) (hJ := hJ) T_ends_in rfl F sc_ends_in rfl rfl (by decide) (F.binds (ps := ["chart"]) fun _ _ _ _ _ _ us hl => match us, hl with | [_], _ => rfl) g fun W E cdv A outer s H hp hr => d_ends_in P w K mg base J hJ ca tk0 Z n G fa W E cdv A outer s H hp hr
    · obtain ⟨fa, fd, g, F⟩ := D.f_letter_at
      exact def_ok (J := J) (hJ := hJ) T_letter_at rfl F sc_letter_at rfl rfl (by decide) (F.binds (ps := ["chart", "end"]) fun _ _ _ _ _ _ us hl => match us, hl with | [_, _], _ => rfl) g fun W E cdv A outer s H hp hr => d_letter_at P w K mg base J hJ ca tk0 Z n G fa W E cdv A outer s H hp hr
    · obtain ⟨fa, fd, g, F⟩ := D.f_other_end
      exact def_ok (J := J) (hJ := hJ) T_other_end rfl F sc_other_end rfl rfl (by decide) (F.binds (ps := ["chart", "end"]) fun _ _ _ _ _ _ us hl => match us, hl with | [_, _], _ => rfl) g fun W E cdv A outer s H hp hr => d_other_end P w K mg base J hJ ca tk0 Z n G fa W E cdv A outer s H hp hr
    · obtain ⟨fa, fd, g, F⟩ := D.f_next_around
      exact def_ok (J := J) (hJ := hJ) T_next_around rfl F sc_next_around rfl rfl (by decide) (F.binds (ps := ["chart", "end"]) fun _ _ _ _ _ _ us hl => match us, hl with | [_, _], _ => rfl) g fun W E cdv A outer s H hp hr => d_next_around P w K mg base J hJ ca tk0 Z n G fa W E cdv A outer s H hp hr
    · obtain ⟨fa, fd, g, F⟩ := D.f_gone_on
      exact def_ok (J := J) (hJ := hJ) T_gone_on rfl F sc_gone_on rfl rfl (by decide) (F.binds (ps := ["chart", "end"]) fun _ _ _ _ _ _ us hl => match us, hl with | [_, _], _ => rfl) g fun W E cdv A outer s H hp hr => d_gone_on P w K mg base J hJ ca tk0 Z n G fa W E cdv A outer s H hp hr
    · obtain ⟨fa, fd, g, F⟩ := D.f_least_turn
      exact def_ok (J := J) (hJ := hJ) T_least_turn rfl F sc_least_turn rfl rfl (by decide) (F.binds (ps := ["text"]) fun _ _ _ _ _ _ us hl => match us, hl with | [_], _ => rfl) g fun W E cdv A outer s H hp hr => d_least_turn P w K mg base J hJ ca tk0 Z n G fa W E cdv A outer s H hp hr
    · obtain ⟨fa, fd, g, F⟩ := D.f_rounds
      exact def_ok (J := J) (hJ := hJ) T_rounds rfl F sc_rounds rfl rfl (by decide) (F.binds (ps := ["chart"]) fun _ _ _ _ _ _ us hl => match us, hl with | [_], _ => rfl) g fun W E cdv A outer s H hp hr => d_rounds P w K mg base J hJ ca tk0 Z n G fa W E cdv A outer s H hp hr
    · obtain ⟨fa, fd, g, F⟩ := D.f_reached
      exact def_ok (J := J) (hJ := hJ) T_reached rfl F sc_reached rfl rfl (by decide) (F.binds (ps := ["pairs", "start"]) fun _ _ _ _ _ _ us hl => match us, hl with | [_, _], _ => rfl) g fun W E cdv A outer s H hp hr => d_reached P w K mg base J hJ ca tk0 Z n G fa W E cdv A outer s H hp hr
    · obtain ⟨fa, fd, g, F⟩ := D.f_pairs_of
      exact def_ok (J := J) (hJ := hJ) T_pairs_of rfl F sc_pairs_of rfl rfl (by decide) (F.binds (ps := ["chart", "letters"]) fun _ _ _ _ _ _ us hl => match us, hl with | [_, _], _ => rfl) g fun W E cdv A outer s H hp hr => d_pairs_of P w K mg base J hJ ca tk0 Z n G fa W E cdv A outer s H hp hr
    · obtain ⟨fa, fd, g, F⟩ := D.f_points_of
      exact def_ok (J := J) (hJ := hJ) T_points_of rfl F sc_points_of rfl rfl (by decide) (F.binds (ps := ["chart", "letter"]) fun _ _ _ _ _ _ us hl => match us, hl with | [_, _], _ => rfl) g fun W E cdv A outer s H hp hr => d_points_of P w K mg base J hJ ca tk0 Z n G fa W E cdv A outer s H hp hr
    · obtain ⟨fa, fd, g, F⟩ := D.f_letters_of
      exact def_ok (J := J) (hJ := hJ) T_letters_of rfl F sc_letters_of rfl rfl (by decide) (F.binds (ps := ["chart"]) fun _ _ _ _ _ _ us hl => match us, hl with | [_], _ => rfl) g fun W E cdv A outer s H hp hr => d_letters_of P w K mg base J hJ ca tk0 Z n G fa W E cdv A outer s H hp hr
    · obtain ⟨fa, fd, g, F⟩ := D.f_is_map
      exact def_ok (J := J) (hJ := hJ) T_is_map rfl F sc_is_map rfl rfl (by decide) (F.binds (ps := ["value"]) fun _ _ _ _ _ _ us hl => match us, hl with | [_], _ => rfl) g fun W E cdv A outer s H hp hr => d_is_map P w K mg base J hJ ca tk0 Z n G fa W E cdv A outer s H hp hr
    · obtain ⟨fa, fd, g, F⟩ := D.f_need_map
      exact def_ok (J := J) (hJ := hJ) T_need_map rfl F sc_need_map rfl rfl (by decide) (F.binds (ps := ["chart"]) fun _ _ _ _ _ _ us hl => match us, hl with | [_], _ => rfl) g fun W E cdv A outer s H hp hr => d_need_map P w K mg base J hJ ca tk0 Z n G fa W E cdv A outer s H hp hr
    · obtain ⟨fa, fd, g, F⟩ := D.f_land_strings
      exact def_ok (J := J) (hJ := hJ) T_land_strings rfl F sc_land_strings rfl rfl (by decide) (F.binds (ps := ["chart"]) fun _ _ _ _ _ _ us hl => match us, hl with | [_], _ => rfl) g fun W E cdv A outer s H hp hr => d_land_strings P w K mg base J hJ ca tk0 Z n G fa W E cdv A outer s H hp hr
    · obtain ⟨fa, fd, g, F⟩ := D.f_lands
      exact def_ok (J := J) (hJ := hJ) T_lands rfl F sc_lands rfl rfl (by decide) (F.binds (ps := ["chart"]) fun _ _ _ _ _ _ us hl => match us, hl with | [_], _ => rfl) g fun W E cdv A outer s H hp hr => d_lands P w K mg base J hJ ca tk0 Z n G fa W E cdv A outer s H hp hr
    · obtain ⟨fa, fd, g, F⟩ := D.f__law_drawn
      exact def_ok (J := J) (hJ := hJ) T__law_drawn rfl F sc__law_drawn rfl rfl (by decide) (F.binds (ps := ["cell", "k"]) fun _ _ _ _ _ _ us hl => match us, hl with | [_, _], _ => rfl) g fun W E cdv A outer s H hp hr => d__law_drawn P w K mg base J hJ ca tk0 Z n G fa W E cdv A outer s H hp hr
    · obtain ⟨fa, fd, g, F⟩ := D.f__law_roll
      exact def_io (J := J) (hJ := hJ) T__law_roll rfl F sc__law_roll rfl rfl (by decide) (F.binds (ps := ["dice", "many"]) fun _ _ _ _ _ _ us hl => match us, hl with | [_, _], _ => rfl) g fun W E cdv A outer s H hr => d__law_roll P w K mg base J hJ ca tk0 Z n G fa W E cdv A outer s H hr
    · obtain ⟨fa, fd, g, F⟩ := D.f__law_ends
      exact def_ok (J := J) (hJ := hJ) T__law_ends rfl F sc__law_ends rfl rfl (by decide) (F.binds (ps := ["chart"]) fun _ _ _ _ _ _ us hl => match us, hl with | [_], _ => rfl) g fun W E cdv A outer s H hp hr => d__law_ends P w K mg base J hJ ca tk0 Z n G fa W E cdv A outer s H hp hr
    · obtain ⟨fa, fd, g, F⟩ := D.f__law_letters
      exact def_ok (J := J) (hJ := hJ) T__law_letters rfl F sc__law_letters rfl rfl (by decide) (F.binds (ps := ["chart"]) fun _ _ _ _ _ _ us hl => match us, hl with | [_], _ => rfl) g fun W E cdv A outer s H hp hr => d__law_letters P w K mg base J hJ ca tk0 Z n G fa W E cdv A outer s H hp hr
    · obtain ⟨fa, fd, g, F⟩ := D.f__law_on
      exact def_ok (J := J) (hJ := hJ) T__law_on rfl F sc__law_on rfl rfl (by decide) (F.binds (ps := ["chart", "end"]) fun _ _ _ _ _ _ us hl => match us, hl with | [_, _], _ => rfl) g fun W E cdv A outer s H hp hr => d__law_on P w K mg base J hJ ca tk0 Z n G fa W E cdv A outer s H hp hr
    · obtain ⟨fa, fd, g, F⟩ := D.f__law_walks
      exact def_ok (J := J) (hJ := hJ) T__law_walks rfl F sc__law_walks rfl rfl (by decide) (F.binds (ps := ["chart"]) fun _ _ _ _ _ _ us hl => match us, hl with | [_], _ => rfl) g fun W E cdv A outer s H hp hr => d__law_walks P w K mg base J hJ ca tk0 Z n G fa W E cdv A outer s H hp hr
    · obtain ⟨fa, fd, g, F⟩ := D.f__law_put
      exact def_ok (J := J) (hJ := hJ) T__law_put rfl F sc__law_put rfl rfl (by decide) (F.binds (ps := ["chart", "point", "place", "letter"]) fun _ _ _ _ _ _ us hl => match us, hl with | [_, _, _, _], _ => rfl) g fun W E cdv A outer s H hp hr => d__law_put P w K mg base J hJ ca tk0 Z n G fa W E cdv A outer s H hp hr
    · obtain ⟨fa, fd, g, F⟩ := D.f__law_any_map
      exact def_io (J := J) (hJ := hJ) T__law_any_map rfl F sc__law_any_map rfl rfl (by decide) (F.binds (ps := ["dice", "most"]) fun _ _ _ _ _ _ us hl => match us, hl with | [_, _], _ => rfl) g fun W E cdv A outer s H hr => d__law_any_map P w K mg base J hJ ca tk0 Z n G fa W E cdv A outer s H hr
    · obtain ⟨fa, fd, g, F⟩ := D.f__law_turned
      exact def_ok (J := J) (hJ := hJ) T__law_turned rfl F sc__law_turned rfl rfl (by decide) (F.binds (ps := ["text"]) fun _ _ _ _ _ _ us hl => match us, hl with | [_], _ => rfl) g fun W E cdv A outer s H hp hr => d__law_turned P w K mg base J hJ ca tk0 Z n G fa W E cdv A outer s H hp hr
    · obtain ⟨fa, fd, g, F⟩ := D.f__law_lands
      exact def_ok (J := J) (hJ := hJ) T__law_lands rfl F sc__law_lands rfl rfl (by decide) (F.binds (ps := ["chart"]) fun _ _ _ _ _ _ us hl => match us, hl with | [_], _ => rfl) g fun W E cdv A outer s H hp hr => d__law_lands P w K mg base J hJ ca tk0 Z n G fa W E cdv A outer s H hp hr
    · obtain ⟨fa, fd, g, F⟩ := D.f__law_copy
      exact def_io (J := J) (hJ := hJ) T__law_copy rfl F sc__law_copy rfl rfl (by decide) (F.binds (ps := ["dice", "chart"]) fun _ _ _ _ _ _ us hl => match us, hl with | [_, _], _ => rfl) g fun W E cdv A outer s H hr => d__law_copy P w K mg base J hJ ca tk0 Z n G fa W E cdv A outer s H hr
    · trivial
theorem sc__law_cell : FnScope ["script", "k"] ["script", "k"] (defScope s__law_cell) := ⟨rfl, rfl, rfl, by decide +kernel, rfl, by decide +kernel, by decide +kernel⟩
theorem sc__law_rounds : FnScope ["script", "most", "k"] ["script", "most"] (defScope s__law_rounds) := ⟨rfl, rfl, rfl, by decide +kernel, rfl, by decide +kernel, by decide +kernel⟩
theorem rounds_ok (Z : Txt K mg ca tk0) (D : Defs K mg) : ∃ fa fd, mg "_law_rounds" = some (.ref fa) ∧ PySem.W.keepIn K (.ref fa) = true ∧ L2.Binds K fd ["script", "most"] [] ∧ FnOk P w K mg base (L2N.CX P w) 3 fa fd ["script", "most"] (spRounds K) := by
  obtain ⟨fc, fdc, gc, FC⟩ := D.f__law_cell
  obtain ⟨fr, fdr, gr, FR⟩ := D.f__law_rounds
  have okC := ok_cell (P := P) (w := w) (mg := mg) (base := base) FC sc__law_cell Z.b_len fun E cdv A outer s H hr => pss_cell hr.units rfl rfl (.inl rfl) (.inl rfl) (by rfl) Z.b_len
  have bC := FC.binds (ps := ["script", "k"]) fun _ _ _ _ _ _ us hl => match us, hl with | [_, _], _ => rfl
  refine ⟨fr, fdr, gr, FR.kp, FR.binds (ps := ["script", "most"]) fun _ _ _ _ _ _ us hl => match us, hl with | [_, _], _ => rfl, ok_rounds FR sc__law_rounds fun E cdv A outer s H hr => ?_⟩
  exact pss_one (ps_ret (pe_lc (X := cxOf (L2N.CX P w) P w K mg base ["script", "most", "k"] "_law_rounds" (defScope s__law_rounds) fr cdv A outer s H E) rfl (sc__law_rounds).nd (pi_range1 (by rfl) Z.b_range (pa_cons (pe_callB (call_max2 rfl) (by rfl) Z.b_max boot_max' (pa_cons pe_int (pa_cons (pe_callB (call_min2 rfl) (by rfl) Z.b_min boot_min' (pa_cons (pv 1) (pa_cons (pe_callB call_len (by rfl) Z.b_len boot_len' (pa_cons (pv 0) pa_nil)) pa_nil))) pa_nil))) pa_nil)) (blkOk_by (N := ["script", "most", "k"]) (sc := defScope s__law_rounds) (own := [("k", 2)]) (by decide +kernel)) (fun _ _ _ _ _ => pg_name (i := 2) (sc__law_rounds).nd rfl (Or.inl rfl)) (fun _ _ _ _ _ => pts_nil) (fun _ _ _ _ _ => pe_lst (pa_cons (pe_call okC hr (by rfl) gc FC.kp bC .nil (L2N.passes_call takesN0 fun _ _ _ _ h => h) (pa_cons (pv 0) (pa_cons (pv 2) pa_nil))) (pa_cons pe_int pa_nil)))))
end
theorem sc_law : FnScope ["script", "dice", "chart", "made", "text", "many", "turned_round", "row", "copy"] ["script"] (defScope s_law) := ⟨rfl, rfl, rfl, by decide +kernel, rfl, by decide +kernel, by decide +kernel⟩
theorem law_ok {P : Program} {w : World} {K : PySem.W.Frag} {mg : Str → Option Value} {base : Heap} {ca : Nat → Addr} {tk0 : Tok} (Z : Txt K mg ca tk0) (D : Defs K mg) {fa : Addr} {fd : FuncData} (F : Fun K "law" "law" s_law fa fd) (n : Nat) (good : Good (run T n) n_law_k02 b_law_k02) :
    FnOk P w K mg base (L2N.CX P w) (n + 7) fa fd ["script"] (spLaw K (Tabs [])) := by
  obtain ⟨fr, fdr, gr, kr, br, okR⟩ := rounds_ok P w K mg base ca tk0 Z D
  refine ok_law (N := ["script", "dice", "chart", "made", "text", "many", "turned_round", "row", "copy"]) (M := 4) (b := b_law_k02) (call := run T n) (J := Tabs []) (hJ := tabs_mono) (cl := fun k => .ref (ca k)) (T := []) F sc_law (by decide) (by decide) good (fun _ h => h) fun E cdv A outer s H hcd hr0 => ?_
  · have nd := (sc_law).nd
    have hrT : Room (n + 1 + 2) (cxOf (L2N.CX P w) P w K mg base ["script", "dice", "chart", "made", "text", "many", "turned_round", "row", "copy"] "law" (defScope s_law) fa cdv A outer s H E).A := hr0.mono (by omega)
    have hr : Room (n + 1) (cxOf (L2N.CX P w) P w K mg base ["script", "dice", "chart", "made", "text", "many", "turned_round", "row", "copy"] "law" (defScope s_law) fa cdv A outer s H E).A := hr0.mono (by omega)
    have hu : (cxOf (L2N.CX P w) P w K mg base ["script", "dice", "chart", "made", "text", "many", "turned_round", "row", "copy"] "law" (defScope s_law) fa cdv A outer s H E).A.units + 64 < cLine := hr.units
    have hu1 : (cxOf (L2N.CX P w) P w K mg base ["script", "dice", "chart", "made", "text", "many", "turned_round", "row", "copy"] "law" (defScope s_law) fa cdv A outer s H E).A.units + 1 < cLine := by omega
    have hc : (cxOf (L2N.CX P w) P w K mg base ["script", "dice", "chart", "made", "text", "many", "turned_round", "row", "copy"] "law" (defScope s_law) fa cdv A outer s H E).calm = true := rfl
    have tk : L2N.Takes (cxOf (L2N.CX P w) P w K mg base ["script", "dice", "chart", "made", "text", "many", "turned_round", "row", "copy"] "law" (defScope s_law) fa cdv A outer s H E) (fun cls d _ H => E cls d H) := L2N.takes_of rfl rfl rfl rfl
    have hx : Passes (L2N.CX P w) (cxOf (L2N.CX P w) P w K mg base ["script", "dice", "chart", "made", "text", "many", "turned_round", "row", "copy"] "law" (defScope s_law) fa cdv A outer s H E) E := L2N.passes_call tk (fun _ _ _ _ h => h)
    have po : PassesOwn (model P w) (cxOf (L2N.CX P w) P w K mg base ["script", "dice", "chart", "made", "text", "many", "turned_round", "row", "copy"] "law" (defScope s_law) fa cdv A outer s H E).A (cxOf (L2N.CX P w) P w K mg base ["script", "dice", "chart", "made", "text", "many", "turned_round", "row", "copy"] "law" (defScope s_law) fa cdv A outer s H E).env (cxOf (L2N.CX P w) P w K mg base ["script", "dice", "chart", "made", "text", "many", "turned_round", "row", "copy"] "law" (defScope s_law) fa cdv A outer s H E).xe := passes_of rfl
    have G := at_all P w K mg base (Tabs []) tabs_mono ca tk0 Z D n
    refine pss_cons (ps_for po hc (pi_list (pe_call okR (hr0.mono (by omega)) (by rfl) gr kr br .nil hx (pa_cons (pv 0) (pa_cons pe_int pa_nil)))) (pg_name (i := 1) nd rfl (Or.inl rfl)) (pss_any _ _ _ _ _ _ fun W hp hw => ?_)) (pss_one (ps_ret pe_bl))
    exact (ss_cons (ss_asg tg_name (sv_callIO (f := 27) (G 27) hr hx (by rfl) (pv 1) (sa_cons sv_int sa_nil)) (pg_name (i := 2) nd rfl (Or.inl rfl))) (ss_cons (ss_asg tg_name (sv_call (f := 15) (G 15) hr hx (by rfl) (sa_cons (sv_var (i := 2)) sa_nil)) (pg_name (i := 3) nd rfl (Or.inl rfl))) (ss_cons (ss_if (PW.pt (sx_or (sw_ne hu (sv_list hc (by rfl) Z.b_list (sv_var (i := 3))) (sv_call (f := 31) (G 31) hr hx (by rfl) (sa_cons (sv_var (i := 2)) sa_nil))) (sx_or1 (sw_ne hu (sv_add (sv_sub (sv_len (by rfl) Z.b_len (sv_var (i := 2))) (sv_len (by rfl) Z.b_len (sv_call (f := 23) (G 23) hr hx (by rfl) (sa_cons (sv_var (i := 2)) sa_nil)))) (sv_len (by rfl) Z.b_len (sv_var (i := 3)))) sv_int)))) (ss_one (ss_ret sv_bool)) ss_nil) (ss_cons (ss_if (sw_ne hu (sv_sorted hc hu (by rfl) Z.b_sorted (sv_join sv_strL (sv_var (i := 3)))) (sv_sorted hc hu (by rfl) Z.b_sorted (sv_join sv_strL (sv_var (i := 2))))) (ss_one (ss_ret sv_bool)) ss_nil) (ss_cons (ss_if (sw_not (sw_val (sv_all hc (by rfl) Z.b_all (sv_lc hc nd (si_seq (sv_var (i := 3))) (blkOk_by (N := ["script", "dice", "chart", "made", "text", "many", "turned_round", "row", "copy"]) (sc := defScope s_law) (own := [("text", 4)]) (by decide +kernel)) to_name rfl (fun _ _ _ _ _ => (pg_name (i := 4) nd rfl (Or.inl rfl))) (fun _ _ _ _ _ => st_nil) (fun _ _ _ _ _ => (sv_eq hu (sv_call (f := 30) (G 30) hr (L2N.passes_call takesN0 fun _ _ _ _ h => h) (by rfl) (sa_cons (sv_var (i := 4)) sa_nil)) (sv_var (i := 4)))))))) (ss_one (ss_ret sv_bool)) ss_nil) (ss_cons (ss_asg tg_name (sv_len (by rfl) Z.b_len (sv_call (f := 23) (G 23) hr hx (by rfl) (sa_cons (sv_var (i := 2)) sa_nil))) (pg_name (i := 5) nd rfl (Or.inl rfl))) (ss_cons (ss_if (PW.pt (sx_or (sw_ne hu (sv_call (f := 15) (G 15) hr hx (by rfl) (sa_cons (sv_mkt (sa_cons (sv_mul sv_strL sv_int) sa_nil)) sa_nil)) (sv_mkt (sa_cons sv_strL (sa_cons sv_strL sa_nil)))) (sx_or1 (sw_ne hu (sv_call (f := 15) (G 15) hr hx (by rfl) (sa_cons (sv_mkt (sa_cons sv_strL (sa_cons sv_strL sa_nil))) sa_nil)) (sv_mkt (sa_cons sv_strL sa_nil)))))) (ss_one (ss_ret sv_bool)) ss_nil) (ss_cons (ss_asg tg_name (sv_tuple (by rfl) Z.b_tuple (sv_lc hc nd (si_seq (sv_var (i := 2))) (blkOk_by (N := ["script", "dice", "chart", "made", "text", "many", "turned_round", "row", "copy"]) (sc := defScope s_law) (own := [("row", 7)]) (by decide +kernel)) to_name rfl (fun _ _ _ _ _ => (pg_name (i := 7) nd rfl (Or.inl rfl))) (fun _ _ _ _ _ => st_nil) (fun _ _ _ _ _ => (sv_add (sv_slcL (sv_var (i := 7)) sv_int) (sv_slcH (sv_var (i := 7)) sv_int))))) (pg_name (i := 6) nd rfl (Or.inl rfl))) (ss_cons (ss_if (PW.pt (sx_and (sw_gt (sv_var (i := 5)) sv_int) (sx_and1 (sw_ne hu (sv_list hc (by rfl) Z.b_list (sv_call (f := 15) (G 15) hr hx (by rfl) (sa_cons (sv_var (i := 6)) sa_nil))) (sv_call (f := 31) (G 31) hr hx (by rfl) (sa_cons (sv_var (i := 2)) sa_nil)))))) (ss_one (ss_ret sv_bool)) ss_nil) (ss_cons (ss_if (PW.pt (sx_or (sw_ne hu (sv_call (f := 15) (G 15) hr hx (by rfl) (sa_cons (sv_mkt (sa_cons sv_strL (sa_cons sv_strL sa_nil))) sa_nil)) (sv_mkt (sa_cons sv_strL (sa_cons sv_strL (sa_cons sv_strL sa_nil))))) (sx_or1 (sw_ne hu (sv_call (f := 15) (G 15) hr hx (by rfl) (sa_cons (sv_mkt (sa_cons sv_strL (sa_cons sv_strL (sa_cons sv_strL sa_nil)))) sa_nil)) (sv_mkt (sa_cons sv_strL sa_nil)))))) (ss_one (ss_ret sv_bool)) ss_nil) (ss_cons (ss_asg tg_name (sv_callIO (f := 32) (G 32) hr hx (by rfl) (pv 1) (sa_cons (sv_var (i := 2)) sa_nil)) (pg_name (i := 8) nd rfl (Or.inl rfl))) (ss_one (ss_if (sw_ne hu (sv_sorted hc hu (by rfl) Z.b_sorted (sv_lc hc nd (si_seq (sv_call (f := 15) (G 15) hr hx (by rfl) (sa_cons (sv_var (i := 8)) sa_nil))) (blkOk_by (N := ["script", "dice", "chart", "made", "text", "many", "turned_round", "row", "copy"]) (sc := defScope s_law) (own := [("text", 4)]) (by decide +kernel)) to_name rfl (fun _ _ _ _ _ => (pg_name (i := 4) nd rfl (Or.inl rfl))) (fun _ _ _ _ _ => st_nil) (fun _ _ _ _ _ => (sv_len (by rfl) Z.b_len (sv_var (i := 4)))))) (sv_sorted hc hu (by rfl) Z.b_sorted (sv_lc hc nd (si_seq (sv_var (i := 3))) (blkOk_by (N := ["script", "dice", "chart", "made", "text", "many", "turned_round", "row", "copy"]) (sc := defScope s_law) (own := [("text", 4)]) (by decide +kernel)) to_name rfl (fun _ _ _ _ _ => (pg_name (i := 4) nd rfl (Or.inl rfl))) (fun _ _ _ _ _ => st_nil) (fun _ _ _ _ _ => (sv_len (by rfl) Z.b_len (sv_var (i := 4))))))) (ss_one (ss_ret sv_bool)) ss_nil)))))))))))))
def fn0 : List He.DefD := [⟨("is_drawing", none), "is_drawing", "is_drawing", defArgs s_is_drawing, defBody s_is_drawing, defScope s_is_drawing, [], []⟩, ⟨("ends_in", none), "ends_in", "ends_in", defArgs s_ends_in, defBody s_ends_in, defScope s_ends_in, [], []⟩, ⟨("letter_at", none), "letter_at", "letter_at", defArgs s_letter_at, defBody s_letter_at, defScope s_letter_at, [], []⟩, ⟨("other_end", none), "other_end", "other_end", defArgs s_other_end, defBody s_other_end, defScope s_other_end, [], []⟩, ⟨("next_around", none), "next_around", "next_around", defArgs s_next_around, defBody s_next_around, defScope s_next_around, [], []⟩, ⟨("gone_on", none), "gone_on", "gone_on", defArgs s_gone_on, defBody s_gone_on, defScope s_gone_on, [], []⟩, ⟨("least_turn", none), "least_turn", "least_turn", defArgs s_least_turn, defBody s_least_turn, defScope s_least_turn, [], []⟩, ⟨("rounds", none), "rounds", "rounds", defArgs s_rounds, defBody s_rounds, defScope s_rounds, [], []⟩, ⟨("reached", none), "reached", "reached", defArgs s_reached, defBody s_reached, defScope s_reached, [], []⟩, ⟨("pairs_of", none), "pairs_of", "pairs_of", defArgs s_pairs_of, defBody s_pairs_of, defScope s_pairs_of, [], []⟩]
def fn1 : List He.DefD := [⟨("points_of", none), "points_of", "points_of", defArgs s_points_of, defBody s_points_of, defScope s_points_of, [], []⟩, ⟨("letters_of", none), "letters_of", "letters_of", defArgs s_letters_of, defBody s_letters_of, defScope s_letters_of, [], []⟩, ⟨("is_map", none), "is_map", "is_map", defArgs s_is_map, defBody s_is_map, defScope s_is_map, [], []⟩, ⟨("need_map", none), "need_map", "need_map", defArgs s_need_map, defBody s_need_map, defScope s_need_map, [], []⟩, ⟨("land_strings", none), "land_strings", "land_strings", defArgs s_land_strings, defBody s_land_strings, defScope s_land_strings, [], []⟩, ⟨("lands", none), "lands", "lands", defArgs s_lands, defBody s_lands, defScope s_lands, [], []⟩, ⟨("_law_cell", none), "_law_cell", "_law_cell", defArgs s__law_cell, defBody s__law_cell, defScope s__law_cell, [], []⟩, ⟨("_law_drawn", none), "_law_drawn", "_law_drawn", defArgs s__law_drawn, defBody s__law_drawn, defScope s__law_drawn, [], []⟩, ⟨("_law_roll", none), "_law_roll", "_law_roll", defArgs s__law_roll, defBody s__law_roll, defScope s__law_roll, [], []⟩, ⟨("_law_rounds", none), "_law_rounds", "_law_rounds", defArgs s__law_rounds, defBody s__law_rounds, defScope s__law_rounds, [], []⟩]
def fn2 : List He.DefD := [⟨("_law_ends", none), "_law_ends", "_law_ends", defArgs s__law_ends, defBody s__law_ends, defScope s__law_ends, [], []⟩, ⟨("_law_letters", none), "_law_letters", "_law_letters", defArgs s__law_letters, defBody s__law_letters, defScope s__law_letters, [], []⟩, ⟨("_law_on", none), "_law_on", "_law_on", defArgs s__law_on, defBody s__law_on, defScope s__law_on, [], []⟩, ⟨("_law_walks", none), "_law_walks", "_law_walks", defArgs s__law_walks, defBody s__law_walks, defScope s__law_walks, [], []⟩, ⟨("_law_turned", none), "_law_turned", "_law_turned", defArgs s__law_turned, defBody s__law_turned, defScope s__law_turned, [], []⟩, ⟨("_law_lands", none), "_law_lands", "_law_lands", defArgs s__law_lands, defBody s__law_lands, defScope s__law_lands, [], []⟩, ⟨("_law_put", none), "_law_put", "_law_put", defArgs s__law_put, defBody s__law_put, defScope s__law_put, [], []⟩, ⟨("_law_any_map", none), "_law_any_map", "_law_any_map", defArgs s__law_any_map, defBody s__law_any_map, defScope s__law_any_map, [], []⟩, ⟨("_law_copy", none), "_law_copy", "_law_copy", defArgs s__law_copy, defBody s__law_copy, defScope s__law_copy, [], []⟩, ⟨("law", none), "law", "law", defArgs s_law, defBody s_law, defScope s_law, [], []⟩]
def fn : List He.DefD := fn0 ++ fn1 ++ fn2
def fa0 : List He.Fa := [.glo "InvalidMap", .glo "is_drawing", .glo "ends_in", .glo "letter_at", .glo "other_end", .glo "next_around", .glo "gone_on", .glo "least_turn", .glo "rounds", .glo "reached"]
def fa1 : List He.Fa := [.glo "pairs_of", .glo "points_of", .glo "letters_of", .glo "is_map", .glo "need_map", .glo "land_strings", .glo "lands", .glo "_law_cell", .glo "_law_drawn", .glo "_law_roll"]
def fa2 : List He.Fa := [.glo "_law_rounds", .glo "_law_ends", .glo "_law_letters", .glo "_law_on", .glo "_law_walks", .glo "_law_turned", .glo "_law_lands", .glo "_law_put", .glo "_law_any_map", .glo "_law_copy"]
def fa3 : List He.Fa := [.glo "law", .str "NAMES" "abcdefgh", .free "all", .free "enumerate", .free "isinstance", .free "len", .free "list", .free "max", .free "min", .free "range"]
def fa4 : List He.Fa := [.free "sorted", .free "str", .free "sum", .free "tuple", .exc "InvalidMap"]
def fa : List He.Fa := fa0 ++ fa1 ++ fa2 ++ fa3 ++ fa4
abbrev R : PySem.W.OpenRow := PySem.W.OpenLaw.row PySem.Challenge.rw_ballmaps_k02_whole_lands
abbrev hk : PySem.W.Hook := He.hookX 4 fa fn [] [] (fun _ => true)
def ob (s : PySem.W.SharedT) : He.AlX := He.obsX 4 fa fn [] [] (fun _ => true) (HandSHeadRun.getT s)
theorem ob_eq (s : PySem.W.SharedT) : ob s = hk.obs s.abs := He.obsX_eq (HandSHeadRun.getT_eq s)
def loose0 : List PySem.Str := ["MapError", "InvalidMap", "NAMES", "is_drawing", "ends_in", "letter_at", "other_end", "next_around", "gone_on", "least_turn", "rounds", "reached", "pairs_of", "points_of", "letters_of", "is_map", "need_map", "land_strings", "lands", "_law_cell"]
def loose1 : List PySem.Str := ["_law_drawn", "_law_roll", "_law_rounds", "_law_ends", "_law_letters", "_law_on", "_law_walks", "_law_turned", "_law_lands", "_law_put", "_law_any_map", "_law_copy"]
def loose : List PySem.Str := loose0 ++ loose1
set_option maxHeartbeats 0 in
theorem run_head (w : World) : HandSHeadRun.RunEq R (PySem.W.view R.prog [35]) hk ob 8000 loose w := by
  intro os
  kernel_rfl
theorem txt_of {w : World} {K : PySem.W.Frag} {h : Heap} {mg : Str → Option Value} (X : K.In h) (G : h.Ns mainGlobals mg) (c : He.SaysD fa fn K) : ∃ tk0, Txt K mg (caK K) tk0 ∧ Defs K mg := by
  obtain ⟨tk0, hN⟩ := He.str_ok X G (c.fact 31 (f := .str "NAMES" "abcdefgh") rfl)
  exact ⟨tk0, ⟨(He.free_ok X G (c.fact 32 (f := .free "all") rfl)), (He.free_ok X G (c.fact 33 (f := .free "enumerate") rfl)), (He.free_ok X G (c.fact 34 (f := .free "isinstance") rfl)), (He.free_ok X G (c.fact 35 (f := .free "len") rfl)), (He.free_ok X G (c.fact 36 (f := .free "list") rfl)), (He.free_ok X G (c.fact 37 (f := .free "max") rfl)), (He.free_ok X G (c.fact 38 (f := .free "min") rfl)), (He.free_ok X G (c.fact 39 (f := .free "range") rfl)), (He.free_ok X G (c.fact 40 (f := .free "sorted") rfl)), (He.free_ok X G (c.fact 41 (f := .free "str") rfl)), (He.free_ok X G (c.fact 42 (f := .free "sum") rfl)), (He.free_ok X G (c.fact 43 (f := .free "tuple") rfl)), hN, (excAt_of (C := caK K 0) rfl (He.glo_ok X G (c.fact 0 (f := .glo "InvalidMap") rfl)) (c.fact 44 (f := .exc "InvalidMap") rfl))⟩, ⟨⟨_, _, (He.glo_ok X G (c.fact 1 (f := .glo "is_drawing") rfl)), fun_of (st := s_is_drawing) (c.def_ 0 (d := ⟨("is_drawing", none), "is_drawing", "is_drawing", defArgs s_is_drawing, defBody s_is_drawing, defScope s_is_drawing, [], []⟩) rfl).choose_spec⟩, ⟨_, _, (He.glo_ok X G (c.fact 2 (f := .glo "ends_in") rfl)), fun_of (st := s_ends_in) (c.def_ 1 (d := ⟨("ends_in", none), "ends_in", "ends_in", defArgs s_ends_in, defBody s_ends_in, defScope s_ends_in, [], []⟩) rfl).choose_spec⟩, ⟨_, _, (He.glo_ok X G (c.fact 3 (f := .glo "letter_at") rfl)), fun_of (st := s_letter_at) (c.def_ 2 (d := ⟨("letter_at", none), "letter_at", "letter_at", defArgs s_letter_at, defBody s_letter_at, defScope s_letter_at, [], []⟩) rfl).choose_spec⟩, ⟨_, _, (He.glo_ok X G (c.fact 4 (f := .glo "other_end") rfl)), fun_of (st := s_other_end) (c.def_ 3 (d := ⟨("other_end", none), "other_end", "other_end", defArgs s_other_end, defBody s_other_end, defScope s_other_end, [], []⟩) rfl).choose_spec⟩, ⟨_, _, (He.glo_ok X G (c.fact 5 (f := .glo "next_around") rfl)), fun_of (st := s_next_around) (c.def_ 4 (d := ⟨("next_around", none), "next_around", "next_around", defArgs s_next_around, defBody s_next_around, defScope s_next_around, [], []⟩) rfl).choose_spec⟩, ⟨_, _, (He.glo_ok X G (c.fact 6 (f := .glo "gone_on") rfl)), fun_of (st := s_gone_on) (c.def_ 5 (d := ⟨("gone_on", none), "gone_on", "gone_on", defArgs s_gone_on, defBody s_gone_on, defScope s_gone_on, [], []⟩) rfl).choose_spec⟩, ⟨_, _, (He.glo_ok X G (c.fact 7 (f := .glo "least_turn") rfl)), fun_of (st := s_least_turn) (c.def_ 6 (d := ⟨("least_turn", none), "least_turn", "least_turn", defArgs s_least_turn, defBody s_least_turn, defScope s_least_turn, [], []⟩) rfl).choose_spec⟩, ⟨_, _, (He.glo_ok X G (c.fact 8 (f := .glo "rounds") rfl)), fun_of (st := s_rounds) (c.def_ 7 (d := ⟨("rounds", none), "rounds", "rounds", defArgs s_rounds, defBody s_rounds, defScope s_rounds, [], []⟩) rfl).choose_spec⟩, ⟨_, _, (He.glo_ok X G (c.fact 9 (f := .glo "reached") rfl)), fun_of (st := s_reached) (c.def_ 8 (d := ⟨("reached", none), "reached", "reached", defArgs s_reached, defBody s_reached, defScope s_reached, [], []⟩) rfl).choose_spec⟩, ⟨_, _, (He.glo_ok X G (c.fact 10 (f := .glo "pairs_of") rfl)), fun_of (st := s_pairs_of) (c.def_ 9 (d := ⟨("pairs_of", none), "pairs_of", "pairs_of", defArgs s_pairs_of, defBody s_pairs_of, defScope s_pairs_of, [], []⟩) rfl).choose_spec⟩, ⟨_, _, (He.glo_ok X G (c.fact 11 (f := .glo "points_of") rfl)), fun_of (st := s_points_of) (c.def_ 10 (d := ⟨("points_of", none), "points_of", "points_of", defArgs s_points_of, defBody s_points_of, defScope s_points_of, [], []⟩) rfl).choose_spec⟩, ⟨_, _, (He.glo_ok X G (c.fact 12 (f := .glo "letters_of") rfl)), fun_of (st := s_letters_of) (c.def_ 11 (d := ⟨("letters_of", none), "letters_of", "letters_of", defArgs s_letters_of, defBody s_letters_of, defScope s_letters_of, [], []⟩) rfl).choose_spec⟩, ⟨_, _, (He.glo_ok X G (c.fact 13 (f := .glo "is_map") rfl)), fun_of (st := s_is_map) (c.def_ 12 (d := ⟨("is_map", none), "is_map", "is_map", defArgs s_is_map, defBody s_is_map, defScope s_is_map, [], []⟩) rfl).choose_spec⟩, ⟨_, _, (He.glo_ok X G (c.fact 14 (f := .glo "need_map") rfl)), fun_of (st := s_need_map) (c.def_ 13 (d := ⟨("need_map", none), "need_map", "need_map", defArgs s_need_map, defBody s_need_map, defScope s_need_map, [], []⟩) rfl).choose_spec⟩, ⟨_, _, (He.glo_ok X G (c.fact 15 (f := .glo "land_strings") rfl)), fun_of (st := s_land_strings) (c.def_ 14 (d := ⟨("land_strings", none), "land_strings", "land_strings", defArgs s_land_strings, defBody s_land_strings, defScope s_land_strings, [], []⟩) rfl).choose_spec⟩, ⟨_, _, (He.glo_ok X G (c.fact 16 (f := .glo "lands") rfl)), fun_of (st := s_lands) (c.def_ 15 (d := ⟨("lands", none), "lands", "lands", defArgs s_lands, defBody s_lands, defScope s_lands, [], []⟩) rfl).choose_spec⟩, ⟨_, _, (He.glo_ok X G (c.fact 17 (f := .glo "_law_cell") rfl)), fun_of (st := s__law_cell) (c.def_ 16 (d := ⟨("_law_cell", none), "_law_cell", "_law_cell", defArgs s__law_cell, defBody s__law_cell, defScope s__law_cell, [], []⟩) rfl).choose_spec⟩, ⟨_, _, (He.glo_ok X G (c.fact 18 (f := .glo "_law_drawn") rfl)), fun_of (st := s__law_drawn) (c.def_ 17 (d := ⟨("_law_drawn", none), "_law_drawn", "_law_drawn", defArgs s__law_drawn, defBody s__law_drawn, defScope s__law_drawn, [], []⟩) rfl).choose_spec⟩, ⟨_, _, (He.glo_ok X G (c.fact 19 (f := .glo "_law_roll") rfl)), fun_of (st := s__law_roll) (c.def_ 18 (d := ⟨("_law_roll", none), "_law_roll", "_law_roll", defArgs s__law_roll, defBody s__law_roll, defScope s__law_roll, [], []⟩) rfl).choose_spec⟩, ⟨_, _, (He.glo_ok X G (c.fact 20 (f := .glo "_law_rounds") rfl)), fun_of (st := s__law_rounds) (c.def_ 19 (d := ⟨("_law_rounds", none), "_law_rounds", "_law_rounds", defArgs s__law_rounds, defBody s__law_rounds, defScope s__law_rounds, [], []⟩) rfl).choose_spec⟩, ⟨_, _, (He.glo_ok X G (c.fact 21 (f := .glo "_law_ends") rfl)), fun_of (st := s__law_ends) (c.def_ 20 (d := ⟨("_law_ends", none), "_law_ends", "_law_ends", defArgs s__law_ends, defBody s__law_ends, defScope s__law_ends, [], []⟩) rfl).choose_spec⟩, ⟨_, _, (He.glo_ok X G (c.fact 22 (f := .glo "_law_letters") rfl)), fun_of (st := s__law_letters) (c.def_ 21 (d := ⟨("_law_letters", none), "_law_letters", "_law_letters", defArgs s__law_letters, defBody s__law_letters, defScope s__law_letters, [], []⟩) rfl).choose_spec⟩, ⟨_, _, (He.glo_ok X G (c.fact 23 (f := .glo "_law_on") rfl)), fun_of (st := s__law_on) (c.def_ 22 (d := ⟨("_law_on", none), "_law_on", "_law_on", defArgs s__law_on, defBody s__law_on, defScope s__law_on, [], []⟩) rfl).choose_spec⟩, ⟨_, _, (He.glo_ok X G (c.fact 24 (f := .glo "_law_walks") rfl)), fun_of (st := s__law_walks) (c.def_ 23 (d := ⟨("_law_walks", none), "_law_walks", "_law_walks", defArgs s__law_walks, defBody s__law_walks, defScope s__law_walks, [], []⟩) rfl).choose_spec⟩, ⟨_, _, (He.glo_ok X G (c.fact 25 (f := .glo "_law_turned") rfl)), fun_of (st := s__law_turned) (c.def_ 24 (d := ⟨("_law_turned", none), "_law_turned", "_law_turned", defArgs s__law_turned, defBody s__law_turned, defScope s__law_turned, [], []⟩) rfl).choose_spec⟩, ⟨_, _, (He.glo_ok X G (c.fact 26 (f := .glo "_law_lands") rfl)), fun_of (st := s__law_lands) (c.def_ 25 (d := ⟨("_law_lands", none), "_law_lands", "_law_lands", defArgs s__law_lands, defBody s__law_lands, defScope s__law_lands, [], []⟩) rfl).choose_spec⟩, ⟨_, _, (He.glo_ok X G (c.fact 27 (f := .glo "_law_put") rfl)), fun_of (st := s__law_put) (c.def_ 26 (d := ⟨("_law_put", none), "_law_put", "_law_put", defArgs s__law_put, defBody s__law_put, defScope s__law_put, [], []⟩) rfl).choose_spec⟩, ⟨_, _, (He.glo_ok X G (c.fact 28 (f := .glo "_law_any_map") rfl)), fun_of (st := s__law_any_map) (c.def_ 27 (d := ⟨("_law_any_map", none), "_law_any_map", "_law_any_map", defArgs s__law_any_map, defBody s__law_any_map, defScope s__law_any_map, [], []⟩) rfl).choose_spec⟩, ⟨_, _, (He.glo_ok X G (c.fact 29 (f := .glo "_law_copy") rfl)), fun_of (st := s__law_copy) (c.def_ 28 (d := ⟨("_law_copy", none), "_law_copy", "_law_copy", defArgs s__law_copy, defBody s__law_copy, defScope s__law_copy, [], []⟩) rfl).choose_spec⟩⟩⟩
theorem law_at (good : Good (run T 20) n_law_k02 b_law_k02) {w : World} {K : PySem.W.Frag} {h : Heap} {mg : Str → Option Value} {fa0 : Addr} (X : K.In h) (G : h.Ns mainGlobals mg) (hfa : mg ("law" : Str) = some (.ref fa0)) (sx : He.SaysX fa fn [] [] (fun _ => true) w h K) :
    LawAtS PySem.Challenge.rw_ballmaps_k02_whole_lands w K (L2N.CX PySem.Challenge.rw_ballmaps_k02_whole_lands.prog w) 27 63 "script" mg fa0 h := by
  have c : He.SaysD fa fn K := sx.t.d
  obtain ⟨tk0, Z, D⟩ := txt_of (w := w) X G c
  obtain ⟨fd, F0⟩ := c.def_ 29 (d := ⟨("law", none), "law", "law", defArgs s_law, defBody s_law, defScope s_law, [], []⟩) rfl
  have F : Fun K "law" "law" s_law _ _ := fun_of (st := s_law) F0
  have e := hfa.symm.trans (He.glo_ok X G (c.fact 30 (f := .glo "law") rfl))
  cases e
  have b := FunD.bindsA (ps := ["script"]) F0 fun _ _ _ _ _ _ us hl => match us, hl with | [_], _ => rfl
  refine ⟨fd, [], spLaw K (Tabs []), fun q hq => (by cases hq), fun q hq => (by cases hq), fun q hq => (by cases hq), fun s u => ?_, fun H a nz hl _ hT hS => ?_, fun base hKb hNb hTB => ?_⟩
  · exact b s [u] rfl
  · exact ⟨a, nz, rfl, hS, hl, (fun q hq => by cases hq), fun _ => rfl⟩
  · exact law_ok Z D F 20 good
set_option maxHeartbeats 0 in
open PySem.W PySem.Calls PyProof.Rows in
theorem holds_of (good : Good (run T 20) n_law_k02 b_law_k02) : PySem.Challenge.rw_ballmaps_k02_whole_lands.Holds := by
  w_on; o_law
  refine HandSHeadRun.head_any (r := OpenLaw.row PySem.Challenge.rw_ballmaps_k02_whole_lands) (q := view (OpenLaw.row PySem.Challenge.rw_ballmaps_k02_whole_lands).prog [35]) (H := hk) (ob := ob) (M := 8000) (loose := loose) (d := HandSHeadRun.topDef (OpenLaw.row PySem.Challenge.rw_ballmaps_k02_whole_lands).prog 35) (kwd := []) ob_eq
    (by kernel_rfl) (fun s => by kernel_rfl) run_head (by kernel_rfl) (by kernel_rfl) (by kernel_rfl) (by rfl) (by first | assumption | decide +kernel) (by decide +kernel) ⟨rfl, rfl, rfl, rfl, rfl, by decide +kernel⟩ ?hw ?hc
  case hw => w_witness2
  case hc =>
    refine LamX.walk_ofTsE (l := PySem.Challenge.rw_ballmaps_k02_whole_lands) (n := 63) (k := 27) (x := "script") (CX := fun w => L2N.CX PySem.Challenge.rw_ballmaps_k02_whole_lands.prog w) rfl (by decide) (by kernel_rfl) ⟨rfl, by decide, by decide⟩ ?F (fun _ _ _ _ _ z => ?_)
    · intro w mg fa0 h Y G hmg0
      obtain ⟨K, KX, sx⟩ := Y
      have hmg : mg ("law" : PySem.Str) = some (.ref fa0) := by
        have e : (HandSHeadRun.topDef (OpenLaw.row PySem.Challenge.rw_ballmaps_k02_whole_lands).prog 35).name = ("law" : PySem.Str) := by kernel_rfl
        rw [← e]
        exact hmg0
      exact ⟨K, KX, law_at good KX G hmg sx⟩
    · obtain ⟨_, _, _, _, _, _, _, _, _, _, _, _, no⟩ := z
      exact no.elim
end Bm.Lk02
end
section
set_option Elab.async false
set_option linter.all false
set_option maxRecDepth 100000
set_option maxHeartbeats 1000000
/-! What the defs compute, in plain Lean. -/
namespace Bm
open PySem
abbrev Chart := List (List Nat)
abbrev dC (ch : Chart) : D := .tuple (ch.map dS)
abbrev dE (e : Nat × Nat) : D := .tuple [.int e.1, .int e.2]
theorem run_fn {n f : Nat} {fd : FDef} {args : List D} (hT : T f = some fd) (hio : fd.io = false) (hl : args.length = fd.np) : run T (n + 1) f none args = endOf none (denS (run T n) fd.body (args.map .sh ++ List.replicate (fd.ns - fd.np) .un)) := by
  simp only [run, hT, entry, if_pos (And.intro hio hl)]
theorem run_io {n f : Nat} {fd : FDef} {args m : List D} (hT : T f = some fd) (hio : fd.io = true) (hl : args.length + 1 = fd.np) : run T (n + 1) f (some m) args = endOf (some m) (denS (run T n) fd.body (.own m :: args.map .sh ++ List.replicate (fd.ns - fd.np) .un)) := by
  simp only [run, hT, entry, if_pos (And.intro hio hl)]
theorem ixOf_nat {n k : Nat} (h : k < n) : ixOf n (k : Int) = some k := by
  unfold ixOf
  rw [if_pos (by omega), Int.toNat_natCast, if_pos h]
theorem ixOf_0 {n : Nat} (h : 0 < n) : ixOf n 0 = some 0 := ixOf_nat h
theorem ixOf_1 {n : Nat} (h : 1 < n) : ixOf n 1 = some 1 := ixOf_nat h
theorem den_op1 {call : CallS} {o : Op} {a : E} {r : Env} : den call (.op o (.cons a .nil)) r = (den call a r).bind fun (x, r1) => (R.opt (opD o [x])).bind fun d => .ok (d, r1) := by
  simp only [den]
  cases den call a r with
  | ok p => rfl
  | exc k => rfl
  | stuck => rfl
theorem den_op2 {call : CallS} {o : Op} {a b : E} {r : Env} : den call (.op o (.cons a (.cons b .nil))) r = (den call a r).bind fun (x, r1) => (den call b r1).bind fun (y, r2) => (R.opt (opD o [x, y])).bind fun d => .ok (d, r2) := by
  simp only [den]
  cases den call a r with
  | ok p =>
    simp only [R.ok_bind]
    cases den call b p.2 with
    | ok q => rfl
    | exc k => rfl
    | stuck => rfl
  | exc k => rfl
  | stuck => rfl
theorem e_var {call : CallS} {i : Nat} {r : Env} : den call (.var i) r = match getS r i with
    | .sh d => .ok (d, r)
    | .own l => .ok (.list l, putS r i (.sh (.list l)))
    | _ => .stuck := rfl
theorem e_lit {call : CallS} {d : D} {r : Env} : den call (.lit d) r = .ok (d, r) := rfl
theorem e_nil {call : CallS} {r : Env} : den call .nil r = .ok (.list [], r) := rfl
theorem e_cons {call : CallS} {a b : E} {r : Env} : den call (.cons a b) r = (den call a r).bind fun (x, r1) => (den call b r1).bind fun (y, r2) => match y with
    | .list l => .ok (.list (x :: l), r2)
    | _ => .stuck := rfl
theorem e_op {call : CallS} {o : Op} {a : E} {r : Env} : den call (.op o a) r = (den call a r).bind fun (x, r1) => match x with
    | .list l => (R.opt (opD o l)).bind fun d => .ok (d, r1)
    | _ => .stuck := rfl
theorem e_call {call : CallS} {f : Nat} {a : E} {r : Env} : den call (.call f a) r = (den call a r).bind fun (x, r1) => match x with
    | .list l => (call f none l).bind fun (d, _) => .ok (d, r1)
    | _ => .stuck := rfl
theorem e_it {call : CallS} {k : ItK} {a : E} {r : Env} : den call (.it k a) r = (den call a r).bind fun (x, r1) => match x with
    | .list l => (R.opt (itD k l)).bind fun d => .ok (.list d, r1)
    | _ => .stuck := rfl
theorem getS_0 {s : Slot} {r : Env} : getS (s :: r) 0 = s := rfl
theorem getS_s {s : Slot} {r : Env} {i : Nat} : getS (s :: r) (i + 1) = getS r i := by simp [getS]
/-! comprehensions -/
theorem lcLoop_gen {tg : Tg} {is : List Nat} {cond elt : Env → R (D × Env)} {r : Env} (g : D → Env) (p : D → Bool) (f : D → D) : ∀ (xs : List D) (r0 : Env) (acc : List D), wipeE r0 is = wipeE r is → r0.length = r.length →
    (∀ x ∈ xs, bindT tg x (wipeE r is) = some (g x) ∧ wipeE (g x) is = wipeE r is ∧ (g x).length = r.length ∧ cond (g x) = .ok (.bool (p x), g x) ∧ (p x = true → elt (g x) = .ok (f x, g x) ∧ nd (f x) = true)) →
    ∃ r1, lcLoop (fun d r => bindT tg d (wipeE r is)) cond elt xs r0 acc = .ok (acc.reverse ++ (xs.filter p).map f, r1) ∧ wipeE r1 is = wipeE r is ∧ r1.length = r.length
  | [], r0, acc, h0, hl, _ => ⟨r0, by simp [lcLoop], h0, hl⟩
  | x :: xs, r0, acc, h0, hl, h => by
    obtain ⟨h1, h2, h3, h4, h5⟩ := h x List.mem_cons_self
    have hr := fun y hy => h y (List.mem_cons_of_mem _ hy)
    simp only [lcLoop]
    rw [h0, h1]
    simp only [h4]
    cases hp : p x with
    | true =>
      obtain ⟨h6, h7⟩ := h5 hp
      simp only [h6, h7, if_true]
      obtain ⟨r1, e, w⟩ := lcLoop_gen g p f xs (g x) (f x :: acc) h2 h3 hr
      refine ⟨r1, ?_, w⟩
      rw [e, List.filter_cons, if_pos hp]
      simp
    | false =>
      obtain ⟨r1, e, w⟩ := lcLoop_gen g p f xs (g x) acc h2 h3 hr
      refine ⟨r1, ?_, w⟩
      simp only [e, List.filter_cons, hp]
      simp
theorem putS_len (r : Env) (i : Nat) (s : Slot) : (putS r i s).length = r.length := by simp [putS]
theorem backE_get (r' r : Env) (hl : r'.length = r.length) : ∀ (is : List Nat) (j : Nat), (backE r' r is)[j]? = if j ∈ is ∧ j < r.length then some (getS r j) else r'[j]?
  | [], j => by simp [backE]
  | i :: is, j => by
    have hb : (backE r' r is).length = r'.length := by
      clear hl
      induction is with
      | nil => rfl
      | cons i is ih => simp [backE, putS_len, ih]
    simp only [backE, putS]
    rw [List.getElem?_set, backE_get r' r hl is j, hb]
    by_cases h : i = j
    · subst h
      by_cases h2 : i < r'.length
      · simp [h2, ← hl]
      · simp [h2, ← hl]
    · simp [h, Ne.symm h]
theorem wipeE_get (r : Env) : ∀ (is : List Nat) (j : Nat), (wipeE r is)[j]? = if j ∈ is ∧ j < r.length then some .un else r[j]?
  | [], j => by simp [wipeE]
  | i :: is, j => by
    have hb : (wipeE r is).length = r.length := by
      induction is with
      | nil => rfl
      | cons i is ih => simp [wipeE, putS_len, ih]
    simp only [wipeE, putS]
    rw [List.getElem?_set, wipeE_get r is j, hb]
    by_cases h : i = j
    · subst h
      by_cases h2 : i < r.length
      · simp [h2]
      · simp [h2]
    · simp [h, Ne.symm h]
theorem back_id {r1 r : Env} {is : List Nat} (h : wipeE r1 is = wipeE r is) (hl : r1.length = r.length) : backE r1 r is = r := by
  refine List.ext_getElem? fun j => ?_
  rw [backE_get r1 r hl]
  by_cases hj : j ∈ is ∧ j < r.length
  · rw [if_pos hj]
    unfold getS
    rw [List.getD_eq_getElem?_getD, List.getElem?_eq_getElem hj.2]
    rfl
  · rw [if_neg hj]
    have := congrArg (fun l => l[j]?) h
    simp only [wipeE_get, hl] at this
    rw [if_neg hj, if_neg hj] at this
    exact this
theorem den_lcG {call : CallS} {tg : Tg} {is : List Nat} {src cond elt : E} {r0 r : Env} (g : D → Env) (p : D → Bool) (f : D → D) {xs : List D} (hs : den call src r0 = .ok (.list xs, r)) (hl : xs.length ≤ lim)
    (h : ∀ x ∈ xs, bindT tg x (wipeE r is) = some (g x) ∧ wipeE (g x) is = wipeE r is ∧ (g x).length = r.length ∧ den call cond (g x) = .ok (.bool (p x), g x) ∧ (p x = true → den call elt (g x) = .ok (f x, g x) ∧ nd (f x) = true)) :
    den call (.lc is tg src cond elt) r0 = .ok (.list ((xs.filter p).map f), r) := by
  obtain ⟨r1, e, w, wl⟩ := lcLoop_gen (cond := den call cond) (elt := den call elt) g p f xs r [] rfl rfl h
  simp only [den, hs, R.ok_bind, e]
  have : (([] : List D).reverse ++ (xs.filter p).map f).length ≤ lim := by
    simp only [List.reverse_nil, List.nil_append, List.length_map]
    exact Nat.le_trans (List.length_filter_le _ _) hl
  rw [if_pos this, back_id w wl]
  rfl
theorem den_mapG {call : CallS} {tg : Tg} {is : List Nat} {src elt : E} {r0 r : Env} (g : D → Env) (f : D → D) {xs : List D} (hs : den call src r0 = .ok (.list xs, r)) (hl : xs.length ≤ lim)
    (h : ∀ x ∈ xs, bindT tg x (wipeE r is) = some (g x) ∧ wipeE (g x) is = wipeE r is ∧ (g x).length = r.length ∧ den call elt (g x) = .ok (f x, g x) ∧ nd (f x) = true) :
    den call (.lc is tg src (.lit (.bool true)) elt) r0 = .ok (.list (xs.map f), r) := by
  have := den_lcG (call := call) (tg := tg) (is := is) (src := src) (cond := .lit (.bool true)) (elt := elt) g (fun _ => true) f hs hl fun x hx => by
    obtain ⟨h1, h2, h3, h4, h5⟩ := h x hx
    exact ⟨h1, h2, h3, rfl, fun _ => ⟨h4, h5⟩⟩
  rw [this, List.filter_eq_self.mpr fun _ _ => rfl]
theorem den_lcF {call : CallS} {tg : Tg} {is : List Nat} {src cond elt : E} {r : Env} (g : D → Env) (p : D → Bool) (f : D → D) {xs : List D} (hs : den call src r = .ok (.list xs, r)) (hl : xs.length ≤ lim)
    (h : ∀ x ∈ xs, bindT tg x (wipeE r is) = some (g x) ∧ wipeE (g x) is = wipeE r is ∧ (g x).length = r.length ∧ den call cond (g x) = .ok (.bool (p x), g x) ∧ (p x = true → den call elt (g x) = .ok (f x, g x) ∧ nd (f x) = true)) :
    den call (.lc is tg src cond elt) r = .ok (.list ((xs.filter p).map f), r) := den_lcG g p f hs hl h
theorem den_map {call : CallS} {tg : Tg} {is : List Nat} {src elt : E} {r : Env} (g : D → Env) (f : D → D) {xs : List D} (hs : den call src r = .ok (.list xs, r)) (hl : xs.length ≤ lim)
    (h : ∀ x ∈ xs, bindT tg x (wipeE r is) = some (g x) ∧ wipeE (g x) is = wipeE r is ∧ (g x).length = r.length ∧ den call elt (g x) = .ok (f x, g x) ∧ nd (f x) = true) :
    den call (.lc is tg src (.lit (.bool true)) elt) r = .ok (.list (xs.map f), r) := den_mapG g f hs hl h
theorem m_letter_at {n : Nat} {ch : Chart} {p q c : Nat} {row : List Nat} (hp : ch[p]? = some row) (hq : row[q]? = some c) (hl : row.length ≤ lim) : run T (n + 1) 2 none [dC ch, dE (p, q)] = .ok (dS [c], []) := by
  obtain ⟨h1, rfl⟩ := List.getElem?_eq_some_iff.mp hp
  obtain ⟨h2, rfl⟩ := List.getElem?_eq_some_iff.mp hq
  rw [run_fn T_letter_at rfl rfl]
  simp [b_letter_at, denS, den_op2, den, getS, opD, dop_item, ixOf_nat, ixOf_0, ixOf_1, endOf, h1, h2, hl, guardO]
theorem m_next_around {n : Nat} {ch : Chart} {p q : Nat} {row : List Nat} (hp : ch[p]? = some row) (hq : q < row.length) (hl : row.length ≤ lim) : run T (n + 1) 4 none [dC ch, dE (p, q)] = .ok (dE (p, (q + 1) % row.length), []) := by
  obtain ⟨h1, rfl⟩ := List.getElem?_eq_some_iff.mp hp
  rw [run_fn T_next_around rfl rfl]
  have h0 : 0 < ch[p].length := by omega
  have e : ((q : Int) + 1) % (ch[p].length : Int) = (((q + 1) % ch[p].length : Nat) : Int) := by rw [Int.natCast_emod]; rfl
  unfold lim at hl
  simp [b_next_around, denS, den_op2, den_op1, den, getS, opD, dop_item, dop_add, dop_mod, dop_len, dop_mkt, nd, lim, ixOf_nat, ixOf_0, ixOf_1, endOf, h1, hl, h0, guardO]
theorem rangeFrom_eq : ∀ (n k : Nat), rangeFrom (k : Int) n = (List.range' k n).map fun q => dI q
  | 0, k => rfl
  | n + 1, k => by
    have := rangeFrom_eq n (k + 1)
    rw [rangeFrom, List.range'_succ, List.map_cons]
    have e : ((k : Int) + 1) = ((k + 1 : Nat) : Int) := rfl
    rw [e, this]
theorem range0_eq (n : Nat) : rangeFrom 0 n = (List.range n).map fun q => dI q := by
  have := rangeFrom_eq n 0
  rw [List.range_eq_range']
  exact this
theorem forLoop_cons {bind : D → Env → Option Env} {body : Env → RS} {x : D} {xs : List D} {r r1 r2 : Env} (hb : bind x r = some r1) (hs : body r1 = .nxt r2) : forLoop bind body (x :: xs) r = forLoop bind body xs r2 := by
  simp only [forLoop, hb, hs]
theorem denS_seq {call : CallS} {a b : S} {r r1 : Env} (h : denS call a r = .nxt r1) : denS call (.seq a b) r = denS call b r1 := by
  simp only [denS, h]
theorem denS_for {call : CallS} {tg : Tg} {src : E} {b : S} {r r1 : Env} {l : List D} (h : den call src r = .ok (.list l, r1)) : denS call (.for_ tg src b) r = forLoop (bindT tg) (denS call b) l r1 := by
  simp only [denS, h]
def endsFrom : Nat → Chart → List (Nat × Nat)
  | _, [] => []
  | k, row :: r => (List.range row.length).map (fun q => (k, q)) ++ endsFrom (k + 1) r
abbrev ends (ch : Chart) : List (Nat × Nat) := endsFrom 0 ch
theorem nd_dE (e : Nat × Nat) : nd (dE e) = true := rfl
theorem ends_loop {call : CallS} {c : Slot} : ∀ (rows : Chart) (k : Nat) (acc : List (Nat × Nat)) (s2 s3 : Slot), acc.length + (endsFrom k rows).length ≤ 1000 → ∃ s2' s3',
    forLoop (bindT (.tup [2, 3])) (denS call (.asg (.name 1) (.op .add (.cons (.var 1) (.cons (.lc [4] (.name 4) (.it .range1 (.cons (.op .len (.cons (.var 3) .nil)) .nil)) (.lit (.bool true)) (.op .mkt (.cons (.var 2) (.cons (.var 4) .nil)))) .nil))))) (enumFrom k (rows.map dS)) [c, .sh (.list (acc.map dE)), s2, s3, .un]
      = .nxt [c, .sh (.list ((acc ++ endsFrom k rows).map dE)), s2', s3', .un]
  | [], k, acc, s2, s3, h => ⟨s2, s3, by simp [enumFrom, forLoop, endsFrom]⟩
  | row :: rows, k, acc, s2, s3, h => by
    simp only [endsFrom, List.length_append, List.length_map, List.length_range] at h
    have g1 : row.length ≤ 1000000 := by omega
    have g2 : (-1000000 : Int) ≤ row.length := by omega
    have g3 : (row.length : Int) ≤ 1000000 := by omega
    obtain ⟨t2, t3, e⟩ := ends_loop (call := call) (c := c) rows (k + 1) (acc ++ (List.range row.length).map fun q => (k, q)) (.sh (dI k)) (.sh (dS row)) (by simp only [List.length_append, List.length_map, List.length_range]; omega)
    refine ⟨t2, t3, ?_⟩
    have hm := den_map (call := call) (tg := .name 4) (is := [4]) (src := .it .range1 (.cons (.op .len (.cons (.var 3) .nil)) .nil)) (elt := .op .mkt (.cons (.var 2) (.cons (.var 4) .nil))) (r := [c, .sh (.list (acc.map dE)), .sh (dI k), .sh (dS row), .un])
      (fun x => [c, .sh (.list (acc.map dE)), .sh (dI k), .sh (dS row), .sh x]) (fun x => .tuple [dI k, x]) (xs := (List.range row.length).map fun q => dI q)
      (by simp [den, den_op1, getS, opD, dop_len, itD, guardO, lim, range0_eq, g1, g2, g3]) (by simp [lim]; omega)
      (fun x hx => by
        obtain ⟨q, _, rfl⟩ := List.mem_map.mp hx
        simp [bindT, wipeE, putS, den, getS, opD, dop_mkt, guardO, lim, nd])
    have g4 : acc.length + row.length ≤ 1000000 := by omega
    have em : (List.map dE acc ++ List.map (fun x => PyData.tuple [dI k, x]) (List.map (fun q => dI q) (List.range row.length))) = (acc ++ (List.range row.length).map fun q => (k, q)).map dE := by
      simp [List.map_map, Function.comp_def]
    have st : denS call (.asg (.name 1) (.op .add (.cons (.var 1) (.cons (.lc [4] (.name 4) (.it .range1 (.cons (.op .len (.cons (.var 3) .nil)) .nil)) (.lit (.bool true)) (.op .mkt (.cons (.var 2) (.cons (.var 4) .nil)))) .nil)))) [c, .sh (.list (acc.map dE)), .sh (dI k), .sh (dS row), .un] = .nxt [c, .sh (.list ((acc ++ (List.range row.length).map fun q => (k, q)).map dE)), .sh (dI k), .sh (dS row), .un] := by
      simp [denS, den_op2, e_var, hm, getS, opD, dop_add, guardO, lim, g4, bindT, putS, Function.comp_def]
    rw [List.map_cons, enumFrom, forLoop_cons (r1 := [c, .sh (.list (acc.map dE)), .sh (dI k), .sh (dS row), .un]) rfl st, e, endsFrom, List.append_assoc]
theorem m_ends_in {n : Nat} {ch : Chart} (h : (ends ch).length ≤ 1000) : run T (n + 1) 1 none [dC ch] = .ok (.list ((ends ch).map dE), []) := by
  rw [run_fn T_ends_in rfl rfl]
  obtain ⟨t2, t3, e⟩ := ends_loop (call := run T n) (c := .sh (dC ch)) ch 0 [] .un .un (by simpa using h)
  unfold b_ends_in
  rw [denS_seq (r1 := [.sh (dC ch), .sh (.list []), .un, .un, .un]) (by simp [denS, e_op, e_nil, opD, dop_mkl, guardO, lim, bindT, putS]), denS_seq (r1 := [.sh (dC ch), .sh (.list ((ends ch).map dE)), t2, t3, .un])]
  · simp [denS, e_var, getS, endOf]
  · rw [denS_for (l := enumFrom 0 (ch.map dS)) (r1 := [.sh (dC ch), .sh (.list []), .un, .un, .un]) (by simp [e_it, e_cons, e_nil, e_var, getS, itD])]
    simpa using e
/-! other_end -/
def otherFrom (c : Nat) (e : Nat × Nat) : Nat → Chart → Option (Nat × Nat)
  | _, [] => none
  | k, row :: r => match (match posOf c row with | some q => if (k, q) = e then posFrom c row (q + 1) else some q | none => none) with
    | some q => some (k, q)
    | none => otherFrom c e (k + 1) r
def letterAt (ch : Chart) (e : Nat × Nat) : Nat := (ch.getD e.1 []).getD e.2 0
def otherEnd (ch : Chart) (e : Nat × Nat) : Nat × Nat := (otherFrom (letterAt ch e) e 0 ch).getD e
theorem eqv_dE (a b : Nat × Nat) : PyData.eqv (dE a) (dE b) = decide (a = b) := by
  obtain ⟨a1, a2⟩ := a
  obtain ⟨b1, b2⟩ := b
  have h : ∀ x y : Nat, ((x : Int) == (y : Int)) = decide (x = y) := fun x y => by
    rw [Bool.eq_iff_iff]; simp; omega
  simp [PyData.eqv, PyData.eqvAll, h]
theorem e_meth {call : CallS} {o : Op} {a b : E} {r : Env} : den call (.meth o a b) r = (den call a r).bind fun (x, r1) => match x with
    | .str z => (den call b r1).bind fun (y, r2) => match y with
      | .list l => (R.opt (opD o (.str z :: l))).bind fun d => .ok (d, r2)
      | _ => .stuck
    | _ => .stuck := rfl
theorem forLoop_ret {bind : D → Env → Option Env} {body : Env → RS} {x d : D} {xs : List D} {r r1 r2 : Env} (hb : bind x r = some r1) (hs : body r1 = .ret d r2) : forLoop bind body (x :: xs) r = .ret d r2 := by
  simp only [forLoop, hb, hs]
theorem plain_dE (e : Nat × Nat) : (dE e).plain = true := rfl
theorem posOf_lt {c : Nat} : ∀ {l : List Nat} {q : Nat}, posOf c l = some q → q < l.length
  | [], _, h => by cases h
  | a :: r, q, h => by
    simp only [posOf] at h
    by_cases ha : a = c
    · rw [if_pos ha] at h; cases h; simp
    · rw [if_neg ha] at h
      cases hr : posOf c r with
      | none => rw [hr] at h; cases h
      | some k =>
        rw [hr] at h
        cases h
        have := posOf_lt hr
        simp; omega
abbrev bodyOther : S := .seq (.asg (.name 5) (.meth .find (.var 4) (.cons (.var 2) .nil))) (.seq (.ifs (.op .eq (.cons (.op .mkt (.cons (.var 3) (.cons (.var 5) .nil))) (.cons (.var 1) .nil))) (.asg (.name 5) (.meth .find2 (.var 4) (.cons (.var 2) (.cons (.op .add (.cons (.var 5) (.cons (.lit (.int 1)) .nil))) .nil)))) .skip) (.ifs (.op .ge (.cons (.var 5) (.cons (.lit (.int 0)) .nil))) (.ret (.op .mkt (.cons (.var 3) (.cons (.var 5) .nil)))) .skip))
theorem other_step {call : CallS} {cs : Slot} {c k : Nat} {e : Nat × Nat} {row : List Nat} {s5 : Slot} : (match (match posOf c row with | some q => if (k, q) = e then posFrom c row (q + 1) else some q | none => none) with
    | some q => ∃ r, denS call bodyOther [cs, .sh (dE e), .sh (dS [c]), .sh (dI k), .sh (dS row), s5] = .ret (dE (k, q)) r
    | none => ∃ s5', denS call bodyOther [cs, .sh (dE e), .sh (dS [c]), .sh (dI k), .sh (dS row), s5] = .nxt [cs, .sh (dE e), .sh (dS [c]), .sh (dI k), .sh (dS row), s5']) := by
  cases hp : posOf c row with
  | none =>
    have h1 : denS call (.asg (.name 5) (.meth .find (.var 4) (.cons (.var 2) .nil))) [cs, .sh (dE e), .sh (dS [c]), .sh (dI k), .sh (dS row), s5] = .nxt [cs, .sh (dE e), .sh (dS [c]), .sh (dI k), .sh (dS row), .sh (.int (-1))] := by
      simp [denS, e_meth, e_var, e_cons, e_nil, getS, opD, dop_find, sign1, hp, posInt, bindT, putS]
    have h2 : PyData.eqv (.tuple [dI k, .int (-1)]) (dE e) = false := by
      obtain ⟨e1, e2⟩ := e
      simp [PyData.eqv, PyData.eqvAll]
    refine ⟨.sh (.int (-1)), ?_⟩
    rw [denS_seq h1]
    simp [denS, e_op, e_var, e_cons, e_nil, e_lit, getS, opD, dop_mkt, dop_eq, dop_ge, guardO, lim, nd, h2, PyData.plain, PyData.plainAll, PyData.depth, PyData.depthAll]
  | some q =>
    have hq := posOf_lt hp
    have h1 : denS call (.asg (.name 5) (.meth .find (.var 4) (.cons (.var 2) .nil))) [cs, .sh (dE e), .sh (dS [c]), .sh (dI k), .sh (dS row), s5] = .nxt [cs, .sh (dE e), .sh (dS [c]), .sh (dI k), .sh (dS row), .sh (dI q)] := by
      simp [denS, e_meth, e_var, e_cons, e_nil, getS, opD, dop_find, sign1, hp, posInt, bindT, putS]
    have h2 : PyData.eqv (.tuple [dI k, dI q]) (dE e) = decide ((k, q) = e) := eqv_dE (k, q) e
    by_cases he : (k, q) = e
    · rw [decide_eq_true he] at h2
      simp only [if_pos he]
      have h3 : denS call (.ifs (.op .eq (.cons (.op .mkt (.cons (.var 3) (.cons (.var 5) .nil))) (.cons (.var 1) .nil))) (.asg (.name 5) (.meth .find2 (.var 4) (.cons (.var 2) (.cons (.op .add (.cons (.var 5) (.cons (.lit (.int 1)) .nil))) .nil)))) .skip) [cs, .sh (dE e), .sh (dS [c]), .sh (dI k), .sh (dS row), .sh (dI q)]
          = .nxt [cs, .sh (dE e), .sh (dS [c]), .sh (dI k), .sh (dS row), .sh (.int (posInt (posFrom c row (q + 1))))] := by
        have g1 : (0 : Int) ≤ (q : Int) + 1 := by omega
        have g2 : ((q : Int) + 1).toNat = q + 1 := by omega
        have g3 : (q : Int) + 1 ≤ row.length := by omega
        simp [denS, e_meth, e_op, e_var, e_cons, e_nil, e_lit, getS, opD, dop_mkt, dop_eq, dop_add, dop_find2, sign1, guardO, lim, nd, h2, PyData.plain, PyData.plainAll, PyData.depth, PyData.depthAll, bindT, putS, g1, g2, g3]
      cases hf : posFrom c row (q + 1) with
      | none =>
        refine ⟨.sh (.int (-1)), ?_⟩
        rw [denS_seq h1, denS_seq h3, hf]
        simp [denS, e_op, e_var, e_cons, e_nil, e_lit, getS, opD, dop_ge, posInt]
      | some q' =>
        refine ⟨[cs, .sh (dE e), .sh (dS [c]), .sh (dI k), .sh (dS row), .sh (dI q')], ?_⟩
        rw [denS_seq h1, denS_seq h3, hf]
        simp [denS, e_op, e_var, e_cons, e_nil, e_lit, getS, opD, dop_ge, posInt, dop_mkt, guardO, lim, nd]
    · rw [decide_eq_false he] at h2
      simp only [if_neg he]
      refine ⟨[cs, .sh (dE e), .sh (dS [c]), .sh (dI k), .sh (dS row), .sh (dI q)], ?_⟩
      rw [denS_seq h1]
      simp [denS, e_op, e_var, e_cons, e_nil, e_lit, getS, opD, dop_mkt, dop_eq, dop_ge, guardO, lim, nd, h2, PyData.plain, PyData.plainAll, PyData.depth, PyData.depthAll]
theorem other_loop {call : CallS} {cs : Slot} {c : Nat} {e : Nat × Nat} : ∀ (rows : Chart) (k : Nat) (s3 s4 s5 : Slot), (match otherFrom c e k rows with
    | some x => ∃ r, forLoop (bindT (.tup [3, 4])) (denS call bodyOther) (enumFrom k (rows.map dS)) [cs, .sh (dE e), .sh (dS [c]), s3, s4, s5] = .ret (dE x) r
    | none => ∃ t3 t4 t5, forLoop (bindT (.tup [3, 4])) (denS call bodyOther) (enumFrom k (rows.map dS)) [cs, .sh (dE e), .sh (dS [c]), s3, s4, s5] = .nxt [cs, .sh (dE e), .sh (dS [c]), t3, t4, t5])
  | [], k, s3, s4, s5 => ⟨s3, s4, s5, rfl⟩
  | row :: rows, k, s3, s4, s5 => by
    have st := other_step (call := call) (cs := cs) (c := c) (k := k) (e := e) (row := row) (s5 := s5)
    simp only [otherFrom, List.map_cons, enumFrom]
    cases hm : (match posOf c row with | some q => if (k, q) = e then posFrom c row (q + 1) else some q | none => none) with
    | some q =>
      rw [hm] at st
      obtain ⟨r, hr⟩ := st
      exact ⟨r, forLoop_ret (r1 := [cs, .sh (dE e), .sh (dS [c]), .sh (dI k), .sh (dS row), s5]) rfl hr⟩
    | none =>
      rw [hm] at st
      obtain ⟨s5', hr⟩ := st
      have ih := other_loop (call := call) (cs := cs) (c := c) (e := e) rows (k + 1) (.sh (dI k)) (.sh (dS row)) s5'
      simp only
      rw [forLoop_cons (r1 := [cs, .sh (dE e), .sh (dS [c]), .sh (dI k), .sh (dS row), s5]) rfl hr]
      exact ih
theorem m_other_end {n : Nat} {ch : Chart} {e : Nat × Nat} {row : List Nat} (hp : ch[e.1]? = some row) (hq : e.2 < row.length) (hl : row.length ≤ lim) : run T (n + 2) 3 none [dC ch, dE e] = .ok (dE (otherEnd ch e), []) := by
  obtain ⟨p, q⟩ := e
  have hc : row[q]? = some (letterAt ch (p, q)) := by
    unfold letterAt
    simp only [List.getD_eq_getElem?_getD, hp, Option.getD_some]
    rw [List.getElem?_eq_getElem hq]; rfl
  have hcall := m_letter_at (n := n) hp hc hl
  rw [run_fn T_other_end rfl rfl]
  have lp := other_loop (call := run T (n + 1)) (cs := .sh (dC ch)) (c := letterAt ch (p, q)) (e := (p, q)) ch 0 .un .un .un
  unfold b_other_end
  rw [denS_seq (r1 := [.sh (dC ch), .sh (dE (p, q)), .sh (dS [letterAt ch (p, q)]), .un, .un, .un]) (by simp [denS, e_call, e_cons, e_nil, e_var, getS, hcall, bindT, putS])]
  have hf : den (run T (n + 1)) (.it .enum (.cons (.var 0) .nil)) [.sh (dC ch), .sh (dE (p, q)), .sh (dS [letterAt ch (p, q)]), .un, .un, .un] = .ok (.list (enumFrom 0 (ch.map dS)), [.sh (dC ch), .sh (dE (p, q)), .sh (dS [letterAt ch (p, q)]), .un, .un, .un]) := by
    simp [e_it, e_cons, e_nil, e_var, getS, itD]
  unfold otherEnd
  cases ho : otherFrom (letterAt ch (p, q)) (p, q) 0 ch with
  | some x =>
    rw [ho] at lp
    obtain ⟨r, hr⟩ := lp
    simp only [denS.eq_2, denS_for hf, hr, endOf, Option.getD_some]
  | none =>
    rw [ho] at lp
    obtain ⟨t3, t4, t5, hr⟩ := lp
    rw [denS_seq (r1 := [.sh (dC ch), .sh (dE (p, q)), .sh (dS [letterAt ch (p, q)]), t3, t4, t5]) (by rw [denS_for hf]; exact hr)]
    simp [denS, e_var, getS, endOf]
/-! gone_on -/
def Val (ch : Chart) (e : Nat × Nat) : Prop := ∃ row, ch[e.1]? = some row ∧ e.2 < row.length
theorem posFrom_lt {c : Nat} {l : List Nat} {k q : Nat} (h : posFrom c l k = some q) : q < l.length ∧ k ≤ q := by
  unfold posFrom at h
  cases hr : posOf c (l.drop k) with
  | none => rw [hr] at h; cases h
  | some j =>
    rw [hr] at h
    cases h
    have := posOf_lt hr
    rw [List.length_drop] at this
    show j + k < l.length ∧ k ≤ j + k
    omega
theorem otherFrom_val {c : Nat} {e : Nat × Nat} : ∀ {rows : Chart} {k : Nat} {x : Nat × Nat}, otherFrom c e k rows = some x → ∃ row, k ≤ x.1 ∧ rows[x.1 - k]? = some row ∧ x.2 < row.length
  | [], k, x, h => by cases h
  | row :: rows, k, x, h => by
    simp only [otherFrom] at h
    cases hm : (match posOf c row with | some q => if (k, q) = e then posFrom c row (q + 1) else some q | none => none) with
    | some q =>
      rw [hm] at h
      cases h
      refine ⟨row, Nat.le_refl _, by simp, ?_⟩
      cases hp : posOf c row with
      | none => rw [hp] at hm; cases hm
      | some q' =>
        rw [hp] at hm
        simp only at hm
        by_cases he : (k, q') = e
        · rw [if_pos he] at hm; exact (posFrom_lt hm).1
        · rw [if_neg he] at hm; cases hm; exact posOf_lt hp
    | none =>
      rw [hm] at h
      obtain ⟨row', h1, h2, h3⟩ := otherFrom_val h
      refine ⟨row', by omega, ?_, h3⟩
      have : x.1 - k = (x.1 - (k + 1)) + 1 := by omega
      rw [this, List.getElem?_cons_succ]
      exact h2
theorem otherEnd_val {ch : Chart} {e : Nat × Nat} (h : Val ch e) : Val ch (otherEnd ch e) := by
  unfold otherEnd
  cases ho : otherFrom (letterAt ch e) e 0 ch with
  | none => exact h
  | some x =>
    obtain ⟨row, _, h2, h3⟩ := otherFrom_val ho
    exact ⟨row, by simpa using h2, h3⟩
def nextA (ch : Chart) (e : Nat × Nat) : Nat × Nat := (e.1, (e.2 + 1) % (ch.getD e.1 []).length)
theorem nextA_val {ch : Chart} {e : Nat × Nat} (h : Val ch e) : Val ch (nextA ch e) := by
  obtain ⟨row, h1, h2⟩ := h
  refine ⟨row, h1, ?_⟩
  simp only [nextA, List.getD_eq_getElem?_getD, h1, Option.getD_some]
  exact Nat.mod_lt _ (by omega)
def phi (ch : Chart) (e : Nat × Nat) : Nat × Nat := nextA ch (otherEnd ch e)
theorem phi_val {ch : Chart} {e : Nat × Nat} (h : Val ch e) : Val ch (phi ch e) := nextA_val (otherEnd_val h)
def Small (ch : Chart) : Prop := ∀ row ∈ ch, row.length ≤ 100
theorem m_gone_on {n : Nat} {ch : Chart} {e : Nat × Nat} (hs : Small ch) (hv : Val ch e) : run T (n + 3) 5 none [dC ch, dE e] = .ok (dE (phi ch e), []) := by
  obtain ⟨row, h1, h2⟩ := hv
  have hl : row.length ≤ lim := Nat.le_trans (hs row (List.mem_of_getElem? h1)) (by decide)
  obtain ⟨row', h1', h2'⟩ := otherEnd_val ⟨row, h1, h2⟩
  have hl' : row'.length ≤ lim := Nat.le_trans (hs row' (List.mem_of_getElem? h1')) (by decide)
  have e1 := m_other_end (n := n) h1 h2 hl
  have e2 := m_next_around (n := n + 1) h1' h2' hl'
  have e3 : (ch.getD (otherEnd ch e).1 []).length = row'.length := by
    simp only [List.getD_eq_getElem?_getD, h1', Option.getD_some]
  rw [run_fn T_gone_on rfl rfl]
  unfold b_gone_on
  have e2' : run T (n + 2) 4 none [dC ch, dE (otherEnd ch e)] = .ok (dE (phi ch e), []) := by
    rw [show dE (otherEnd ch e) = dE ((otherEnd ch e).1, (otherEnd ch e).2) from rfl, e2]
    simp only [phi, nextA, e3]
  simp [denS, e_call, e_cons, e_nil, e_var, getS, e1, e2', endOf]
end Bm
end
section
set_option Elab.async false
set_option linter.all false
set_option maxRecDepth 100000
set_option maxHeartbeats 1000000
namespace Bm
open PySem
abbrev End := Nat × Nat
/-! a dict of ends that are seen -/
abbrev dSeen (l : List End) : List (D × D) := l.map fun e => (dE e, .bool true)
theorem lookD_seen (e : End) : ∀ l : List End, lookD (dSeen l) (dE e) = if e ∈ l then some (.bool true) else none
  | [] => rfl
  | x :: l => by
    simp only [dSeen, List.map_cons, lookD, eqv_dE]
    by_cases h : x = e
    · subst h; simp
    · have ih := lookD_seen e l
      simp only [dSeen] at ih
      simp [h, ih, Ne.symm h]
theorem putD_seen (e : End) : ∀ l : List End, e ∉ l → putD (dSeen l) (dE e) (.bool true) = dSeen (l ++ [e])
  | [], _ => rfl
  | x :: l, h => by
    have hx : x ≠ e := fun z => h (by rw [z]; exact List.mem_cons_self)
    have ih := putD_seen e l fun z => h (List.mem_cons_of_mem _ z)
    simp only [dSeen] at ih
    simp only [dSeen, List.map_cons, putD, eqv_dE, decide_eq_true_eq, hx, if_false, List.cons_append, ih]
theorem keyT_dE (e : End) : (keyT (dE e)).isSome = true := rfl
/-- from e on while it is not seen -/
def goOn (ch : Chart) : Nat → List End → List End → End → Option (List End × List End × End)
  | 0, _, _, _ => none
  | n + 1, seen, sm, e => if e ∈ seen then some (seen, sm, e) else goOn ch n (seen ++ [e]) (sm ++ [e]) (phi ch e)
theorem e_dIn {call : CallS} {i : Nat} {a : E} {r : Env} : den call (.dIn i a) r = (den call a r).bind fun (x, r1) => match getS r1 i with
    | .dicT kvs => if (keyT x).isSome then .ok (.bool (lookD kvs x).isSome, r1) else .stuck
    | .dicK kvs => if (keyK x).isSome then .ok (.bool (lookD kvs x).isSome, r1) else .stuck
    | _ => .stuck := rfl
abbrev condSeen : E := .op .not (.cons (.dIn 2 (.var 3)) .nil)
abbrev bodySeen : S := .seq (.dput 2 (.var 3) (.lit (.bool true))) (.seq (.append 4 (.var 3)) (.asg (.name 3) (.call 5 (.cons (.var 0) (.cons (.var 3) .nil)))))
theorem cond_seen {call : CallS} {c f s4 s5 s6 s7 : Slot} {seen : List End} {e : End} : den call condSeen [c, f, .dicT (dSeen seen), .sh (dE e), s4, s5, s6, s7] = .ok (.bool (!decide (e ∈ seen)), [c, f, .dicT (dSeen seen), .sh (dE e), s4, s5, s6, s7]) := by
  have h := lookD_seen e seen
  by_cases he : e ∈ seen
  · rw [if_pos he] at h
    simp [e_op, e_cons, e_nil, e_dIn, e_var, getS, keyT_dE, h, opD, dop_not, he]
  · rw [if_neg he] at h
    simp [e_op, e_cons, e_nil, e_dIn, e_var, getS, keyT_dE, h, opD, dop_not, he]
theorem body_seen {n : Nat} {ch : Chart} {f s5 s6 s7 : Slot} {seen sm : List End} {e : End} (hs : Small ch) (hv : Val ch e) (he : e ∉ seen) (h1 : seen.length < 1000) (h2 : sm.length < 1000) :
    denS (run T (n + 3)) bodySeen [.sh (dC ch), f, .dicT (dSeen seen), .sh (dE e), .own (sm.map dE), s5, s6, s7] = .nxt [.sh (dC ch), f, .dicT (dSeen (seen ++ [e])), .sh (dE (phi ch e)), .own ((sm ++ [e]).map dE), s5, s6, s7] := by
  have hp := putD_seen e seen he
  have hg := m_gone_on (n := n) hs hv
  have g1 : seen.length < 1000000 := by omega
  have g2 : sm.length < 1000000 := by omega
  rw [denS_seq (r1 := [.sh (dC ch), f, .dicT (dSeen (seen ++ [e])), .sh (dE e), .own (sm.map dE), s5, s6, s7])]
  · rw [denS_seq (r1 := [.sh (dC ch), f, .dicT (dSeen (seen ++ [e])), .sh (dE e), .own ((sm ++ [e]).map dE), s5, s6, s7])]
    · simp [denS, e_call, e_cons, e_nil, e_var, getS, hg, bindT, putS]
    · simp [denS, e_var, getS, isOwnL, putS, lim, g2, nd]
  · have hl : (dSeen seen).length < lim := by simp [lim]; omega
    simp only [denS, e_lit, e_var, getS_0, getS_s, isDic, if_true]
    simp only [hl, nd, keyT_dE, and_self, if_true, hp]
    rfl
theorem while_seen {n : Nat} {ch : Chart} {f s5 s6 s7 : Slot} (hs : Small ch) : ∀ (m : Nat) (seen sm seen' sm' : List End) (e e' : End), Val ch e → goOn ch m seen sm e = some (seen', sm', e') → seen.length + m ≤ 1000 → sm.length + m ≤ 1000 →
    whileLoop (den (run T (n + 3)) condSeen) (denS (run T (n + 3)) bodySeen) m [.sh (dC ch), f, .dicT (dSeen seen), .sh (dE e), .own (sm.map dE), s5, s6, s7] = .nxt [.sh (dC ch), f, .dicT (dSeen seen'), .sh (dE e'), .own (sm'.map dE), s5, s6, s7]
  | 0, _, _, _, _, _, _, _, h, _, _ => by cases h
  | m + 1, seen, sm, seen', sm', e, e', hv, h, h1, h2 => by
    simp only [goOn] at h
    simp only [whileLoop, cond_seen]
    by_cases he : e ∈ seen
    · rw [if_pos he] at h
      cases h
      simp [he]
    · rw [if_neg he] at h
      simp only [he, decide_false, Bool.not_false]
      rw [body_seen hs hv he (by omega) (by omega)]
      exact while_seen hs m _ _ _ _ _ _ (phi_val hv) h (by simp; omega) (by simp; omega)
/-! least_turn -/
def turnAt (l : List Nat) (k : Nat) : List Nat := l.drop k ++ l.take k
theorem e_slcL {call : CallS} {a lo : E} {r : Env} : den call (.slcL a lo) r = (den call a r).bind fun (x, r1) => (den call lo r1).bind fun (y, r2) => if isI y then (R.opt (opD .slice [x, y, .none])).bind fun d => .ok (d, r2) else .stuck := rfl
theorem e_slcH {call : CallS} {a hi : E} {r : Env} : den call (.slcH a hi) r = (den call a r).bind fun (x, r1) => (den call hi r1).bind fun (y, r2) => if isI y then (R.opt (opD .slice [x, .none, y])).bind fun d => .ok (d, r2) else .stuck := rfl
theorem slice_lo {l : List Nat} {k : Nat} (hl : l.length ≤ 1000) (hk : k ≤ l.length) : dop_slice [dS l, dI k, .none] = some (dS (l.drop k)) := by
  have g : l.length ≤ 1000000 := by omega
  simp [dop_slice, guardO, lim, g, clamp, cut, Nat.min_eq_left hk]
theorem slice_hi {l : List Nat} {k : Nat} (hl : l.length ≤ 1000) (hk : k ≤ l.length) : dop_slice [dS l, .none, dI k] = some (dS (l.take k)) := by
  have g : l.length ≤ 1000000 := by omega
  simp [dop_slice, guardO, lim, g, clamp, cut, Nat.min_eq_left hk]
theorem alike_strs : ∀ l : List (List Nat), allAlike (l.map dS) = true
  | [] => rfl
  | x :: r => by
    have h : ∀ r : List (List Nat), alikeAs (dS x) (r.map dS) = true := fun r => by
      induction r with
      | nil => rfl
      | cons y r ih => simp only [List.map_cons, alikeAs, ih]; rfl
    simp only [List.map_cons, allAlike, h r, alike_strs r]
    rfl
theorem depth_strs : ∀ l : List (List Nat), PyData.depthAll (l.map dS) ≤ 1
  | [] => by simp [PyData.depthAll]
  | x :: r => by
    have := depth_strs r
    simp only [List.map_cons, PyData.depthAll, PyData.depth]
    omega
def minL (x : List Nat) (r : List (List Nat)) : List Nat := r.foldl (fun a y => if PySem.W.dataLt (dS y) (dS a) then y else a) x
theorem minD_strs : ∀ (r : List (List Nat)) (x : List Nat), PySem.W.minD (dS x) (r.map dS) = dS (minL x r)
  | [], x => rfl
  | y :: r, x => by
    have ih := minD_strs r (if PySem.W.dataLt (dS y) (dS x) then y else x)
    unfold PySem.W.minD minL at *
    rw [List.map_cons, List.foldl_cons, List.foldl_cons, ← ih]
    congr 1
    by_cases h : PySem.W.dataLt (dS y) (dS x) = true
    · rw [if_pos h, if_pos h]
    · rw [if_neg h, if_neg h]
def turns (l : List Nat) : List (List Nat) := (List.range l.length).map (turnAt l)
def leastTurn (l : List Nat) : List Nat := match turns l with
  | [] => []
  | x :: r => minL x r
theorem min1_strs {x : List Nat} {r : List (List Nat)} : opD .min1 [.list ((x :: r).map dS)] = some (dS (minL x r)) := by
  have h1 := alike_strs (x :: r)
  have h2 : ((x :: r).map dS).all notNone = true := by
    rw [List.all_eq_true]
    intro d hd
    obtain ⟨y, _, rfl⟩ := List.mem_map.mp hd
    rfl
  have h3 : PyData.depthAll ((x :: r).map dS) ≤ 60 := Nat.le_trans (depth_strs _) (by decide)
  simp only [List.map_cons] at h1 h2 h3 ⊢
  simp only [opD, dop_min1, guardO, h1, h2, decide_eq_true h3, Bool.and_self, if_true, minD_strs]
theorem m_least_turn {n : Nat} {l : List Nat} (hl : l.length ≤ 1000) (h0 : l ≠ []) : run T (n + 1) 6 none [dS l] = .ok (dS (leastTurn l), []) := by
  rw [run_fn T_least_turn rfl rfl]
  unfold b_least_turn
  have g1 : l.length ≤ 1000000 := by omega
  have g2 : (-1000000 : Int) ≤ l.length := by omega
  have g3 : (l.length : Int) ≤ 1000000 := by omega
  have hm := den_map (call := run T n) (tg := .name 1) (is := [1]) (src := .it .range1 (.cons (.op .len (.cons (.var 0) .nil)) .nil)) (elt := .op .add (.cons (.slcL (.var 0) (.var 1)) (.cons (.slcH (.var 0) (.var 1)) .nil))) (r := [.sh (dS l), .un])
    (fun x => [.sh (dS l), .sh x]) (fun x => match x with | .int k => dS (turnAt l k.toNat) | _ => .none) (xs := (List.range l.length).map fun q => dI q)
    (by simp [den, den_op1, getS, opD, dop_len, itD, guardO, lim, range0_eq, g1, g2, g3]) (by simp [lim]; omega)
    (fun x hx => by
      obtain ⟨q, hq, rfl⟩ := List.mem_map.mp hx
      have hq' : q ≤ l.length := Nat.le_of_lt (List.mem_range.mp hq)
      have g4 : l.length - q + q ≤ 1000000 := by omega
      refine ⟨rfl, rfl, rfl, ?_, rfl⟩
      have g5 : min q l.length = q := Nat.min_eq_left hq'
      simp [den_op2, e_slcL, e_slcH, e_var, getS, isI, slice_lo hl hq', slice_hi hl hq', opD, dop_add, guardO, lim, g4, g5, turnAt])
  have e1 : (((List.range l.length).map fun q => dI q).map fun x => match x with | .int k => dS (turnAt l k.toNat) | _ => .none) = (turns l).map dS := by
    simp [turns, List.map_map, Function.comp_def]
  rw [e1] at hm
  have hne : turns l ≠ [] := by
    unfold turns
    intro z
    rw [List.map_eq_nil_iff, List.range_eq_nil] at z
    exact h0 (List.eq_nil_of_length_eq_zero z)
  unfold leastTurn
  cases ht : turns l with
  | nil => exact absurd ht hne
  | cons x r =>
    rw [ht] at hm
    have hmin := min1_strs (x := x) (r := r)
    simp only [denS, e_op, e_cons, e_nil]
    simp only [List.map_cons, List.map_nil, List.replicate, List.cons_append, List.nil_append, Nat.reduceSub] at hm ⊢
    rw [hm]
    simp only [R.ok_bind, List.map_cons] at hmin ⊢
    rw [hmin]
    rfl
end Bm
end
section
set_option Elab.async false
set_option linter.all false
set_option maxRecDepth 100000
set_option maxHeartbeats 1000000
/-! rounds -/
namespace Bm
open PySem
def word (ch : Chart) (sm : List End) : List Nat := sm.map (letterAt ch)
def leastE (x : End) (r : List End) : End := r.foldl (fun a y => if PySem.W.dataLt (dE y) (dE a) then y else a) x
theorem minD_ends : ∀ (r : List End) (x : End), PySem.W.minD (dE x) (r.map dE) = dE (leastE x r)
  | [], x => rfl
  | y :: r, x => by
    have ih := minD_ends r (if PySem.W.dataLt (dE y) (dE x) then y else x)
    unfold PySem.W.minD leastE at *
    rw [List.map_cons, List.foldl_cons, List.foldl_cons, ← ih]
    congr 1
    by_cases h : PySem.W.dataLt (dE y) (dE x) = true
    · rw [if_pos h, if_pos h]
    · rw [if_neg h, if_neg h]
theorem alike_ends : ∀ l : List End, allAlike (l.map dE) = true
  | [] => rfl
  | x :: r => by
    have h : ∀ r : List End, alikeAs (dE x) (r.map dE) = true := fun r => by
      induction r with
      | nil => rfl
      | cons y r ih => simp only [List.map_cons, alikeAs, ih]; rfl
    simp only [List.map_cons, allAlike, h r, alike_ends r]
    rfl
theorem depth_ends : ∀ l : List End, PyData.depthAll (l.map dE) ≤ 3
  | [] => by simp [PyData.depthAll]
  | x :: r => by
    have := depth_ends r
    simp only [List.map_cons, PyData.depthAll, PyData.depth]
    omega
theorem min1_ends {x : End} {r : List End} : opD .min1 [.list ((x :: r).map dE)] = some (dE (leastE x r)) := by
  have h1 := alike_ends (x :: r)
  have h2 : ((x :: r).map dE).all notNone = true := by
    rw [List.all_eq_true]
    intro d hd
    obtain ⟨y, _, rfl⟩ := List.mem_map.mp hd
    rfl
  have h3 : PyData.depthAll ((x :: r).map dE) ≤ 60 := Nat.le_trans (depth_ends _) (by decide)
  simp only [List.map_cons] at h1 h2 h3 ⊢
  simp only [opD, dop_min1, guardO, h1, h2, decide_eq_true h3, Bool.and_self, if_true, minD_ends]
theorem allStr_dS : ∀ l : List (List Nat), allStr (l.map dS) = some l
  | [] => rfl
  | x :: r => by simp [allStr, allStr_dS r]
theorem joinL_nil : ∀ l : List (List Nat), joinL [] l = l.flatten
  | [] => rfl
  | [x] => by simp [joinL]
  | x :: y :: r => by simp [joinL, joinL_nil (y :: r)]
theorem flatten_one : ∀ l : List Nat, (l.map fun c => [c]).flatten = l
  | [] => rfl
  | x :: r => by simp [flatten_one r]
abbrev tailR : S := .seq (.asg (.name 5) (.meth .join (.lit (dS [])) (.cons (.lc [6] (.name 6) (.it .seq (.cons (.var 4) .nil)) (.lit (.bool true)) (.call 2 (.cons (.var 0) (.cons (.var 6) .nil)))) .nil))) (.append 1 (.op .mkt (.cons (.call 6 (.cons (.var 5) .nil)) (.cons (.op .min1 (.cons (.var 4) .nil)) (.cons (.op .tuple (.cons (.var 4) .nil)) .nil)))))
theorem letter_run {n : Nat} {ch : Chart} {e : End} (hs : Small ch) (hv : Val ch e) : run T (n + 1) 2 none [dC ch, dE e] = .ok (dS [letterAt ch e], []) := by
  obtain ⟨p, q⟩ := e
  obtain ⟨row, h1, h2⟩ := hv
  have hl : row.length ≤ lim := Nat.le_trans (hs row (List.mem_of_getElem? h1)) (by decide)
  refine m_letter_at h1 ?_ hl
  unfold letterAt
  simp only [List.getD_eq_getElem?_getD, h1, Option.getD_some]
  rw [List.getElem?_eq_getElem h2]; rfl
def roundD (ch : Chart) (x : End) (r : List End) : D := .tuple [dS (leastTurn (word ch (x :: r))), dE (leastE x r), .tuple ((x :: r).map dE)]
theorem tail_round {n : Nat} {ch : Chart} {fo : List D} {dd s3 s5 s6 s7 : Slot} {x : End} {r : List End} (hs : Small ch) (hv : ∀ e ∈ x :: r, Val ch e) (hl : (x :: r).length ≤ 1000) (hfo : fo.length < 1000) :
    denS (run T (n + 1)) tailR [.sh (dC ch), .own fo, dd, s3, .own ((x :: r).map dE), s5, s6, s7] = .nxt [.sh (dC ch), .own (fo ++ [roundD ch x r]), dd, s3, .sh (.list ((x :: r).map dE)), .sh (dS (word ch (x :: r))), s6, s7] := by
  have hm := den_mapG (call := run T (n + 1)) (tg := .name 6) (is := [6]) (src := .it .seq (.cons (.var 4) .nil)) (elt := .call 2 (.cons (.var 0) (.cons (.var 6) .nil))) (r0 := [.sh (dC ch), .own fo, dd, s3, .own ((x :: r).map dE), s5, s6, s7]) (r := [.sh (dC ch), .own fo, dd, s3, .sh (.list ((x :: r).map dE)), s5, s6, s7])
    (fun y => [.sh (dC ch), .own fo, dd, s3, .sh (.list ((x :: r).map dE)), s5, .sh y, s7]) (fun y => match y with | .tuple [.int a, .int b] => dS [letterAt ch (a.toNat, b.toNat)] | _ => .none) (xs := (x :: r).map dE)
    (by simp [e_it, e_cons, e_nil, e_var, getS, putS, itD]) (by rw [List.length_map]; exact Nat.le_trans hl (by decide))
    (fun y hy => by
      obtain ⟨e, he, rfl⟩ := List.mem_map.mp hy
      have hc := letter_run (n := n) hs (hv e he)
      refine ⟨rfl, rfl, rfl, ?_, rfl⟩
      simp [e_call, e_cons, e_nil, e_var, getS, hc])
  have ew : (((x :: r).map dE).map fun y => match y with | .tuple [.int a, .int b] => dS [letterAt ch (a.toNat, b.toNat)] | _ => .none) = ((word ch (x :: r)).map fun c => [c]).map dS := by
    simp [word, List.map_map, Function.comp_def]
  rw [ew] at hm
  have hwl : (word ch (x :: r)).length ≤ 1000 := by unfold word; rw [List.length_map]; exact hl
  have hj : opD .join [dS [], .list (((word ch (x :: r)).map fun c => [c]).map dS)] = some (dS (word ch (x :: r))) := by
    have hsum : (((word ch (x :: r)).map fun c => [c]).map List.length).sum = (word ch (x :: r)).length := by
      generalize word ch (x :: r) = l
      induction l with
      | nil => rfl
      | cons a l ih => simp only [List.map_cons, List.sum_cons, ih, List.length_cons, List.length_nil]; omega
    simp only [opD, dop_join, allStr_dS, Option.bind_some, guardO, toL_st, hsum, List.length_nil, Nat.mul_zero, Nat.add_zero, joinL_nil, flatten_one]
    rw [if_pos (by rw [decide_eq_true_eq]; exact Nat.le_trans hwl (by decide))]
  have hlt := m_least_turn (n := n) hwl (by simp [word])
  have hmin := min1_ends (x := x) (r := r)
  rw [denS_seq (r1 := [.sh (dC ch), .own fo, dd, s3, .sh (.list ((x :: r).map dE)), .sh (dS (word ch (x :: r))), s6, s7])]
  · have g : fo.length < 1000000 := by omega
    simp only [List.map_cons] at hmin
    simp only [denS, e_op, e_cons, e_nil, e_call, e_var, getS_0, getS_s, isOwnL, if_true, R.ok_bind, hlt, List.map_cons, hmin, R.opt_some]
    simp [opD, dop_tuple, dop_mkt, guardO, lim, nd, g, roundD, putS, getS]
  · simp only [denS, e_meth, e_lit, R.ok_bind, e_cons, e_nil, hm, hj, R.opt_some, bindT]
    rfl
end Bm
end
section
set_option Elab.async false
set_option linter.all false
set_option maxRecDepth 100000
set_option maxHeartbeats 1000000
/-! rounds, whole -/
namespace Bm
open PySem
theorem nodup_le {α : Type} [DecidableEq α] : ∀ {l m : List α}, l.Nodup → (∀ x ∈ l, x ∈ m) → l.length ≤ m.length
  | [], m, _, _ => Nat.zero_le _
  | a :: l, m, h, hs => by
    have ha := hs a List.mem_cons_self
    have hd := List.nodup_cons.mp h
    have := nodup_le (m := m.erase a) hd.2 fun x hx => by
      have hne : x ≠ a := fun z => hd.1 (z ▸ hx)
      exact (List.mem_erase_of_ne hne).mpr (hs x (List.mem_cons_of_mem _ hx))
    have hl := List.length_erase_of_mem ha
    have hp : 0 < m.length := List.length_pos_of_mem ha
    simp only [List.length_cons]
    omega
def walksFrom (ch : Chart) : List End → List End → List (List End) → Option (List End × List (List End))
  | [], seen, fo => some (seen, fo)
  | e :: t, seen, fo => if e ∈ seen then walksFrom ch t seen fo else (goOn ch 200 seen [] e).bind fun p => walksFrom ch t p.1 (fo ++ [p.2.1])
theorem mem_endsFrom {e : End} : ∀ {rows : Chart} {k : Nat}, e ∈ endsFrom k rows ↔ k ≤ e.1 ∧ ∃ row, rows[e.1 - k]? = some row ∧ e.2 < row.length
  | [], k => by simp [endsFrom]
  | row :: rows, k => by
    rw [endsFrom, List.mem_append, mem_endsFrom (rows := rows) (k := k + 1)]
    constructor
    · rintro (h | ⟨h1, row', h2, h3⟩)
      · obtain ⟨q, hq, rfl⟩ := List.mem_map.mp h
        exact ⟨Nat.le_refl _, row, by simp, List.mem_range.mp hq⟩
      · refine ⟨by omega, row', ?_, h3⟩
        have : e.1 - k = (e.1 - (k + 1)) + 1 := by omega
        rw [this, List.getElem?_cons_succ]; exact h2
    · rintro ⟨h1, row', h2, h3⟩
      by_cases hk : e.1 = k
      · rw [hk, Nat.sub_self] at h2
        simp only [List.getElem?_cons_zero, Option.some.injEq] at h2
        subst h2
        exact .inl (List.mem_map.mpr ⟨e.2, List.mem_range.mpr h3, by rw [← hk]⟩)
      · refine .inr ⟨by omega, row', ?_, h3⟩
        have : e.1 - k = (e.1 - (k + 1)) + 1 := by omega
        rw [this, List.getElem?_cons_succ] at h2; exact h2
theorem mem_ends {ch : Chart} {e : End} : e ∈ ends ch ↔ Val ch e := by
  unfold Val
  rw [mem_endsFrom]
  simp
theorem nodup_endsFrom : ∀ (rows : Chart) (k : Nat), (endsFrom k rows).Nodup
  | [], k => List.nodup_nil
  | row :: rows, k => by
    rw [endsFrom]
    refine List.nodup_append.mpr ⟨?_, nodup_endsFrom rows (k + 1), fun x hx y hy => ?_⟩
    · have := List.nodup_range (n := row.length)
      rw [List.nodup_iff_pairwise_ne, List.pairwise_map]
      exact this.imp fun h z => h (by cases z; rfl)
    · obtain ⟨q, _, rfl⟩ := List.mem_map.mp hx
      have := (mem_endsFrom.mp hy).1
      intro z
      rw [← z] at this
      exact absurd this (by show ¬ k + 1 ≤ k; omega)
/-- the walk w from e to e' -/
def Path (ch : Chart) : List End → End → End → Prop
  | [], e, e' => e = e'
  | x :: w, e, e' => x = e ∧ Path ch w (phi ch e) e'
theorem goOn_spec {ch : Chart} : ∀ (m : Nat) (seen sm seen' sm' : List End) (e e' : End), goOn ch m seen sm e = some (seen', sm', e') → seen.Nodup → Val ch e →
    ∃ w, seen' = seen ++ w ∧ sm' = sm ++ w ∧ Path ch w e e' ∧ seen'.Nodup ∧ e' ∈ seen' ∧ (∀ x ∈ w, Val ch x) ∧ (e ∉ seen → w ≠ [])
  | 0, _, _, _, _, _, _, h, _, _ => by cases h
  | m + 1, seen, sm, seen', sm', e, e', h, hn, hv => by
    simp only [goOn] at h
    by_cases he : e ∈ seen
    · rw [if_pos he] at h
      cases h
      exact ⟨[], by simp, by simp, rfl, hn, he, (fun x hx => by cases hx), fun z => absurd he z⟩
    · rw [if_neg he] at h
      have hn' : (seen ++ [e]).Nodup := List.nodup_append.mpr ⟨hn, by simp, fun x hx y hy => by rw [List.mem_singleton.mp hy]; exact fun z => he (z ▸ hx)⟩
      obtain ⟨w, h1, h2, h3, h4, h5, h6, _⟩ := goOn_spec m _ _ _ _ _ _ h hn' (phi_val hv)
      refine ⟨e :: w, by rw [h1, List.append_assoc]; rfl, by rw [h2, List.append_assoc]; rfl, ⟨rfl, h3⟩, h4, h5, fun x hx => ?_, fun _ z => by cases z⟩
      rcases List.mem_cons.mp hx with z | z
      · rw [z]; exact hv
      · exact h6 x z
theorem goOn_some {ch : Chart} : ∀ (m : Nat) (seen sm : List End) (e : End), seen.Nodup → (∀ x ∈ seen, Val ch x) → Val ch e → (ends ch).length < seen.length + m → ∃ p, goOn ch m seen sm e = some p
  | 0, seen, sm, e, hn, hs, hv, h => by
    have := nodup_le hn (m := ends ch) fun x hx => mem_ends.mpr (hs x hx)
    omega
  | m + 1, seen, sm, e, hn, hs, hv, h => by
    simp only [goOn]
    by_cases he : e ∈ seen
    · rw [if_pos he]; exact ⟨_, rfl⟩
    · rw [if_neg he]
      refine goOn_some m _ _ _ (List.nodup_append.mpr ⟨hn, by simp, fun x hx y hy => by rw [List.mem_singleton.mp hy]; exact fun z => he (z ▸ hx)⟩) (fun x hx => ?_) (phi_val hv) (by simp only [List.length_append, List.length_cons, List.length_nil]; omega)
      rcases List.mem_append.mp hx with z | z
      · exact hs x z
      · rw [List.mem_singleton.mp z]; exact hv
def roundOf (ch : Chart) : List End → D
  | [] => .none
  | x :: r => roundD ch x r
abbrev bodyR : S := .ifs condSeen (.seq (.asgM 4 1 (.op .mkl .nil)) (.seq (.while_ 200 condSeen bodySeen) tailR)) .skip
theorem step_round {n : Nat} {ch : Chart} {seen seen' w : List End} {e e' : End} {fo : List (List End)} {s4 s5 s6 s7 : Slot} (hs : Small ch) (hv : Val ch e) (he : e ∉ seen) (hn : seen.Nodup) (hsv : ∀ x ∈ seen, Val ch x) (hE : (ends ch).length ≤ 100) (hf : fo.length ≤ seen.length)
    (h : goOn ch 200 seen [] e = some (seen', w, e')) :
    denS (run T (n + 3)) bodyR [.sh (dC ch), .own (fo.map (roundOf ch)), .dicT (dSeen seen), .sh (dE e), s4, s5, s6, s7] = .nxt [.sh (dC ch), .own ((fo ++ [w]).map (roundOf ch)), .dicT (dSeen seen'), .sh (dE e'), .sh (.list (w.map dE)), .sh (dS (word ch w)), s6, s7] := by
  have hsl := nodup_le hn (m := ends ch) fun x hx => mem_ends.mpr (hsv x hx)
  obtain ⟨w', h1, h2, h3, h4, h5, h6, h7⟩ := goOn_spec 200 seen [] seen' w e e' h hn hv
  simp only [List.nil_append] at h2
  subst h2
  have hwl : w.length ≤ 100 := by
    have h8 := nodup_le (List.nodup_append.mp (h1 ▸ h4)).2.1 (m := ends ch) fun x hx => mem_ends.mpr (h6 x hx)
    omega
  have hwh := while_seen (n := n) (f := .own (fo.map (roundOf ch))) (s5 := s5) (s6 := s6) (s7 := s7) hs 200 seen [] seen' w e e' hv h (by omega) (by simp)
  cases w with
  | nil => exact absurd rfl (h7 he)
  | cons x r =>
    have ht := tail_round (n := n + 2) (ch := ch) (fo := fo.map (roundOf ch)) (dd := .dicT (dSeen seen')) (s3 := .sh (dE e')) (s5 := s5) (s6 := s6) (s7 := s7) (x := x) (r := r) hs h6 (by omega) (by rw [List.length_map]; omega)
    have hc := cond_seen (call := run T (n + 3)) (c := .sh (dC ch)) (f := .own (fo.map (roundOf ch))) (s4 := s4) (s5 := s5) (s6 := s6) (s7 := s7) (seen := seen) (e := e)
    rw [decide_eq_false he] at hc
    have ea : denS (run T (n + 3)) (.asgM 4 1 (.op .mkl .nil)) [.sh (dC ch), .own (fo.map (roundOf ch)), .dicT (dSeen seen), .sh (dE e), s4, s5, s6, s7] = .nxt [.sh (dC ch), .own (fo.map (roundOf ch)), .dicT (dSeen seen), .sh (dE e), .own [], s5, s6, s7] := by
      simp [denS, e_op, e_nil, opD, dop_mkl, guardO, lim, slotM, putS]
    have ei : denS (run T (n + 3)) bodyR [.sh (dC ch), .own (fo.map (roundOf ch)), .dicT (dSeen seen), .sh (dE e), s4, s5, s6, s7] = denS (run T (n + 3)) (.seq (.asgM 4 1 (.op .mkl .nil)) (.seq (.while_ 200 condSeen bodySeen) tailR)) [.sh (dC ch), .own (fo.map (roundOf ch)), .dicT (dSeen seen), .sh (dE e), s4, s5, s6, s7] := by
      show (match den (run T (n + 3)) condSeen _ with | .ok (.bool true, r1) => _ | .ok (.bool false, r1) => _ | .exc c => _ | _ => _) = _
      rw [hc]
      rfl
    have hwh' : denS (run T (n + 3)) (.while_ 200 condSeen bodySeen) [.sh (dC ch), .own (fo.map (roundOf ch)), .dicT (dSeen seen), .sh (dE e), .own [], s5, s6, s7] = .nxt [.sh (dC ch), .own (fo.map (roundOf ch)), .dicT (dSeen seen'), .sh (dE e'), .own ((x :: r).map dE), s5, s6, s7] := by
      simp only [denS]; exact hwh
    rw [ei, denS_seq ea, denS_seq (r1 := [.sh (dC ch), .own (fo.map (roundOf ch)), .dicT (dSeen seen'), .sh (dE e'), .own ((x :: r).map dE), s5, s6, s7]) hwh', ht, List.map_append]
    rfl
end Bm
end
section
set_option Elab.async false
set_option linter.all false
set_option maxRecDepth 100000
set_option maxHeartbeats 1000000
/-! rounds, whole -/
namespace Bm
open PySem
theorem for_fold {α σ : Type} {emb : α → D} {bind : D → Env → Option Env} {body : Env → RS} (Rel : σ → Env → Prop) (f : σ → α → σ) : ∀ (xs : List α) (s : σ) (r : Env), Rel s r →
    (∀ s a r, a ∈ xs → Rel s r → ∃ r1 r2, bind (emb a) r = some r1 ∧ body r1 = .nxt r2 ∧ Rel (f s a) r2) → ∃ r', forLoop bind body (xs.map emb) r = .nxt r' ∧ Rel (xs.foldl f s) r'
  | [], s, r, h, _ => ⟨r, rfl, h⟩
  | a :: xs, s, r, h, st => by
    obtain ⟨r1, r2, h1, h2, h3⟩ := st s a r List.mem_cons_self h
    obtain ⟨r', e, h4⟩ := for_fold (emb := emb) Rel f xs (f s a) r2 h3 fun s a r ha => st s a r (List.mem_cons_of_mem _ ha)
    exact ⟨r', by rw [List.map_cons, forLoop_cons h1 h2, e], h4⟩
/-- a step over one end: its round is walked if it is not seen -/
def wstep (ch : Chart) (s : List End × List (List End)) (e : End) : List End × List (List End) :=
  if e ∈ s.1 then s else match goOn ch 200 s.1 [] e with
    | some p => (p.1, s.2 ++ [p.2.1])
    | none => s
def walksOf (ch : Chart) (es : List End) : List End × List (List End) := es.foldl (wstep ch) ([], [])
def walks (ch : Chart) : List (List End) := (walksOf ch (ends ch)).2
/-- what holds between two ends -/
structure WOkS (ch : Chart) (s : List End × List (List End)) : Prop where
  nd : s.1.Nodup
  val : ∀ x ∈ s.1, Val ch x
  len : s.2.length ≤ s.1.length
  fl : s.2.flatten = s.1
  ne : ∀ w ∈ s.2, w ≠ []
theorem wstep_ok {ch : Chart} (hE : (ends ch).length ≤ 100) {s : List End × List (List End)} {e : End} (h : WOkS ch s) (hv : Val ch e) : WOkS ch (wstep ch s e) := by
  unfold wstep
  by_cases he : e ∈ s.1
  · rw [if_pos he]; exact h
  · rw [if_neg he]
    obtain ⟨p, hp⟩ := goOn_some (ch := ch) 200 s.1 [] e h.nd h.val hv (by omega)
    rw [hp]
    obtain ⟨seen', w, e'⟩ := p
    obtain ⟨w', h1, h2, h3, h4, h5, h6, h7⟩ := goOn_spec 200 s.1 [] seen' w e e' hp h.nd hv
    simp only [List.nil_append] at h2
    subst h2
    have hw := h7 he
    refine ⟨h4, fun x hx => ?_, ?_, ?_, fun v hv => ?_⟩
    · rw [h1] at hx
      rcases List.mem_append.mp hx with z | z
      · exact h.val x z
      · exact h6 x z
    · show (s.2 ++ [w]).length ≤ seen'.length
      rw [h1]
      simp only [List.length_append, List.length_cons, List.length_nil]
      have := h.len
      have : 0 < w.length := List.length_pos_iff.mpr hw
      omega
    · show (s.2 ++ [w]).flatten = seen'
      rw [h1, List.flatten_append, h.fl]; simp
    · rcases List.mem_append.mp hv with z | z
      · exact h.ne v z
      · rw [List.mem_singleton.mp z]; exact hw
theorem wstart_ok {ch : Chart} : WOkS ch ([], []) := ⟨List.nodup_nil, (fun x hx => by cases hx), Nat.le_refl _, rfl, (fun w hw => by cases hw)⟩
theorem rounds_loop {n : Nat} {ch : Chart} (hs : Small ch) (hE : (ends ch).length ≤ 100) : ∃ s3 s4 s5 s6 s7,
    denS (run T (n + 3)) fo_rounds_1 [.sh (dC ch), .own [], .dicT [], .un, .un, .un, .un, .un] = .nxt [.sh (dC ch), .own ((walks ch).map (roundOf ch)), .dicT (dSeen (walksOf ch (ends ch)).1), s3, s4, s5, s6, s7] := by
  have hm := m_ends_in (n := n + 2) (ch := ch) (by omega)
  have src : den (run T (n + 3)) (.it .seq (.cons (.call 1 (.cons (.var 0) .nil)) .nil)) [.sh (dC ch), .own [], .dicT [], .un, .un, .un, .un, .un] = .ok (.list ((ends ch).map dE), [.sh (dC ch), .own [], .dicT [], .un, .un, .un, .un, .un]) := by
    simp [e_it, e_call, e_cons, e_nil, e_var, getS, hm, itD]
  obtain ⟨r', e, g, s3, s4, s5, s6, s7, hr⟩ := for_fold (emb := dE) (bind := bindT (.name 3)) (body := denS (run T (n + 3)) fb_rounds_1)
    (fun (s : List End × List (List End)) r => WOkS ch s ∧ ∃ s3 s4 s5 s6 s7, r = [.sh (dC ch), .own (s.2.map (roundOf ch)), .dicT (dSeen s.1), s3, s4, s5, s6, s7]) (wstep ch) (ends ch) ([], []) [.sh (dC ch), .own [], .dicT [], .un, .un, .un, .un, .un]
    ⟨wstart_ok, .un, .un, .un, .un, .un, rfl⟩ (fun s a r ha ⟨g, s3, s4, s5, s6, s7, hr⟩ => by
      subst hr
      have hv := mem_ends.mp ha
      refine ⟨[.sh (dC ch), .own (s.2.map (roundOf ch)), .dicT (dSeen s.1), .sh (dE a), s4, s5, s6, s7], ?_⟩
      by_cases he : a ∈ s.1
      · refine ⟨[.sh (dC ch), .own (s.2.map (roundOf ch)), .dicT (dSeen s.1), .sh (dE a), s4, s5, s6, s7], rfl, ?_, ?_⟩
        · have hc := cond_seen (call := run T (n + 3)) (c := .sh (dC ch)) (f := .own (s.2.map (roundOf ch))) (s4 := s4) (s5 := s5) (s6 := s6) (s7 := s7) (seen := s.1) (e := a)
          rw [decide_eq_true he] at hc
          show (match den (run T (n + 3)) condSeen _ with | .ok (.bool true, r1) => _ | .ok (.bool false, r1) => _ | .exc c => _ | _ => _) = _
          rw [hc]
          rfl
        · have : wstep ch s a = s := by unfold wstep; rw [if_pos he]
          rw [this]
          exact ⟨g, _, _, _, _, _, rfl⟩
      · obtain ⟨p, hp⟩ := goOn_some (ch := ch) 200 s.1 [] a g.nd g.val hv (by omega)
        obtain ⟨seen', w, e'⟩ := p
        have st := step_round (n := n) (fo := s.2) (s4 := s4) (s5 := s5) (s6 := s6) (s7 := s7) hs hv he g.nd g.val hE g.len hp
        have hw : wstep ch s a = (seen', s.2 ++ [w]) := by unfold wstep; rw [if_neg he, hp]
        exact ⟨_, rfl, st, by rw [hw]; exact ⟨hw ▸ wstep_ok hE g hv, _, _, _, _, _, rfl⟩⟩)
  refine ⟨s3, s4, s5, s6, s7, ?_⟩
  rw [denS_for src, e, hr]
  rfl
end Bm
end
section
set_option Elab.async false
set_option linter.all false
set_option maxRecDepth 100000
set_option maxHeartbeats 1000000
/-! sorting, typed; rounds -/
namespace Bm
open PySem
def insT {α : Type} (le : α → α → Bool) (x : α) : List α → List α
  | [] => [x]
  | y :: r => if le x y then x :: y :: r else y :: insT le x r
def isortT {α : Type} (le : α → α → Bool) : List α → List α
  | [] => []
  | x :: r => insT le x (isortT le r)
theorem ins_map {α : Type} {le : D → D → Bool} {emb : α → D} (x : α) : ∀ l : List α, ins le (emb x) (l.map emb) = (insT (fun a b => le (emb a) (emb b)) x l).map emb
  | [] => rfl
  | y :: r => by
    simp only [List.map_cons, ins, insT, ins_map x r]
    split <;> simp
theorem isort_map {α : Type} {le : D → D → Bool} {emb : α → D} : ∀ l : List α, isort le (l.map emb) = (isortT (fun a b => le (emb a) (emb b)) l).map emb
  | [] => rfl
  | x :: r => by simp only [List.map_cons, isort, isortT, isort_map r, ins_map]
theorem insT_perm {α : Type} {le : α → α → Bool} (x : α) : ∀ l : List α, (insT le x l).Perm (x :: l)
  | [] => .refl _
  | y :: r => by
    simp only [insT]
    split
    · exact .refl _
    · exact ((insT_perm x r).cons y).trans (.swap x y r)
theorem isortT_perm {α : Type} {le : α → α → Bool} : ∀ l : List α, (isortT le l).Perm l
  | [] => .refl _
  | x :: r => (insT_perm x _).trans ((isortT_perm r).cons x)
theorem isortT_len {α : Type} {le : α → α → Bool} (l : List α) : (isortT le l).length = l.length := (isortT_perm l).length_eq
theorem alikeAs_map {α : Type} {emb : α → D} {x : D} : ∀ l : List α, (∀ a ∈ l, PySem.W.alike x (emb a) = true ∧ PySem.W.alike (emb a) x = true) → alikeAs x (l.map emb) = true
  | [], _ => rfl
  | y :: r, h => by
    have h1 := h y List.mem_cons_self
    simp only [List.map_cons, alikeAs, h1.1, h1.2, alikeAs_map r fun a ha => h a (List.mem_cons_of_mem _ ha), Bool.and_self]
theorem allAlike_map {α : Type} {emb : α → D} (h : ∀ a b, PySem.W.alike (emb a) (emb b) = true) : ∀ l : List α, allAlike (l.map emb) = true
  | [] => rfl
  | x :: r => by simp only [List.map_cons, allAlike, h x x, alikeAs_map r fun a _ => ⟨h x a, h a x⟩, allAlike_map h r, Bool.and_self]
theorem depthAll_map {α : Type} {emb : α → D} {k : Nat} (h : ∀ a, (emb a).depth ≤ k) : ∀ l : List α, PyData.depthAll (l.map emb) ≤ k
  | [] => by simp [PyData.depthAll]
  | x :: r => by
    have := depthAll_map h r
    have := h x
    simp only [List.map_cons, PyData.depthAll]
    omega
def leastOf : List End → End
  | [] => (0, 0)
  | x :: r => leastE x r
def roundV (ch : Chart) (w : List End) : D := .tuple [dS (leastTurn (word ch w)), dE (leastOf w), .tuple (w.map dE)]
theorem roundOf_V {ch : Chart} {w : List End} (h : w ≠ []) : roundOf ch w = roundV ch w := by
  cases w with
  | nil => exact absurd rfl h
  | cons x r => rfl
theorem alikeAll_ends : ∀ a b : List End, PySem.W.alikeAll (a.map dE) (b.map dE) = true
  | [], _ => by cases (List.map dE ‹_›) <;> rfl
  | _ :: _, [] => rfl
  | x :: a, y :: b => by
    simp only [List.map_cons, PySem.W.alikeAll, alikeAll_ends a b, Bool.and_true]
    rfl
theorem alike_roundV (ch : Chart) (a b : List End) : PySem.W.alike (roundV ch a) (roundV ch b) = true := by
  have h := alikeAll_ends a b
  simp only [roundV, PySem.W.alike, PySem.W.alikeAll, h, Bool.and_self, Bool.and_true]
theorem depth_roundV (ch : Chart) (a : List End) : (roundV ch a).depth ≤ 10 := by
  have := depth_ends a
  simp only [roundV, PyData.depth, PyData.depthAll]
  omega
/-- the rounds in order -/
def rnds (ch : Chart) : List (List End) := isortT (fun a b => dle (roundV ch a) (roundV ch b)) (walks ch)
theorem rnds_perm (ch : Chart) : (rnds ch).Perm (walks ch) := isortT_perm _
def landT (ch : Chart) (w : List End) : List Nat := leastTurn (word ch w)
theorem sorted_rounds {ch : Chart} {ws : List (List End)} (hl : ws.length ≤ 1000) : dop_sorted [.list (ws.map (roundV ch))] = some (.list ((isortT (fun a b => dle (roundV ch a) (roundV ch b)) ws).map (roundV ch))) := by
  have h1 := allAlike_map (emb := roundV ch) (alike_roundV ch) ws
  have h2 : sortable (ws.map (roundV ch)) = true := by
    unfold sortable
    rw [Bool.or_eq_true]
    left
    rw [List.all_eq_true]
    intro d hd
    obtain ⟨w, _, rfl⟩ := List.mem_map.mp hd
    rfl
  have h3 : PyData.depthAll (ws.map (roundV ch)) ≤ 60 := Nat.le_trans (depthAll_map (depth_roundV ch) ws) (by decide)
  have h4 : (ws.map (roundV ch)).length ≤ lim := by rw [List.length_map]; exact Nat.le_trans hl (by decide)
  simp only [dop_sorted, guardO, h1, h2, decide_eq_true h3, decide_eq_true h4, Bool.and_self, if_true, isort_map]
theorem walksOf_ok {ch : Chart} (hE : (ends ch).length ≤ 100) : ∀ es : List End, (∀ e ∈ es, Val ch e) → ∀ s, WOkS ch s → WOkS ch (es.foldl (wstep ch) s)
  | [], _, _, h => h
  | e :: es, hv, s, h => walksOf_ok hE es (fun x hx => hv x (List.mem_cons_of_mem _ hx)) _ (wstep_ok hE h (hv e List.mem_cons_self))
theorem walks_ok {ch : Chart} (hE : (ends ch).length ≤ 100) : WOkS ch (walksOf ch (ends ch)) := walksOf_ok hE _ (fun e he => mem_ends.mp he) _ wstart_ok
theorem walks_len {ch : Chart} (hE : (ends ch).length ≤ 100) : (walks ch).length ≤ 100 := by
  have h := walks_ok hE
  have h1 := h.len
  have h2 := nodup_le h.nd (m := ends ch) fun x hx => mem_ends.mpr (h.val x hx)
  exact Nat.le_trans h1 (Nat.le_trans h2 hE)
def dropMid : D → D
  | .tuple [a, _, c] => .tuple [a, c]
  | _ => .none
theorem m_rounds {n : Nat} {ch : Chart} (hs : Small ch) (hE : (ends ch).length ≤ 100) : run T (n + 4) 7 none [dC ch] = .ok (.list ((rnds ch).map fun w => .tuple [dS (landT ch w), .tuple (w.map dE)]), []) := by
  rw [run_fn T_rounds rfl rfl]
  unfold b_rounds
  obtain ⟨s3, s4, s5, s6, s7, e⟩ := rounds_loop (n := n) hs hE
  have hl := walks_len hE
  have hne := (walks_ok hE).ne
  have eV : (walks ch).map (roundOf ch) = (walks ch).map (roundV ch) := List.map_congr_left fun w hw => roundOf_V (hne w hw)
  rw [eV] at e
  rw [denS_seq (r1 := [.sh (dC ch), .own [], .dicT [], .un, .un, .un, .un, .un]) (by simp [denS, e_op, e_cons, e_nil, e_lit, opD, dop_mkl, guardO, lim, putPar, slotM, putS]), denS_seq e]
  have hsrt := sorted_rounds (ch := ch) (ws := walks ch) (by omega)
  have src : den (run T (n + 3)) (.it .seq (.cons (.op .sorted (.cons (.var 1) .nil)) .nil)) [.sh (dC ch), .own ((walks ch).map (roundV ch)), .dicT (dSeen (walksOf ch (ends ch)).1), s3, s4, s5, s6, s7]
      = .ok (.list ((rnds ch).map (roundV ch)), [.sh (dC ch), .sh (.list ((walks ch).map (roundV ch))), .dicT (dSeen (walksOf ch (ends ch)).1), s3, s4, s5, s6, s7]) := by
    simp [e_it, e_op, e_cons, e_nil, e_var, getS, putS, opD, hsrt, itD, rnds]
  have hm := den_mapG (call := run T (n + 3)) (tg := .tup [5, 7, 4]) (is := [5, 7, 4]) (elt := ce_rounds_2) (fun x => match x with | .tuple [a, b, c] => [.sh (dC ch), .sh (.list ((walks ch).map (roundV ch))), .dicT (dSeen (walksOf ch (ends ch)).1), s3, .sh c, .sh a, s6, .sh b] | _ => []) dropMid src
    (by rw [List.length_map, rnds, isortT_len]; exact Nat.le_trans hl (by decide)) (fun x hx => by
      obtain ⟨w, _, rfl⟩ := List.mem_map.mp hx
      refine ⟨rfl, rfl, rfl, ?_, rfl⟩
      simp [roundV, dropMid, e_op, e_cons, e_nil, e_var, getS, opD, dop_mkt, guardO, lim, nd])
  simp only [denS, hm, endOf, List.map_map]
  rfl
end Bm
end
section
set_option Elab.async false
set_option linter.all false
set_option maxRecDepth 100000
set_option maxHeartbeats 1000000
/-! drawings, letters, pairs -/
namespace Bm
open PySem
theorem e_and {call : CallS} {a b : E} {r : Env} : den call (.and a b) r = (den call a r).bind fun (x, r1) => match x with
    | .bool true => den call b r1
    | .bool false => .ok (.bool false, r1)
    | _ => .stuck := rfl
theorem e_or {call : CallS} {a b : E} {r : Env} : den call (.or a b) r = (den call a r).bind fun (x, r1) => match x with
    | .bool true => .ok (.bool true, r1)
    | .bool false => den call b r1
    | _ => .stuck := rfl
theorem e_ife {call : CallS} {c a b : E} {r : Env} : den call (.ife c a b) r = (den call c r).bind fun (x, r1) => match x with
    | .bool true => den call a r1
    | .bool false => den call b r1
    | _ => .stuck := rfl
theorem e_chain {call : CallS} {o1 o2 : Op} {a b c : E} {r : Env} : den call (.chain o1 o2 a b c) r = (den call a r).bind fun (x, r1) => (den call b r1).bind fun (y, r2) => match opD o1 [x, y] with
    | some (.bool true) => (den call c r2).bind fun (z, r3) => (R.opt (opD o2 [y, z])).bind fun d => .ok (d, r3)
    | some (.bool false) => .ok (.bool false, r2)
    | _ => .stuck := rfl
theorem e_slcB {call : CallS} {a lo hi : E} {r : Env} : den call (.slcB a lo hi) r = (den call a r).bind fun (x, r1) => (den call lo r1).bind fun (y, r2) => if isI y then (den call hi r2).bind fun (z, r3) => if isI z then (R.opt (opD .slice [x, y, z])).bind fun d => .ok (d, r3) else .stuck else .stuck := rfl
theorem e_peek {call : CallS} {a : E} {r : Env} : den call (.peek a) r = if noDic r then match den call a (frzE r) with
    | .ok (d, _) => if noList d then .ok (d, r) else .stuck
    | _ => .stuck
    else .stuck := rfl
theorem e_oitem {call : CallS} {i : Nat} {a : E} {r : Env} : den call (.oitem i a) r = if isOwnL (getS r i) then (den call a r).bind fun (x, r1) => match x, getS r1 i with
    | .int k, .own l => (R.opt ((ixOf l.length k).bind fun j => l[j]?)).bind fun d => .ok (d, r1)
    | _, _ => .stuck
    else .stuck := rfl
theorem e_callIO {call : CallS} {f i : Nat} {a : E} {r : Env} : den call (.callIO f i a) r = if isOwnL (getS r i) then (den call a r).bind fun (x, r1) => match x, getS r1 i with
    | .list l, .own m => match call f (some m) l with
      | .ok (d, m') => .ok (d, putS r1 i (.own m'))
      | _ => .stuck
    | _, _ => .stuck
    else .stuck := rfl
theorem e_told {call : CallS} {a : E} {r : Env} : den call (.told a) r = match den call a (hidE r) with
    | .ok (d, _) => .ok (d, r)
    | .exc c => if c < 13 then .ok (.tuple [.str (Str.ofString "error"), .str (excName c)], r) else .stuck
    | .stuck => .stuck := rfl
theorem fdiv_2 (a : Nat) : dop_fdiv [dI a, .int 2] = some (dI (a / 2)) := by
  simp only [dop_fdiv, guardO]
  rw [if_pos (by rw [decide_eq_true_eq]; exact ⟨by decide, by decide +kernel⟩)]
  rfl
/-! sorted lists -/
theorem insT_pw {α : Type} {le : α → α → Bool} (tot : ∀ a b, le a b = true ∨ le b a = true) (tr : ∀ a b c, le a b = true → le b c = true → le a c = true) (x : α) : ∀ l : List α, l.Pairwise (fun a b => le a b = true) → (insT le x l).Pairwise (fun a b => le a b = true)
  | [], _ => by simp [insT]
  | y :: r, h => by
    have hy := List.pairwise_cons.mp h
    simp only [insT]
    by_cases hxy : le x y = true
    · rw [if_pos hxy]
      refine List.pairwise_cons.mpr ⟨fun z hz => ?_, h⟩
      rcases List.mem_cons.mp hz with rfl | hz
      · exact hxy
      · exact tr _ _ _ hxy (hy.1 z hz)
    · rw [if_neg hxy]
      refine List.pairwise_cons.mpr ⟨fun z hz => ?_, insT_pw tot tr x r hy.2⟩
      rcases List.mem_cons.mp ((insT_perm x r).subset hz) with rfl | hz
      · exact (tot z y).resolve_left hxy
      · exact hy.1 z hz
theorem isortT_pw {α : Type} {le : α → α → Bool} (tot : ∀ a b, le a b = true ∨ le b a = true) (tr : ∀ a b c, le a b = true → le b c = true → le a c = true) : ∀ l : List α, (isortT le l).Pairwise (fun a b => le a b = true)
  | [] => List.Pairwise.nil
  | x :: r => insT_pw tot tr x _ (isortT_pw tot tr r)
theorem isortT_eq_iff {α : Type} {le : α → α → Bool} (tot : ∀ a b, le a b = true ∨ le b a = true) (tr : ∀ a b c, le a b = true → le b c = true → le a c = true) (asy : ∀ a b, le a b = true → le b a = true → a = b) (l m : List α) : isortT le l = isortT le m ↔ l.Perm m := by
  constructor
  · intro h
    exact (isortT_perm l).symm.trans (h ▸ isortT_perm m)
  · intro h
    exact List.Perm.eq_of_pairwise (fun a b _ _ => asy a b) (isortT_pw tot tr l) (isortT_pw tot tr m) ((isortT_perm l).trans (h.trans (isortT_perm m).symm))
theorem dle_str (a b : List Nat) : dle (dS a) (dS b) = !decide (b < a) := by
  unfold dle
  rw [PySem.W.dataLt_str]
  show (!decide (toL (st b) < toL (st a))) = _
  rw [toL_st, toL_st]
/-- letters by their codes -/
def leC (a b : Nat) : Bool := decide (a ≤ b)
theorem dle_char (a b : Nat) : dle (dS [a]) (dS [b]) = leC a b := by
  rw [dle_str]
  unfold leC
  by_cases h : a ≤ b
  · rw [decide_eq_true h, decide_eq_false]; rfl
    intro z
    have := List.cons_lt_cons_iff.mp z
    rcases this with z | ⟨z1, z2⟩
    · omega
    · exact List.not_lt_nil _ z2
  · rw [decide_eq_false h, decide_eq_true]; rfl
    exact List.cons_lt_cons_iff.mpr (.inl (by omega))
theorem isort_chars (l : List Nat) : isort dle (chars l) = chars (isortT leC l) := by
  unfold chars
  rw [isort_map]
  congr 1
  congr 1
  funext a b
  exact dle_char a b
theorem leC_tot (a b : Nat) : leC a b = true ∨ leC b a = true := by unfold leC; simp; omega
theorem leC_tr (a b c : Nat) (h : leC a b = true) (h' : leC b c = true) : leC a c = true := by unfold leC at *; simp at *; omega
theorem leC_asy (a b : Nat) (h : leC a b = true) (h' : leC b a = true) : a = b := by unfold leC at *; simp at *; omega
/-! equality of data -/
theorem eqv_str (a b : List Nat) : PyData.eqv (dS a) (dS b) = decide (a = b) := by
  simp only [PyData.eqv]
  by_cases h : a = b
  · subst h; simp
  · rw [decide_eq_false h]
    simp only [beq_eq_false_iff_ne, ne_eq]
    exact fun z => h (st_inj z)
theorem eqvAll_map {α : Type} [DecidableEq α] {emb : α → D} (h : ∀ a b, PyData.eqv (emb a) (emb b) = decide (a = b)) : ∀ l m : List α, PyData.eqvAll (l.map emb) (m.map emb) = decide (l = m)
  | [], [] => by simp [PyData.eqvAll]
  | [], _ :: _ => by simp [PyData.eqvAll]
  | _ :: _, [] => by simp [PyData.eqvAll]
  | x :: l, y :: m => by
    simp only [List.map_cons, PyData.eqvAll, h, eqvAll_map h l m]
    by_cases hx : x = y
    · subst hx; simp
    · simp [hx]
theorem eqv_lst {α : Type} [DecidableEq α] {emb : α → D} (h : ∀ a b, PyData.eqv (emb a) (emb b) = decide (a = b)) (l m : List α) : PyData.eqv (.list (l.map emb)) (.list (m.map emb)) = decide (l = m) := by
  simp only [PyData.eqv]; exact eqvAll_map h l m
theorem eqv_tup {α : Type} [DecidableEq α] {emb : α → D} (h : ∀ a b, PyData.eqv (emb a) (emb b) = decide (a = b)) (l m : List α) : PyData.eqv (.tuple (l.map emb)) (.tuple (m.map emb)) = decide (l = m) := by
  simp only [PyData.eqv]; exact eqvAll_map h l m
theorem plainAll_map {α : Type} {emb : α → D} (h : ∀ a, (emb a).plain = true) : ∀ l : List α, PyData.plainAll (l.map emb) = true
  | [] => rfl
  | x :: r => by simp only [List.map_cons, PyData.plainAll, h x, plainAll_map h r, Bool.and_self]
theorem dop_eq_of {a b : D} (pa : a.plain = true) (pb : b.plain = true) (d : a.depth ≤ 60) : dop_eq [a, b] = some (.bool (PyData.eqv a b)) := by
  simp only [dop_eq, guardO, pa, pb, decide_eq_true d, Bool.and_self, if_true]
theorem dop_ne_of {a b : D} (pa : a.plain = true) (pb : b.plain = true) (d : a.depth ≤ 60) : dop_ne [a, b] = some (.bool (!PyData.eqv a b)) := by
  simp only [dop_ne, guardO, pa, pb, decide_eq_true d, Bool.and_self, if_true]
theorem plain_str (a : List Nat) : (dS a).plain = true := rfl
theorem plain_chars (l : List Nat) : (PyData.list (chars l)).plain = true := by
  simp only [PyData.plain]; exact plainAll_map (fun _ => rfl) l
theorem depth_chars (l : List Nat) : (PyData.list (chars l)).depth ≤ 60 := by
  have := depthAll_map (emb := fun c => dS [c]) (k := 1) (fun _ => by simp [PyData.depth]) l
  simp only [PyData.depth, chars]
  omega
theorem eqv_chars (l m : List Nat) : PyData.eqv (.list (chars l)) (.list (chars m)) = decide (l = m) := by
  unfold chars
  exact eqv_lst (fun a b => by rw [eqv_str]; simp) l m
/-! is_drawing -/
def NM : List Nat := [97, 98, 99, 100, 101, 102, 103, 104]
def twice (n : Nat) : List Nat := NM.take n ++ NM.take n
def isDraw (ch : Chart) : Bool := (ch.all fun r => decide (r ≠ [])) && (decide (2 ≤ ch.flatten.length ∧ ch.flatten.length ≤ 16) && decide (ch.flatten.Perm (twice (ch.flatten.length / 2))))
theorem allBool_map : ∀ l : List Bool, allBool (l.map PyData.bool) = some l
  | [] => rfl
  | b :: r => by simp [allBool, allBool_map r]
theorem sum_len (ch : Chart) : (ch.map List.length).sum = ch.flatten.length := by rw [List.length_flatten]
theorem join_nil {ch : Chart} (h : ch.flatten.length ≤ 1000) : dop_join [dS [], dC ch] = some (dS ch.flatten) := by
  have h1 : ch.flatten.length ≤ lim := Nat.le_trans h (by decide)
  simp only [dop_join, allStr_dS, Option.bind_some, guardO, toL_st, sum_len, List.length_nil, Nat.mul_zero, Nat.add_zero, decide_eq_true h1, if_true, joinL_nil]
theorem m_is_drawing {n : Nat} {ch : Chart} (h : ch.flatten.length ≤ 1000) (h2 : ch.length ≤ 1000) : run T (n + 1) 0 none [dC ch] = .ok (.bool (isDraw ch), []) := by
  rw [run_fn T_is_drawing rfl rfl]
  unfold b_is_drawing
  have hl := den_mapG (call := run T n) (tg := .name 1) (is := [1]) (src := .it .seq (.cons (.var 0) .nil)) (elt := ce_is_drawing_1) (r0 := [.sh (dC ch), .un, .un, .un]) (r := [.sh (dC ch), .un, .un, .un]) (fun x => [.sh (dC ch), .sh x, .un, .un])
    (fun x => match x with | .str s => .bool (decide (toL s ≠ [])) | _ => .none) (xs := ch.map dS) (by simp [e_it, e_cons, e_nil, e_var, getS, itD]) (by rw [List.length_map]; exact Nat.le_trans h2 (by decide))
    (fun x hx => by
      obtain ⟨w, _, rfl⟩ := List.mem_map.mp hx
      refine ⟨rfl, rfl, rfl, ?_, rfl⟩
      have e1 := eqv_str w []
      have e2 := dop_ne_of (a := dS w) (b := dS []) rfl rfl (by simp [PyData.depth])
      rw [e1] at e2
      simp [e_and, e_or, e_op, e_cons, e_nil, e_var, e_lit, getS, opD, dop_isstr, guardO, nd, PyData.isStr, e2])
  have hm : ((ch.map dS).map fun x => match x with | .str s => PyData.bool (decide (toL s ≠ [])) | _ => .none) = (ch.map fun r => decide (r ≠ [])).map PyData.bool := by
    simp [List.map_map, Function.comp_def]
  rw [hm] at hl
  have hall : dop_all [.list ((ch.map fun r => decide (r ≠ [])).map PyData.bool)] = some (.bool (ch.all fun r => decide (r ≠ []))) := by
    simp only [dop_all, allBool_map, Option.map_some]
    congr 2
    rw [List.all_map]; rfl
  have hj := join_nil h
  generalize (ch.map fun r => decide (r ≠ [])) = bs at hl hall
  unfold isDraw
  cases ha : ch.all fun r => decide (r ≠ []) with
  | false =>
    rw [ha] at hall
    simp [denS, e_and, e_or, e_chain, e_op, e_cons, e_nil, e_var, e_lit, getS, opD, dop_istup, guardO, nd, PyData.isTuple, dop_not, hl, hall, endOf]
  | true =>
    rw [ha] at hall
    have h3 : denS (run T n) (.ifs (.or (.op .not (.cons (.op .istup (.cons (.var 0) .nil)) .nil)) (.op .not (.cons (.op .all (.cons lc_is_drawing_1 .nil)) .nil))) (.ret (.lit (.bool false))) .skip) [.sh (dC ch), .un, .un, .un] = .nxt [.sh (dC ch), .un, .un, .un] := by
      simp [denS, e_and, e_or, e_chain, e_op, e_cons, e_nil, e_var, e_lit, getS, opD, dop_istup, guardO, nd, PyData.isTuple, dop_not, hl, hall]
    simp only [List.map_cons, List.map_nil, List.cons_append, List.nil_append, Nat.reduceSub, List.replicate]
    rw [denS_seq h3]
    generalize hL : ch.flatten = L at *
    have g1 : L.length ≤ 1000000 := by omega
    have h4 : denS (run T n) (.asg (.name 2) (.meth .join (.lit (dS [])) (.cons (.var 0) .nil))) [.sh (dC ch), .un, .un, .un] = .nxt [.sh (dC ch), .un, .sh (dS L), .un] := by
      simp [denS, e_meth, e_cons, e_nil, e_var, e_lit, getS, opD, hj, bindT, putS]
    have h5 : denS (run T n) (.asg (.name 3) (.op .fdiv (.cons (.op .len (.cons (.var 2) .nil)) (.cons (.lit (.int 2)) .nil)))) [.sh (dC ch), .un, .sh (dS L), .un] = .nxt [.sh (dC ch), .un, .sh (dS L), .sh (dI (L.length / 2))] := by
      simp [denS, e_op, e_cons, e_nil, e_var, e_lit, getS, opD, dop_len, fdiv_2, guardO, lim, g1, bindT, putS]
    rw [denS_seq h4, denS_seq h5]
    by_cases h6 : 2 ≤ L.length ∧ L.length ≤ 16
    · have g2 : (2 : Int) ≤ L.length := by omega
      have g3 : (L.length : Int) ≤ 16 := by omega
      have g4 : L.length / 2 ≤ 8 := by omega
      have es : dop_sorted [dS L] = some (.list (chars (isortT leC L))) := by
        simp [dop_sorted, guardO, lim, g1, isort_chars]
      have esl : dop_slice [dS [97, 98, 99, 100, 101, 102, 103, 104], .none, dI (L.length / 2)] = some (dS (NM.take (L.length / 2))) := by
        have := slice_hi (l := NM) (k := L.length / 2) (by decide) g4
        exact this
      have em : dop_mul [dS (NM.take (L.length / 2)), .int 2] = some (dS (twice (L.length / 2))) := by
        have : (NM.take (L.length / 2)).length ≤ 1000 := by rw [List.length_take]; simp [NM]; omega
        simp only [dop_mul, guardO]
        rw [if_pos (by simp only [decide_eq_true_eq]; exact ⟨by decide, by decide, by rw [toL_st]; exact this⟩)]
        simp [twice, List.replicate]
      have es2 : dop_sorted [dS (twice (L.length / 2))] = some (.list (chars (isortT leC (twice (L.length / 2))))) := by
        have : (twice (L.length / 2)).length ≤ 1000000 := by unfold twice; rw [List.length_append, List.length_take]; simp [NM]; omega
        simp [dop_sorted, guardO, lim, this, isort_chars]
      have ee := dop_eq_of (plain_chars (isortT leC L)) (plain_chars (isortT leC (twice (L.length / 2)))) (depth_chars _)
      rw [eqv_chars] at ee
      have ei : decide (isortT leC L = isortT leC (twice (L.length / 2))) = decide (L.Perm (twice (L.length / 2))) := by
        rw [decide_eq_decide]; exact isortT_eq_iff leC_tot leC_tr leC_asy _ _
      rw [ei] at ee
      simp [denS, e_and, e_or, e_chain, e_op, e_cons, e_nil, e_var, e_lit, e_slcH, getS, opD, dop_le, dop_len, guardO, lim, g1, g2, g3, es, esl, em, es2, ee, isI, endOf, h6]
    · rw [decide_eq_false h6]
      by_cases g2 : (2 : Int) ≤ L.length
      · have g3 : ¬ (L.length : Int) ≤ 16 := by omega
        simp [denS, e_and, e_or, e_chain, e_op, e_cons, e_nil, e_var, e_lit, getS, opD, dop_le, dop_len, guardO, lim, g1, g2, g3, endOf]
      · simp [denS, e_and, e_or, e_chain, e_op, e_cons, e_nil, e_var, e_lit, getS, opD, dop_le, dop_len, guardO, lim, g1, g2, endOf]
end Bm
end
section
set_option Elab.async false
set_option linter.all false
set_option maxRecDepth 100000
set_option maxHeartbeats 1000000
/-! letters, points, pairs, what is reached -/
namespace Bm
open PySem
theorem slice_hiA {l : List Nat} {k : Nat} (hl : l.length ≤ 1000) : dop_slice [dS l, .none, dI k] = some (dS (l.take k)) := by
  have g : l.length ≤ 1000000 := by omega
  have e : l.take (min k l.length) = l.take k := by
    rcases Nat.le_total k l.length with h | h
    · rw [Nat.min_eq_left h]
    · rw [Nat.min_eq_right h, List.take_of_length_le (Nat.le_refl _), List.take_of_length_le h]
  simp [dop_slice, guardO, lim, g, clamp, cut, e]
theorem slice_loA {l : List Nat} {k : Nat} (hl : l.length ≤ 1000) : dop_slice [dS l, dI k, .none] = some (dS (l.drop k)) := by
  have g : l.length ≤ 1000000 := by omega
  have e : l.drop (min k l.length) = l.drop k := by
    rcases Nat.le_total k l.length with h | h
    · rw [Nat.min_eq_left h]
    · rw [Nat.min_eq_right h, List.drop_of_length_le (Nat.le_refl _), List.drop_of_length_le h]
  simp [dop_slice, guardO, lim, g, clamp, cut, e]
def lettersOf (ch : Chart) : List Nat := NM.take (ch.flatten.length / 2)
theorem m_letters_of {n : Nat} {ch : Chart} (h : ch.flatten.length ≤ 1000) : run T (n + 1) 11 none [dC ch] = .ok (dS (lettersOf ch), []) := by
  rw [run_fn T_letters_of rfl rfl]
  unfold b_letters_of
  have hj := join_nil h
  have g1 : ch.flatten.length ≤ 1000000 := by omega
  have esl : dop_slice [dS [97, 98, 99, 100, 101, 102, 103, 104], .none, dI (ch.flatten.length / 2)] = some (dS (lettersOf ch)) := by
    exact slice_hiA (l := NM) (by decide)
  generalize hL : ch.flatten = L at *
  simp [denS, e_op, e_meth, e_cons, e_nil, e_var, e_lit, e_slcH, getS, opD, hj, dop_len, fdiv_2, guardO, lim, g1, isI, esl, endOf]
def cnt (c : Nat) (row : List Nat) : Nat := (row.filter fun x => x == c).length
def ptsFrom (c : Nat) : Nat → Chart → List Nat
  | _, [] => []
  | k, row :: r => List.replicate (cnt c row) k ++ ptsFrom c (k + 1) r
def ptsOf (ch : Chart) (c : Nat) : List Nat := ptsFrom c 0 ch
abbrev dIs (l : List Nat) : List D := l.map fun p => dI p
theorem pts_len (c : Nat) : ∀ (rows : Chart) (k : Nat), (ptsFrom c k rows).length ≤ rows.flatten.length
  | [], k => by simp [ptsFrom]
  | row :: r, k => by
    have := pts_len c r (k + 1)
    have h2 : cnt c row ≤ row.length := List.length_filter_le _ _
    simp only [ptsFrom, List.length_append, List.length_replicate, List.flatten_cons]
    omega
theorem rep_flat {α : Type} (a : α) : ∀ n : Nat, (List.replicate n [a]).flatten = List.replicate n a
  | 0 => rfl
  | n + 1 => by simp [List.replicate_succ, rep_flat a n]
theorem pts_loop {call : CallS} {d : D} {c : Nat} : ∀ (rows : Chart) (k : Nat) (acc : List Nat) (s3 s4 : Slot), acc.length + rows.flatten.length ≤ 1000 → ∃ s3' s4',
    forLoop (bindT (.tup [3, 4])) (denS call fb_points_of_1) (enumFrom k (rows.map dS)) [.sh d, .sh (dS [c]), .sh (.list (dIs acc)), s3, s4] = .nxt [.sh d, .sh (dS [c]), .sh (.list (dIs (acc ++ ptsFrom c k rows))), s3', s4']
  | [], k, acc, s3, s4, h => ⟨s3, s4, by simp [enumFrom, forLoop, ptsFrom]⟩
  | row :: rows, k, acc, s3, s4, h => by
    simp only [List.flatten_cons, List.length_append] at h
    have h2 : cnt c row ≤ row.length := List.length_filter_le _ _
    obtain ⟨t3, t4, e⟩ := pts_loop (call := call) (d := d) (c := c) rows (k + 1) (acc ++ List.replicate (cnt c row) k) (.sh (dI k)) (.sh (dS row)) (by simp only [List.length_append, List.length_replicate]; omega)
    refine ⟨t3, t4, ?_⟩
    have hc : dop_count [dS row, dS [c]] = some (dI (cnt c row)) := by
      simp [dop_count, sign1, cnt]
    have hm : dop_mul [.list [dI k], dI (cnt c row)] = some (.list (dIs (List.replicate (cnt c row) k))) := by
      simp only [dop_mul, guardO]
      rw [if_pos (by rw [decide_eq_true_eq]; exact ⟨by omega, by omega, by simp⟩)]
      rw [Int.toNat_natCast, rep_flat, dIs, List.map_replicate]
    have ha : dop_add [.list (dIs acc), .list (dIs (List.replicate (cnt c row) k))] = some (.list (dIs (acc ++ List.replicate (cnt c row) k))) := by
      have : (dIs acc).length + (dIs (List.replicate (cnt c row) k)).length ≤ lim := by
        simp only [dIs, List.length_map, List.length_replicate, lim]; omega
      simp only [dop_add, guardO, decide_eq_true this, if_true, dIs, List.map_append]
    have key : ∀ (A B C : List D) (x : D), dop_count [dS row, dS [c]] = some x → dop_mul [.list [dI k], x] = some (.list B) → dop_add [.list A, .list B] = some (.list C) →
        denS call fb_points_of_1 [.sh d, .sh (dS [c]), .sh (.list A), .sh (dI k), .sh (dS row)] = .nxt [.sh d, .sh (dS [c]), .sh (.list C), .sh (dI k), .sh (dS row)] := fun A B C x h1 h2 h3 => by
      simp [denS, e_op, e_cons, e_nil, e_var, e_meth, getS, opD, h1, h2, h3, dop_mkl, guardO, lim, nd, bindT, putS]
    have st := key _ _ _ _ hc hm ha
    rw [List.map_cons, enumFrom, forLoop_cons (r1 := [.sh d, .sh (dS [c]), .sh (.list (dIs acc)), .sh (dI k), .sh (dS row)]) rfl st, e, ptsFrom, List.append_assoc]
theorem m_points_of {n : Nat} {ch : Chart} {c : Nat} (h : ch.flatten.length ≤ 1000) : run T (n + 1) 10 none [dC ch, dS [c]] = .ok (.tuple (dIs (ptsOf ch c)), []) := by
  rw [run_fn T_points_of rfl rfl]
  obtain ⟨t3, t4, e⟩ := pts_loop (call := run T n) (d := dC ch) (c := c) ch 0 [] .un .un (by simpa using h)
  unfold b_points_of
  rw [denS_seq (r1 := [.sh (dC ch), .sh (dS [c]), .sh (.list []), .un, .un]) (by simp [denS, e_op, e_nil, opD, dop_mkl, guardO, lim, bindT, putS]), denS_seq (r1 := [.sh (dC ch), .sh (dS [c]), .sh (.list (dIs (ptsOf ch c))), t3, t4])]
  · simp [denS, e_op, e_cons, e_nil, e_var, getS, opD, dop_tuple, endOf]
  · rw [denS_for (l := enumFrom 0 (ch.map dS)) (r1 := [.sh (dC ch), .sh (dS [c]), .sh (.list []), .un, .un]) (by simp [e_it, e_cons, e_nil, e_var, getS, itD])]
    simpa [ptsOf] using e
theorem m_pairs_of {n : Nat} {ch : Chart} {ls : List Nat} (h : ch.flatten.length ≤ 1000) (hl : ls.length ≤ 1000) : run T (n + 2) 9 none [dC ch, dS ls] = .ok (.list (ls.map fun c => .tuple (dIs (ptsOf ch c))), []) := by
  rw [run_fn T_pairs_of rfl rfl]
  unfold b_pairs_of
  have hm := den_mapG (call := run T (n + 1)) (tg := .name 2) (is := [2]) (src := .it .seq (.cons (.var 1) .nil)) (elt := ce_pairs_of_1) (r0 := [.sh (dC ch), .sh (dS ls), .un]) (r := [.sh (dC ch), .sh (dS ls), .un]) (fun x => [.sh (dC ch), .sh (dS ls), .sh x])
    (fun x => match x with | .str s => .tuple (dIs (ptsOf ch ((toL s).headD 0))) | _ => .none) (xs := chars ls) (by simp [e_it, e_cons, e_nil, e_var, getS, itD]) (by unfold chars; rw [List.length_map]; exact Nat.le_trans hl (by decide))
    (fun x hx => by
      obtain ⟨c, _, rfl⟩ := List.mem_map.mp hx
      have hc := m_points_of (n := n) (c := c) h
      refine ⟨rfl, rfl, rfl, ?_, rfl⟩
      simp [e_call, e_cons, e_nil, e_var, getS, hc])
  have em : ((chars ls).map fun x => match x with | .str s => PyData.tuple (dIs (ptsOf ch ((toL s).headD 0))) | _ => PyData.none) = ls.map fun c => PyData.tuple (dIs (ptsOf ch c)) := by
    unfold chars
    rw [List.map_map]
    exact List.map_congr_left fun c _ => by simp
  rw [em] at hm
  simp [denS, hm, endOf]
def nD1 : Slot → Bool
  | .dicT _ => false
  | .dicK _ => false
  | _ => true
theorem nD1_sh (d : D) : nD1 (.sh d) = true := rfl
theorem nD1_own (l : List D) : nD1 (.own l) = true := rfl
theorem noDic_nil : noDic [] = true := rfl
theorem noDic_cons (s : Slot) (r : Env) : noDic (s :: r) = (nD1 s && noDic r) := by cases s <;> simp [noDic, nD1]
/-! reached -/
def rstep (s : List Nat × List (Nat × Nat)) (p : Nat × Nat) : List Nat × List (Nat × Nat) :=
  if p.1 ∈ s.1 ∧ p.2 ∉ s.1 then (s.1 ++ [p.2], s.2) else if p.2 ∈ s.1 ∧ p.1 ∉ s.1 then (s.1 ++ [p.1], s.2) else if p.1 ∉ s.1 then (s.1, s.2 ++ [p]) else s
def rpass (found : List Nat) (left : List (Nat × Nat)) : List Nat × List (Nat × Nat) := left.foldl rstep (found, [])
def rloop : Nat → List Nat → List (Nat × Nat) → Nat → Option (List Nat)
  | 0, _, _, _ => none
  | n + 1, found, left, size => if size < found.length then rloop n (rpass found left).1 (rpass found left).2 found.length else some found
theorem eqv_dI (a b : Nat) : PyData.eqv (dI a) (dI b) = decide (a = b) := by
  have h : ((a : Int) == (b : Int)) = decide (a = b) := by rw [Bool.eq_iff_iff]; simp; omega
  simp [PyData.eqv, h]
theorem any_dI (a : Nat) : ∀ l : List Nat, ((dIs l).any fun d => PyData.eqv d (dI a)) = decide (a ∈ l)
  | [] => rfl
  | x :: l => by
    have ih := any_dI a l
    simp only [dIs] at ih
    simp only [dIs, List.map_cons, List.any_cons, eqv_dI, ih]
    rw [Bool.eq_iff_iff]
    simp only [Bool.or_eq_true, decide_eq_true_eq, List.mem_cons]
    exact ⟨fun h => h.imp Eq.symm id, fun h => h.imp Eq.symm id⟩
theorem plain_dIs (l : List Nat) : PyData.plainAll (dIs l) = true := plainAll_map (fun _ => rfl) l
theorem isin_dI (a : Nat) (l : List Nat) : dop_isin [dI a, .list (dIs l)] = some (.bool (decide (a ∈ l))) := by
  simp only [dop_isin, guardO, plain_dIs, any_dI]
  rfl
theorem notin_dI (a : Nat) (l : List Nat) : dop_notin [dI a, .list (dIs l)] = some (.bool (!decide (a ∈ l))) := by
  simp only [dop_notin, guardO, plain_dIs, any_dI]
  rfl
theorem reach_body {call : CallS} {p q l z : D} {found : List Nat} {rest : List (Nat × Nat)} {a b : Nat} (h1 : found.length ≤ 1000) (h2 : rest.length ≤ 1000) :
    denS call fb_reached_1 [.sh p, .sh q, .own (dIs found), .sh l, .sh z, .own (rest.map dE), .sh (dI a), .sh (dI b)] = .nxt [.sh p, .sh q, .own (dIs (rstep (found, rest) (a, b)).1), .sh l, .sh z, .own ((rstep (found, rest) (a, b)).2.map dE), .sh (dI a), .sh (dI b)] := by
  have ia := isin_dI a found
  have ib := isin_dI b found
  have na := notin_dI a found
  have nb := notin_dI b found
  have g1 : (dIs found).length < 1000000 := by simp only [dIs, List.length_map]; omega
  have g2 : (rest.map dE).length < 1000000 := by rw [List.length_map]; omega
  have eA : ∀ x : Nat, dIs found ++ [dI x] = dIs (found ++ [x]) := fun x => by simp [dIs]
  have eB : rest.map dE ++ [dE (a, b)] = (rest ++ [(a, b)]).map dE := by simp
  generalize hA : dIs found = A at *
  generalize hB : rest.map dE = B at *
  unfold rstep
  by_cases ha : a ∈ found
  · by_cases hb : b ∈ found
    · simp [ha, hb, denS, e_and, e_peek, e_op, e_cons, e_nil, e_var, getS, frzE, noDic, noList, opD, ia, ib, na, nb, hA, hB]
    · simp [ha, hb, denS, e_and, e_peek, e_op, e_cons, e_nil, e_var, getS, frzE, noDic, noList, opD, ia, ib, na, nb, isOwnL, lim, g1, nd, putS, eA, hB]
  · by_cases hb : b ∈ found
    · simp [ha, hb, denS, e_and, e_peek, e_op, e_cons, e_nil, e_var, getS, frzE, noDic, noList, opD, ia, ib, na, nb, isOwnL, lim, g1, nd, putS, eA, hB]
    · simp [ha, hb, denS, e_and, e_peek, e_op, e_cons, e_nil, e_var, getS, frzE, noDic, noList, opD, ia, ib, na, nb, isOwnL, lim, g2, nd, putS, dop_mkt, guardO, eB, hA]
theorem rstep_len (s : List Nat × List (Nat × Nat)) (p : Nat × Nat) : (rstep s p).1.length + (rstep s p).2.length ≤ s.1.length + s.2.length + 1 := by
  unfold rstep
  split
  · simp; omega
  · split
    · simp; omega
    · split
      · simp; omega
      · omega
theorem reach_for {call : CallS} {p q l z : D} : ∀ (left : List (Nat × Nat)) (s : List Nat × List (Nat × Nat)) (s6 s7 : Slot), s.1.length + s.2.length + left.length ≤ 1000 → ∃ s6' s7', (nD1 s6 = true → nD1 s7 = true → nD1 s6' = true ∧ nD1 s7' = true) ∧
    forLoop (bindT (.tup [6, 7])) (denS call fb_reached_1) (left.map dE) [.sh p, .sh q, .own (dIs s.1), .sh l, .sh z, .own (s.2.map dE), s6, s7] = .nxt [.sh p, .sh q, .own (dIs (left.foldl rstep s).1), .sh l, .sh z, .own ((left.foldl rstep s).2.map dE), s6', s7']
  | [], s, s6, s7, _ => ⟨s6, s7, fun a b => ⟨a, b⟩, rfl⟩
  | (a, b) :: left, s, s6, s7, h => by
    simp only [List.length_cons] at h
    have st := reach_body (call := call) (p := p) (q := q) (l := l) (z := z) (found := s.1) (rest := s.2) (a := a) (b := b) (by omega) (by omega)
    have hl := rstep_len s (a, b)
    obtain ⟨t6, t7, ht, e⟩ := reach_for (call := call) (p := p) (q := q) (l := l) (z := z) left (rstep s (a, b)) (.sh (dI a)) (.sh (dI b)) (by omega)
    refine ⟨t6, t7, fun _ _ => ht rfl rfl, ?_⟩
    rw [List.map_cons, forLoop_cons (r1 := [.sh p, .sh q, .own (dIs s.1), .sh l, .sh z, .own (s.2.map dE), .sh (dI a), .sh (dI b)]) rfl st, e]
    rfl
theorem foldl_len : ∀ (left : List (Nat × Nat)) (s : List Nat × List (Nat × Nat)), (left.foldl rstep s).1.length + (left.foldl rstep s).2.length ≤ s.1.length + s.2.length + left.length
  | [], s => by simp
  | p :: left, s => by
    have := foldl_len left (rstep s p)
    have := rstep_len s p
    simp only [List.foldl_cons, List.length_cons]
    omega
theorem rpass_len (found : List Nat) (left : List (Nat × Nat)) : (rpass found left).1.length + (rpass found left).2.length ≤ found.length + left.length := by
  have := foldl_len left (found, [])
  simpa [rpass] using this
theorem reach_while {call : CallS} {p q : D} : ∀ (m : Nat) (found : List Nat) (left : List (Nat × Nat)) (size : Nat) (out : List Nat) (s5 s6 s7 : Slot), rloop m found left size = some out → found.length + left.length ≤ 1000 → nD1 s5 = true → nD1 s6 = true → nD1 s7 = true → ∃ u3 u4 u5 u6 u7,
    whileLoop (den call wc_reached_1) (denS call wb_reached_1) m [.sh p, .sh q, .own (dIs found), .sh (.list (left.map dE)), .sh (dI size), s5, s6, s7] = .nxt [.sh p, .sh q, .own (dIs out), u3, u4, u5, u6, u7]
  | 0, _, _, _, _, _, _, _, h, _, _, _, _ => by cases h
  | m + 1, found, left, size, out, s5, s6, s7, h, hl, h5, h6, h7 => by
    simp only [rloop] at h
    have elen : dop_len [.list (dIs found)] = some (dI found.length) := by simp [dop_len]
    have hc : den call wc_reached_1 [.sh p, .sh q, .own (dIs found), .sh (.list (left.map dE)), .sh (dI size), s5, s6, s7] = .ok (.bool (decide (size < found.length)), [.sh p, .sh q, .own (dIs found), .sh (.list (left.map dE)), .sh (dI size), s5, s6, s7]) := by
      generalize dIs found = A at *
      simp [e_op, e_cons, e_nil, e_var, e_peek, getS, noDic_cons, noDic_nil, nD1_sh, nD1_own, h5, h6, h7, frzE, opD, elen, noList, dop_lt]
    simp only [whileLoop, hc]
    by_cases hs : size < found.length
    · rw [if_pos hs] at h
      simp only [decide_eq_true hs]
      obtain ⟨t6, t7, ht, e⟩ := reach_for (call := call) (p := p) (q := q) (l := .list (left.map dE)) (z := dI found.length) left (found, []) s6 s7 (by simpa using hl)
      have hpl := rpass_len found left
      obtain ⟨u3, u4, u5, u6, u7, e2⟩ := reach_while (call := call) (p := p) (q := q) m (rpass found left).1 (rpass found left).2 found.length out (.sh (.list ((rpass found left).2.map dE))) t6 t7 h (by omega) rfl (ht h6 h7).1 (ht h6 h7).2
      refine ⟨u3, u4, u5, u6, u7, ?_⟩
      have eb : denS call wb_reached_1 [.sh p, .sh q, .own (dIs found), .sh (.list (left.map dE)), .sh (dI size), s5, s6, s7] = .nxt [.sh p, .sh q, .own (dIs (rpass found left).1), .sh (.list ((rpass found left).2.map dE)), .sh (dI found.length), .sh (.list ((rpass found left).2.map dE)), t6, t7] := by
        have e1 : denS call (.par [(4, 0), (5, 1)] (.cons (.peek (.op .len (.cons (.var 2) .nil))) (.cons (.op .mkl .nil) .nil))) [.sh p, .sh q, .own (dIs found), .sh (.list (left.map dE)), .sh (dI size), s5, s6, s7] = .nxt [.sh p, .sh q, .own (dIs found), .sh (.list (left.map dE)), .sh (dI found.length), .own [], s6, s7] := by
          generalize dIs found = A at *
          simp [denS, e_op, e_cons, e_nil, e_var, e_peek, getS, noDic_cons, noDic_nil, nD1_sh, nD1_own, h5, h6, h7, frzE, opD, elen, noList, dop_mkl, guardO, lim, putPar, slotM, putS]
        rw [denS_seq e1]
        have e3 : denS call fo_reached_1 [.sh p, .sh q, .own (dIs found), .sh (.list (left.map dE)), .sh (dI found.length), .own [], s6, s7] = .nxt [.sh p, .sh q, .own (dIs (rpass found left).1), .sh (.list (left.map dE)), .sh (dI found.length), .own ((rpass found left).2.map dE), t6, t7] := by
          rw [denS_for (l := left.map dE) (r1 := [.sh p, .sh q, .own (dIs found), .sh (.list (left.map dE)), .sh (dI found.length), .own [], s6, s7]) (by simp [e_it, e_cons, e_nil, e_var, getS, itD])]
          exact e
        rw [denS_seq e3]
        generalize (rpass found left).2.map dE = B
        simp [denS, e_var, getS, putS, bindT]
      simp only [eb]
      exact e2
    · rw [if_neg hs] at h
      cases h
      simp only [decide_eq_false hs]
      exact ⟨_, _, _, _, _, rfl⟩
theorem m_reached {n : Nat} {pairs : List (Nat × Nat)} {start : Nat} {out : List Nat} (h : rloop 200 [start] pairs 0 = some out) (hl : pairs.length ≤ 900) : run T (n + 1) 8 none [.list (pairs.map dE), dI start] = .ok (.list (dIs out), []) := by
  rw [run_fn T_reached rfl rfl]
  unfold b_reached
  obtain ⟨s3, s4, s5, s6, s7, e⟩ := reach_while (call := run T n) (p := .list (pairs.map dE)) (q := dI start) 200 [start] pairs 0 out .un .un .un h (by simp; omega) rfl rfl rfl
  have e1 : denS (run T n) (.par [(2, 1), (3, 0), (4, 0)] (.cons (.op .mkl (.cons (.var 1) .nil)) (.cons (.var 0) (.cons (.lit (.int 0)) .nil)))) [.sh (.list (pairs.map dE)), .sh (dI start), .un, .un, .un, .un, .un, .un] = .nxt [.sh (.list (pairs.map dE)), .sh (dI start), .own (dIs [start]), .sh (.list (pairs.map dE)), .sh (dI 0), .un, .un, .un] := by
    simp [denS, e_op, e_cons, e_nil, e_var, e_lit, getS, opD, dop_mkl, guardO, lim, nd, putPar, slotM, putS]
  simp only [List.map_cons, List.map_nil, List.cons_append, List.nil_append, Nat.reduceSub, List.replicate]
  have e2 : denS (run T n) wh_reached_1 [.sh (.list (pairs.map dE)), .sh (dI start), .own (dIs [start]), .sh (.list (pairs.map dE)), .sh (dI 0), .un, .un, .un] = .nxt [.sh (.list (pairs.map dE)), .sh (dI start), .own (dIs out), s3, s4, s5, s6, s7] := e
  rw [denS_seq e1, denS_seq e2]
  generalize dIs out = A
  simp [denS, e_var, getS, endOf]
end Bm
end
section
set_option Elab.async false
set_option linter.all false
set_option maxRecDepth 100000
set_option maxHeartbeats 1000000
/-! what is reached, as a relation; is_map -/
namespace Bm
open PySem
inductive Reach (pairs : List (Nat × Nat)) (s : Nat) : Nat → Prop
  | refl : Reach pairs s s
  | fwd {a b : Nat} : Reach pairs s a → (a, b) ∈ pairs → Reach pairs s b
  | bwd {a b : Nat} : Reach pairs s b → (a, b) ∈ pairs → Reach pairs s a
structure PassOk (pairs : List (Nat × Nat)) (s0 : Nat) (left : List (Nat × Nat)) (s t : List Nat × List (Nat × Nat)) : Prop where
  nd : t.1.Nodup
  re : ∀ x ∈ t.1, Reach pairs s0 x
  ext : ∃ e, t.1 = s.1 ++ e
  sub : ∀ p ∈ t.2, p ∈ s.2 ∨ p ∈ left
  keep : ∀ p ∈ s.2, p ∈ t.2
  cov : ∀ p ∈ left, p ∈ t.2 ∨ (p.1 ∈ t.1 ∧ p.2 ∈ t.1)
  clo : t.1 = s.1 → ∀ p ∈ t.2, p ∈ s.2 ∨ (p.1 ∉ s.1 ∧ p.2 ∉ s.1)
theorem nodup_snoc {α : Type} {l : List α} {x : α} (h : l.Nodup) (hx : x ∉ l) : (l ++ [x]).Nodup :=
  List.nodup_append.mpr ⟨h, by simp, fun a ha b hb => by rw [List.mem_singleton.mp hb]; exact fun z => hx (z ▸ ha)⟩
theorem pass_ok {pairs : List (Nat × Nat)} {s0 : Nat} : ∀ (left : List (Nat × Nat)) (s : List Nat × List (Nat × Nat)), (∀ p ∈ left, p ∈ pairs) → s.1.Nodup → (∀ x ∈ s.1, Reach pairs s0 x) → PassOk pairs s0 left s (left.foldl rstep s)
  | [], s, _, hn, hr => ⟨hn, hr, ⟨[], by simp⟩, fun p hp => .inl hp, fun p hp => hp, (fun p hp => by cases hp), fun _ p hp => .inl hp⟩
  | p :: left, s, hl, hn, hr => by
    have hp := hl p List.mem_cons_self
    have hl' : ∀ q ∈ left, q ∈ pairs := fun q hq => hl q (List.mem_cons_of_mem _ hq)
    rw [List.foldl_cons]
    by_cases h1 : p.1 ∈ s.1 ∧ p.2 ∉ s.1
    · have es : rstep s p = (s.1 ++ [p.2], s.2) := by unfold rstep; rw [if_pos h1]
      rw [es]
      have ih := pass_ok left (s.1 ++ [p.2], s.2) hl' (nodup_snoc hn h1.2) (fun x hx => by
        rcases List.mem_append.mp hx with z | z
        · exact hr x z
        · rw [List.mem_singleton.mp z]; exact .fwd (hr _ h1.1) hp)
      obtain ⟨e, he⟩ := ih.ext
      have he : (left.foldl rstep (s.1 ++ [p.2], s.2)).1 = s.1 ++ [p.2] ++ e := he
      refine ⟨ih.nd, ih.re, ⟨p.2 :: e, by rw [he]; simp⟩, fun q hq => (ih.sub q hq).imp id (List.mem_cons_of_mem _), ih.keep, fun q hq => ?_, fun z => ?_⟩
      · rcases List.mem_cons.mp hq with rfl | hq
        · exact .inr ⟨by rw [he]; simp [h1.1], by rw [he]; simp⟩
        · exact ih.cov q hq
      · rw [he, List.append_assoc] at z
        have := congrArg List.length z
        simp only [List.length_append, List.length_cons, List.length_nil] at this
        omega
    · by_cases h2 : p.2 ∈ s.1 ∧ p.1 ∉ s.1
      · have es : rstep s p = (s.1 ++ [p.1], s.2) := by unfold rstep; rw [if_neg h1, if_pos h2]
        rw [es]
        have ih := pass_ok left (s.1 ++ [p.1], s.2) hl' (nodup_snoc hn h2.2) (fun x hx => by
          rcases List.mem_append.mp hx with z | z
          · exact hr x z
          · rw [List.mem_singleton.mp z]; exact .bwd (hr _ h2.1) hp)
        obtain ⟨e, he⟩ := ih.ext
        have he : (left.foldl rstep (s.1 ++ [p.1], s.2)).1 = s.1 ++ [p.1] ++ e := he
        refine ⟨ih.nd, ih.re, ⟨p.1 :: e, by rw [he]; simp⟩, fun q hq => (ih.sub q hq).imp id (List.mem_cons_of_mem _), ih.keep, fun q hq => ?_, fun z => ?_⟩
        · rcases List.mem_cons.mp hq with rfl | hq
          · exact .inr ⟨by rw [he]; simp, by rw [he]; simp [h2.1]⟩
          · exact ih.cov q hq
        · rw [he, List.append_assoc] at z
          have := congrArg List.length z
          simp only [List.length_append, List.length_cons, List.length_nil] at this
          omega
      · by_cases h3 : p.1 ∉ s.1
        · have h4 : p.2 ∉ s.1 := fun z => h2 ⟨z, h3⟩
          have es : rstep s p = (s.1, s.2 ++ [p]) := by unfold rstep; rw [if_neg h1, if_neg h2, if_pos h3]
          rw [es]
          have ih := pass_ok left (s.1, s.2 ++ [p]) hl' hn hr
          refine ⟨ih.nd, ih.re, ih.ext, fun q hq => ?_, fun q hq => ih.keep q (List.mem_append_left _ hq), fun q hq => ?_, fun z q hq => ?_⟩
          · rcases ih.sub q hq with z | z
            · rcases List.mem_append.mp z with z | z
              · exact .inl z
              · rw [List.mem_singleton.mp z]; exact .inr List.mem_cons_self
            · exact .inr (List.mem_cons_of_mem _ z)
          · rcases List.mem_cons.mp hq with rfl | hq
            · exact .inl (ih.keep q (List.mem_append_right _ List.mem_cons_self))
            · exact ih.cov q hq
          · rcases ih.clo z q hq with w | w
            · rcases List.mem_append.mp w with w | w
              · exact .inl w
              · rw [List.mem_singleton.mp w]; exact .inr ⟨h3, h4⟩
            · exact .inr w
        · have h3 : p.1 ∈ s.1 := Classical.not_not.mp h3
          have h4 : p.2 ∈ s.1 := Classical.byContradiction fun z => h1 ⟨h3, z⟩
          have es : rstep s p = s := by unfold rstep; rw [if_neg h1, if_neg h2, if_neg (fun z => z h3)]
          rw [es]
          have ih := pass_ok left s hl' hn hr
          obtain ⟨e, he⟩ := ih.ext
          refine ⟨ih.nd, ih.re, ih.ext, fun q hq => (ih.sub q hq).imp id (List.mem_cons_of_mem _), ih.keep, fun q hq => ?_, ih.clo⟩
          rcases List.mem_cons.mp hq with rfl | hq
          · exact .inr ⟨by rw [he]; exact List.mem_append_left _ h3, by rw [he]; exact List.mem_append_left _ h4⟩
          · exact ih.cov q hq
/-- the loop: it ends, with just what is reached -/
theorem rloop_ok {pairs : List (Nat × Nat)} {s0 : Nat} : ∀ (m : Nat) (found : List Nat) (left : List (Nat × Nat)) (size : Nat), left.length + 2 ≤ m ∨ (1 ≤ m ∧ ¬ size < found.length) → found.Nodup → (∀ x ∈ found, Reach pairs s0 x) → s0 ∈ found → (∀ p ∈ left, p ∈ pairs) → (∀ p ∈ pairs, p ∈ left ∨ (p.1 ∈ found ∧ p.2 ∈ found)) →
    (¬ size < found.length → ∀ p ∈ left, p.1 ∉ found ∧ p.2 ∉ found) → ∃ out, rloop m found left size = some out ∧ out.Nodup ∧ ∀ x, x ∈ out ↔ Reach pairs s0 x
  | 0, found, left, size, hm, _, _, _, _, _, _ => by omega
  | m + 1, found, left, size, hm, hn, hr, h0, hl, hc, hs => by
    simp only [rloop]
    by_cases h : size < found.length
    · rw [if_pos h]
      have P := pass_ok (pairs := pairs) (s0 := s0) left (found, []) hl hn hr
      have hlen := foldl_len left (found, [])
      change (rpass found left).1.length + (rpass found left).2.length ≤ found.length + 0 + left.length at hlen
      change PassOk pairs s0 left (found, []) (rpass found left) at P
      obtain ⟨e, he⟩ := P.ext
      have he : (rpass found left).1 = found ++ e := he
      have hel : (rpass found left).1.length = found.length + e.length := by rw [he, List.length_append]
      refine rloop_ok m _ _ _ ?_ P.nd P.re (by rw [he]; exact List.mem_append_left _ h0) (fun p hp => hl p ((P.sub p hp).resolve_left (fun z => by cases z))) (fun p hp => ?_) (fun z p hp => ?_)
      · rcases Nat.eq_zero_or_pos e.length with z | z
        · right; omega
        · left; omega
      · rcases hc p hp with z | ⟨z1, z2⟩
        · exact P.cov p z
        · exact .inr ⟨by rw [he]; exact List.mem_append_left _ z1, by rw [he]; exact List.mem_append_left _ z2⟩
      · have e0 : e = [] := List.eq_nil_of_length_eq_zero (by omega)
        have ef : (rpass found left).1 = found := by rw [he, e0, List.append_nil]
        rw [ef]
        rcases P.clo ef p hp with w | w
        · cases w
        · exact w
    · rw [if_neg h]
      refine ⟨found, rfl, hn, fun x => ⟨hr x, fun z => ?_⟩⟩
      have hs' := hs h
      induction z with
      | refl => exact h0
      | fwd _ hp ih =>
        rcases hc _ hp with w | w
        · exact absurd ih (hs' _ w).1
        · exact w.2
      | bwd _ hp ih =>
        rcases hc _ hp with w | w
        · exact absurd ih (hs' _ w).2
        · exact w.1
def reachL (pairs : List (Nat × Nat)) (s : Nat) : List Nat := (rloop 200 [s] pairs 0).getD []
theorem reachL_ok (pairs : List (Nat × Nat)) (s : Nat) (hl : pairs.length ≤ 190) : rloop 200 [s] pairs 0 = some (reachL pairs s) ∧ (reachL pairs s).Nodup ∧ ∀ x, x ∈ reachL pairs s ↔ Reach pairs s x := by
  obtain ⟨out, h1, h2, h3⟩ := rloop_ok (pairs := pairs) (s0 := s) 200 [s] pairs 0 (.inl (by omega)) (by simp) (fun x hx => by rw [List.mem_singleton.mp hx]; exact .refl) List.mem_cons_self (fun p hp => hp) (fun p hp => .inl hp) (fun z => by simp at z)
  unfold reachL
  rw [h1]
  exact ⟨rfl, h2, h3⟩
theorem m_reachedL {n : Nat} {pairs : List (Nat × Nat)} {s : Nat} (hl : pairs.length ≤ 190) : run T (n + 1) 8 none [.list (pairs.map dE), dI s] = .ok (.list (dIs (reachL pairs s)), []) :=
  m_reached (reachL_ok pairs s hl).1 (by omega)
end Bm
end
section
set_option Elab.async false
set_option linter.all false
set_option maxRecDepth 100000
set_option maxHeartbeats 1000000
/-! is_map and what asks it -/
namespace Bm
open PySem
/-- a drawing of n borders -/
structure Draw (ch : Chart) (n : Nat) : Prop where
  ne : ∀ r ∈ ch, r ≠ []
  n1 : 1 ≤ n
  n8 : n ≤ 8
  pm : ch.flatten.Perm (twice n)
theorem twice_len {n : Nat} (h : n ≤ 8) : (twice n).length = 2 * n := by
  unfold twice
  rw [List.length_append, List.length_take]
  have : NM.length = 8 := rfl
  omega
theorem Draw.len {ch : Chart} {n : Nat} (h : Draw ch n) : ch.flatten.length = 2 * n := by rw [h.pm.length_eq, twice_len h.n8]
theorem isDraw_iff {ch : Chart} : isDraw ch = true ↔ Draw ch (ch.flatten.length / 2) := by
  unfold isDraw
  simp only [Bool.and_eq_true, decide_eq_true_eq, List.all_eq_true]
  constructor
  · rintro ⟨h1, ⟨h2, h3⟩, h4⟩
    exact ⟨fun r hr => h1 r hr, by omega, by omega, h4⟩
  · intro h
    have := h.len
    have := h.n1
    have := h.n8
    exact ⟨fun r hr => h.ne r hr, ⟨by omega, by omega⟩, h.pm⟩
theorem Draw.isDraw {ch : Chart} {n : Nat} (h : Draw ch n) : isDraw ch = true := by
  rw [isDraw_iff]
  have : ch.flatten.length / 2 = n := by rw [h.len]; omega
  rw [this]; exact h
theorem cnt_app (c : Nat) (a b : List Nat) : cnt c (a ++ b) = cnt c a + cnt c b := by simp [cnt]
theorem pts_length (c : Nat) : ∀ (rows : Chart) (k : Nat), (ptsFrom c k rows).length = cnt c rows.flatten
  | [], k => rfl
  | row :: r, k => by simp only [ptsFrom, List.length_append, List.length_replicate, pts_length c r (k + 1), List.flatten_cons, cnt_app]
theorem cnt_perm {c : Nat} {a b : List Nat} (h : a.Perm b) : cnt c a = cnt c b := (h.filter _).length_eq
theorem cnt_twice : ∀ n, n ≤ 8 → ∀ c ∈ NM.take n, cnt c (twice n) = 2 := by decide +kernel
theorem Draw.letters {ch : Chart} {n : Nat} (h : Draw ch n) : lettersOf ch = NM.take n := by
  unfold lettersOf
  rw [h.len]
  congr 1
  omega
theorem Draw.two {ch : Chart} {n c : Nat} (h : Draw ch n) (hc : c ∈ NM.take n) : (ptsOf ch c).length = 2 := by
  unfold ptsOf
  rw [pts_length, cnt_perm h.pm, cnt_twice n h.n8 c hc]
def pairOf (ch : Chart) (c : Nat) : Nat × Nat := ((ptsOf ch c).getD 0 0, (ptsOf ch c).getD 1 0)
theorem len2 {l : List Nat} (h : l.length = 2) : l = [l.getD 0 0, l.getD 1 0] := by
  match l, h with
  | [a, b], _ => rfl
theorem Draw.pair {ch : Chart} {n c : Nat} (h : Draw ch n) (hc : c ∈ NM.take n) : PyData.tuple (dIs (ptsOf ch c)) = dE (pairOf ch c) := by
  have := len2 (h.two hc)
  unfold pairOf dE
  generalize ptsOf ch c = l at *
  rw [this]; rfl
def pairsOf (ch : Chart) : List (Nat × Nat) := (lettersOf ch).map (pairOf ch)
theorem Draw.pairs {ch : Chart} {n : Nat} (h : Draw ch n) : ((lettersOf ch).map fun c => PyData.tuple (dIs (ptsOf ch c))) = (pairsOf ch).map dE := by
  unfold pairsOf
  rw [List.map_map]
  refine List.map_congr_left fun c hc => ?_
  rw [h.letters] at hc
  exact h.pair hc
theorem ends_len : ∀ (rows : Chart) (k : Nat), (endsFrom k rows).length = rows.flatten.length
  | [], k => rfl
  | row :: r, k => by simp [endsFrom, ends_len r (k + 1)]
theorem row_le : ∀ {rows : Chart} {r : List Nat}, r ∈ rows → r.length ≤ rows.flatten.length
  | x :: rows, r, h => by
    rcases List.mem_cons.mp h with rfl | h
    · simp
    · have := row_le h
      simp only [List.flatten_cons, List.length_append]; omega
theorem Draw.small {ch : Chart} {n : Nat} (h : Draw ch n) : Small ch := fun r hr => by
  have h1 : r.length ≤ ch.flatten.length := row_le hr
  have := h.len
  have := h.n8
  omega
theorem Draw.ends {ch : Chart} {n : Nat} (h : Draw ch n) : (ends ch).length = 2 * n := by rw [ends_len, h.len]
theorem letters_len (ch : Chart) : (lettersOf ch).length ≤ 8 := by
  unfold lettersOf; rw [List.length_take]; exact Nat.min_le_right _ _
def isMapB (ch : Chart) : Bool := isDraw ch && (decide ((reachL (pairsOf ch) 0).length = ch.length) && decide (ch.length + (walks ch).length = (lettersOf ch).length + 2))
theorem eqv_int (a b : Int) : PyData.eqv (.int a) (.int b) = decide (a = b) := by
  have h : (a == b) = decide (a = b) := by rw [Bool.eq_iff_iff]; simp
  simp [PyData.eqv, h]
theorem dop_eq_int (a b : Int) : dop_eq [.int a, .int b] = some (.bool (decide (a = b))) := by
  rw [dop_eq_of rfl rfl (by simp [PyData.depth]), eqv_int]
theorem dop_ne_int (a b : Int) : dop_ne [.int a, .int b] = some (.bool (!decide (a = b))) := by
  rw [dop_ne_of rfl rfl (by simp [PyData.depth]), eqv_int]
theorem len_list (l : List D) : dop_len [.list l] = some (dI l.length) := rfl
theorem len_tup (l : List D) : dop_len [.tuple l] = some (dI l.length) := rfl
theorem len_str {l : List Nat} (h : l.length ≤ 1000) : dop_len [dS l] = some (dI l.length) := by
  have : l.length ≤ lim := Nat.le_trans h (by decide)
  simp [dop_len, guardO, this]
theorem m_is_map {n : Nat} {ch : Chart} (h : ch.flatten.length ≤ 1000) (h2 : ch.length ≤ 1000) : run T (n + 5) 12 none [dC ch] = .ok (.bool (isMapB ch), []) := by
  rw [run_fn T_is_map rfl rfl]
  unfold b_is_map isMapB
  have hd := m_is_drawing (n := n + 3) h h2
  have hlen : dop_len [dC ch] = some (dI ch.length) := by rw [len_tup, List.length_map]
  cases hb : isDraw ch with
  | false =>
    rw [hb] at hd
    simp [denS, e_or, e_op, e_call, e_cons, e_nil, e_var, e_lit, getS, opD, hd, dop_not, endOf]
  | true =>
    rw [hb] at hd
    have D := isDraw_iff.mp hb
    have hl := m_letters_of (n := n + 3) h
    have hp := m_pairs_of (n := n + 2) (ls := lettersOf ch) h (Nat.le_trans (letters_len ch) (by decide))
    rw [D.pairs] at hp
    have hr := m_reachedL (n := n + 3) (pairs := pairsOf ch) (s := 0) (by unfold pairsOf; rw [List.length_map]; exact Nat.le_trans (letters_len ch) (by decide))
    have hE : (Bm.ends ch).length ≤ 100 := by rw [D.ends]; have := D.n8; omega
    have ho := m_rounds (n := n) D.small hE
    have l1 : dop_len [.list (dIs (reachL (pairsOf ch) 0))] = some (dI (reachL (pairsOf ch) 0).length) := by rw [len_list, List.length_map]
    have l2 : dop_len [.list ((rnds ch).map fun w => PyData.tuple [dS (landT ch w), .tuple (w.map dE)])] = some (dI (walks ch).length) := by rw [len_list, List.length_map, (rnds_perm ch).length_eq]
    have l3 := len_str (l := lettersOf ch) (Nat.le_trans (letters_len ch) (by decide))
    have n1 := dop_ne_int ((reachL (pairsOf ch) 0).length : Int) (ch.length : Int)
    have n2 : decide (((reachL (pairsOf ch) 0).length : Int) = (ch.length : Int)) = decide ((reachL (pairsOf ch) 0).length = ch.length) := by rw [decide_eq_decide]; omega
    have n3 : dop_eq [.int ((ch.length : Int) - ((lettersOf ch).length : Int) + ((walks ch).length : Int)), .int 2] = some (.bool (decide (ch.length + (walks ch).length = (lettersOf ch).length + 2))) := by
      rw [dop_eq_int]; congr 2; rw [decide_eq_decide]; omega
    rw [n2] at n1
    generalize (rnds ch).map (fun w => PyData.tuple [dS (landT ch w), .tuple (w.map dE)]) = RL at *
    generalize (pairsOf ch).map dE = PL at *
    generalize hq : dIs (reachL (pairsOf ch) 0) = QL at *
    generalize (reachL (pairsOf ch) 0).length = rl at *
    have hr : run T (n + 4) 8 none [.list PL, .int 0] = .ok (.list QL, []) := hr
    cases hc : decide (rl = ch.length) with
    | false =>
      rw [hc] at n1
      simp [denS, e_or, e_op, e_call, e_cons, e_nil, e_var, e_lit, getS, opD, hd, dop_not, hl, hp, hr, l1, hlen, n1, endOf]
    | true =>
      rw [hc] at n1
      simp [denS, e_or, e_op, e_call, e_cons, e_nil, e_var, e_lit, getS, opD, hd, dop_not, hl, hp, hr, l1, l2, l3, hlen, n1, n3, ho, dop_sub, dop_add, endOf]
theorem m_need_map {n : Nat} {ch : Chart} (h : ch.flatten.length ≤ 1000) (h2 : ch.length ≤ 1000) : run T (n + 6) 13 none [dC ch] = if isMapB ch then .ok (.none, []) else .exc 0 := by
  rw [run_fn T_need_map rfl rfl]
  unfold b_need_map
  have hm := m_is_map (n := n) h h2
  cases hb : isMapB ch with
  | false =>
    rw [hb] at hm
    simp [denS, e_op, e_call, e_cons, e_nil, e_var, getS, opD, hm, dop_not, endOf]
  | true =>
    rw [hb] at hm
    simp [denS, e_op, e_call, e_cons, e_nil, e_var, getS, opD, hm, dop_not, endOf]
end Bm
end
section
set_option Elab.async false
set_option linter.all false
set_option maxRecDepth 100000
set_option maxHeartbeats 1000000
/-! ends, the other end, going on: as permutations -/
namespace Bm
open PySem
theorem posOf_some {c : Nat} : ∀ {l : List Nat} {q : Nat}, posOf c l = some q → l[q]? = some c
  | [], _, h => by cases h
  | a :: r, q, h => by
    simp only [posOf] at h
    by_cases ha : a = c
    · rw [if_pos ha] at h; cases h; simp [ha]
    · rw [if_neg ha] at h
      cases hr : posOf c r with
      | none => rw [hr] at h; cases h
      | some k =>
        rw [hr] at h
        cases h
        simpa using posOf_some hr
theorem posOf_none {c : Nat} : ∀ {l : List Nat}, posOf c l = none → ∀ q : Nat, l[q]? ≠ some c
  | [], _, q => by simp
  | a :: r, h, q => by
    simp only [posOf] at h
    by_cases ha : a = c
    · rw [if_pos ha] at h; cases h
    · rw [if_neg ha] at h
      cases hr : posOf c r with
      | some k => rw [hr] at h; cases h
      | none =>
        cases q with
        | zero => simp [ha]
        | succ q => simpa using posOf_none hr q
theorem posOf_first {c : Nat} : ∀ {l : List Nat} {q : Nat}, posOf c l = some q → ∀ j, j < q → l[j]? ≠ some c
  | [], _, h, _, _ => by cases h
  | a :: r, q, h, j, hj => by
    simp only [posOf] at h
    by_cases ha : a = c
    · rw [if_pos ha] at h; cases h; omega
    · rw [if_neg ha] at h
      cases hr : posOf c r with
      | none => rw [hr] at h; cases h
      | some k =>
        rw [hr] at h
        cases h
        cases j with
        | zero => simp [ha]
        | succ j => simpa using posOf_first hr j (by show j < k; have : j + 1 < k + 1 := hj; omega)
theorem posFrom_some {c : Nat} {l : List Nat} {k q : Nat} (h : posFrom c l k = some q) : l[q]? = some c ∧ k ≤ q := by
  unfold posFrom at h
  cases hr : posOf c (l.drop k) with
  | none => rw [hr] at h; cases h
  | some j =>
    rw [hr] at h
    cases h
    have := posOf_some hr
    rw [List.getElem?_drop] at this
    refine ⟨?_, by show k ≤ j + k; omega⟩
    show l[j + k]? = some c
    rw [Nat.add_comm]; exact this
theorem posFrom_none {c : Nat} {l : List Nat} {k : Nat} (h : posFrom c l k = none) : ∀ q, k ≤ q → l[q]? ≠ some c := by
  intro q hq
  unfold posFrom at h
  cases hr : posOf c (l.drop k) with
  | some j => rw [hr] at h; cases h
  | none =>
    have := posOf_none hr (q - k)
    rw [List.getElem?_drop] at this
    have e : k + (q - k) = q := by omega
    rwa [e] at this
def pick (c : Nat) (e : End) (k : Nat) (row : List Nat) : Option Nat := (posOf c row).elim none fun q => if (k, q) = e then posFrom c row (q + 1) else some q
theorem otherFrom_cons {c k : Nat} {e : End} {row : List Nat} {rows : Chart} : otherFrom c e k (row :: rows) = (pick c e k row).elim (otherFrom c e (k + 1) rows) fun q => some (k, q) := by
  unfold pick
  rw [otherFrom]
  cases posOf c row with
  | none => rfl
  | some q =>
    simp only [Option.elim_some]
    by_cases h : (k, q) = e
    · rw [if_pos h]
      cases posFrom c row (q + 1) <;> rfl
    · rw [if_neg h]; rfl
theorem otherFrom_some {c : Nat} {e : End} : ∀ {rows : Chart} {k : Nat} {x : End}, otherFrom c e k rows = some x → k ≤ x.1 ∧ (∃ row, rows[x.1 - k]? = some row ∧ row[x.2]? = some c) ∧ x ≠ e
  | [], k, x, h => by cases h
  | row :: rows, k, x, h => by
    rw [otherFrom_cons] at h
    cases hm : pick c e k row with
    | some q =>
      rw [hm] at h
      simp only [Option.elim_some, Option.elim_none] at h
      cases h
      cases hp : posOf c row with
      | none => unfold pick at hm; rw [hp] at hm; cases hm
      | some q' =>
        unfold pick at hm
        rw [hp] at hm
        simp only [Option.elim_some] at hm
        by_cases he : (k, q') = e
        · rw [if_pos he] at hm
          have h1 := posFrom_some hm
          refine ⟨Nat.le_refl _, ⟨row, by simp, h1.1⟩, fun z => ?_⟩
          rw [← he] at z
          have : q = q' := congrArg Prod.snd z
          omega
        · rw [if_neg he] at hm; cases hm
          exact ⟨Nat.le_refl _, ⟨row, by simp, posOf_some hp⟩, he⟩
    | none =>
      rw [hm] at h
      simp only [Option.elim_some, Option.elim_none] at h
      obtain ⟨h1, ⟨row', h2, h3⟩, h4⟩ := otherFrom_some h
      refine ⟨by omega, ⟨row', ?_, h3⟩, h4⟩
      have : x.1 - k = (x.1 - (k + 1)) + 1 := by omega
      rw [this, List.getElem?_cons_succ]; exact h2
theorem otherFrom_none {c : Nat} {e : End} : ∀ {rows : Chart} {k : Nat}, otherFrom c e k rows = none → ∀ x : End, k ≤ x.1 → (∃ row, rows[x.1 - k]? = some row ∧ row[x.2]? = some c) → x = e
  | [], k, h, x, _, hx => by obtain ⟨row, h1, _⟩ := hx; simp at h1
  | row :: rows, k, h, x, hk, hx => by
    rw [otherFrom_cons] at h
    cases hm : pick c e k row with
    | some q => rw [hm] at h; cases h
    | none =>
      rw [hm] at h
      simp only [Option.elim_some, Option.elim_none] at h
      obtain ⟨row', h1, h2⟩ := hx
      by_cases hxk : x.1 = k
      · rw [hxk, Nat.sub_self, List.getElem?_cons_zero] at h1
        cases h1
        cases hp : posOf c row with
        | none => exact absurd h2 (posOf_none hp _)
        | some q' =>
          unfold pick at hm
          rw [hp] at hm
          simp only [Option.elim_some] at hm
          by_cases he : (k, q') = e
          · rw [if_pos he] at hm
            have h3 : x.2 = q' := by
              rcases Nat.lt_trichotomy x.2 q' with z | z | z
              · exact absurd h2 (posOf_first hp _ z)
              · exact z
              · exact absurd h2 (posFrom_none hm _ z)
            rw [← he, ← h3, ← hxk]
          · rw [if_neg he] at hm; cases hm
      · refine otherFrom_none h x (by omega) ⟨row', ?_, h2⟩
        have : x.1 - k = (x.1 - (k + 1)) + 1 := by omega
        rw [this, List.getElem?_cons_succ] at h1; exact h1
theorem val_letter {ch : Chart} {e : End} (h : Val ch e) : ∃ row, ch[e.1]? = some row ∧ row[e.2]? = some (letterAt ch e) := by
  obtain ⟨row, h1, h2⟩ := h
  refine ⟨row, h1, ?_⟩
  unfold letterAt
  simp only [List.getD_eq_getElem?_getD, h1, Option.getD_some, List.getElem?_eq_getElem h2]
theorem letter_of {ch : Chart} {e : End} {row : List Nat} {c : Nat} (h1 : ch[e.1]? = some row) (h2 : row[e.2]? = some c) : Val ch e ∧ letterAt ch e = c := by
  refine ⟨⟨row, h1, (List.getElem?_eq_some_iff.mp h2).1⟩, ?_⟩
  unfold letterAt
  simp only [List.getD_eq_getElem?_getD, h1, Option.getD_some, h2]
/-- the letters of all ends, in order -/
theorem map_letterFrom {ch : Chart} : ∀ (rows : Chart) (k : Nat), (∀ i, ch[k + i]? = rows[i]?) → (endsFrom k rows).map (letterAt ch) = rows.flatten
  | [], k, _ => rfl
  | row :: rows, k, h => by
    have h0 : ch[k]? = some row := by simpa using h 0
    simp only [endsFrom, List.map_append, List.map_map, List.flatten_cons]
    congr 1
    · refine List.ext_getElem? fun q => ?_
      rw [List.getElem?_map]
      by_cases hq : q < row.length
      · rw [List.getElem?_range hq]
        simp only [Option.map_some, Function.comp]
        have := val_letter (ch := ch) (e := (k, q)) ⟨row, h0, hq⟩
        obtain ⟨row', h1, h2⟩ := this
        rw [h0] at h1
        cases h1
        exact h2.symm
      · rw [List.getElem?_eq_none (by simpa using hq), List.getElem?_eq_none (by simpa using hq)]
        rfl
    · exact map_letterFrom rows (k + 1) fun i => by
        have := h (i + 1)
        rw [List.getElem?_cons_succ] at this
        rw [← this]
        congr 1
        omega
theorem map_letter (ch : Chart) : (ends ch).map (letterAt ch) = ch.flatten := map_letterFrom ch 0 fun i => by simp
theorem cnt_map (ch : Chart) (c : Nat) : ((ends ch).filter fun x => letterAt ch x == c).length = cnt c ch.flatten := by
  rw [← map_letter]
  unfold cnt
  rw [List.filter_map, List.length_map]
  rfl
theorem nodup_two {α : Type} {l : List α} (h : l.Nodup) (h2 : l.length = 2) {a : α} (ha : a ∈ l) : ∃ b, b ∈ l ∧ b ≠ a ∧ ∀ x ∈ l, x = a ∨ x = b := by
  match l, h2 with
  | [x, y], _ =>
    have hxy : x ≠ y := by
      have := (List.nodup_cons.mp h).1
      exact fun z => this (by simp [z])
    rcases List.mem_cons.mp ha with rfl | ha
    · exact ⟨y, by simp, hxy.symm, fun z hz => by simpa using hz⟩
    · have : a = y := by simpa using ha
      subst this
      exact ⟨x, by simp, hxy, fun z hz => by
        have : z = x ∨ z = a := by simpa using hz
        exact this.symm⟩
structure IsOther (ch : Chart) (e x : End) : Prop where
  val : Val ch x
  ne : x ≠ e
  let_ : letterAt ch x = letterAt ch e
  all : ∀ y, Val ch y → letterAt ch y = letterAt ch e → y = e ∨ y = x
theorem flat_mem {ch : Chart} {e : End} (h : Val ch e) : letterAt ch e ∈ ch.flatten := by
  rw [← map_letter]
  exact List.mem_map_of_mem (mem_ends.mpr h)
theorem twice_mem {n c : Nat} (h : c ∈ twice n) : c ∈ NM.take n := (List.mem_append.mp h).elim id id
theorem Draw.let_mem {ch : Chart} {n : Nat} (D : Draw ch n) {e : End} (h : Val ch e) : letterAt ch e ∈ NM.take n := twice_mem (D.pm.subset (flat_mem h))
theorem Draw.other {ch : Chart} {n : Nat} (D : Draw ch n) {e : End} (h : Val ch e) : IsOther ch e (otherEnd ch e) := by
  have hc := cnt_map ch (letterAt ch e)
  rw [cnt_perm D.pm, cnt_twice n D.n8 _ (D.let_mem h)] at hc
  have hnd : ((Bm.ends ch).filter fun x => letterAt ch x == letterAt ch e).Nodup := (nodup_endsFrom ch 0).filter _
  obtain ⟨b, hb, hne, hall⟩ := nodup_two hnd hc (a := e) (List.mem_filter.mpr ⟨mem_ends.mpr h, by simp⟩)
  have hb' := List.mem_filter.mp hb
  have hbv := mem_ends.mp hb'.1
  have hbl : letterAt ch b = letterAt ch e := by simpa using hb'.2
  have hall' : ∀ y, Val ch y → letterAt ch y = letterAt ch e → y = e ∨ y = b := fun y hy hl => hall y (List.mem_filter.mpr ⟨mem_ends.mpr hy, by simp [hl]⟩)
  have key : otherEnd ch e = b := by
    unfold otherEnd
    cases ho : otherFrom (letterAt ch e) e 0 ch with
    | none =>
      obtain ⟨row, h1, h2⟩ := val_letter hbv
      rw [hbl] at h2
      exact absurd (otherFrom_none ho b (Nat.zero_le _) ⟨row, by simpa using h1, h2⟩) hne
    | some x =>
      obtain ⟨_, ⟨row, h1, h2⟩, h3⟩ := otherFrom_some ho
      rw [Nat.sub_zero] at h1
      obtain ⟨v, l⟩ := letter_of h1 h2
      exact (hall' x v l).resolve_left h3
  rw [key]
  exact ⟨hbv, hne, hbl, hall'⟩
theorem IsOther.unique {ch : Chart} {e x y : End} (h : IsOther ch e x) (hv : Val ch y) (hn : y ≠ e) (hl : letterAt ch y = letterAt ch e) : y = x := (h.all y hv hl).resolve_left hn
theorem Draw.other_other {ch : Chart} {n : Nat} (D : Draw ch n) {e : End} (h : Val ch e) : otherEnd ch (otherEnd ch e) = e := by
  have o := D.other h
  have o2 := D.other o.val
  exact ((o2.all e h o.let_.symm).resolve_left o.ne.symm).symm
theorem nextA_inj {ch : Chart} {a b : End} (ha : Val ch a) (hb : Val ch b) (h : nextA ch a = nextA ch b) : a = b := by
  obtain ⟨ra, a1, a2⟩ := ha
  obtain ⟨rb, b1, b2⟩ := hb
  unfold nextA at h
  have h1 : a.1 = b.1 := (Prod.mk.inj h).1
  rw [h1, b1] at a1
  cases a1
  have h2 : (a.2 + 1) % (ch.getD a.1 []).length = (b.2 + 1) % (ch.getD b.1 []).length   := (Prod.mk.inj h).2
  rw [h1, List.getD_eq_getElem?_getD, b1, Option.getD_some] at h2
  have h3 : a.2 = b.2 := by
    by_cases ea : a.2 + 1 = ra.length
    · rw [ea, Nat.mod_self] at h2
      by_cases eb : b.2 + 1 = ra.length
      · omega
      · rw [Nat.mod_eq_of_lt (by omega)] at h2; omega
    · rw [Nat.mod_eq_of_lt (by omega)] at h2
      by_cases eb : b.2 + 1 = ra.length
      · rw [eb, Nat.mod_self] at h2; omega
      · rw [Nat.mod_eq_of_lt (by omega)] at h2; omega
  exact Prod.ext h1 h3
theorem Draw.phi_inj {ch : Chart} {n : Nat} (D : Draw ch n) {a b : End} (ha : Val ch a) (hb : Val ch b) (h : phi ch a = phi ch b) : a = b := by
  have h1 := nextA_inj (D.other ha).val (D.other hb).val h
  rw [← D.other_other ha, h1, D.other_other hb]
end Bm
end
section
set_option Elab.async false
set_option linter.all false
set_option maxRecDepth 100000
set_option maxHeartbeats 1000000
/-! lists of ends that go round, and how many there are -/
namespace Bm
open PySem
section
variable {α : Type} {f : α → α}
def rot1 : List α → List α
  | [] => []
  | a :: l => l ++ [a]
def Cyc (f : α → α) (w : List α) : Prop := w ≠ [] ∧ w.map f = rot1 w
theorem Cyc.one {a : α} {l : List α} (h : Cyc f (a :: l)) : Cyc f (l ++ [a]) := by
  refine ⟨by simp, ?_⟩
  have h2 : f a :: l.map f = l ++ [a] := h.2
  cases l with
  | nil =>
    simp only [List.map_nil, List.nil_append] at h2
    simp only [List.nil_append, List.map_cons, List.map_nil, rot1, h2]
  | cons b m =>
    simp only [List.map_cons, List.cons_append, List.cons.injEq] at h2
    simp only [List.cons_append, List.map_cons, List.map_append, List.map_nil, rot1]
    rw [← h2.2, ← h2.1]
    simp
theorem Cyc.rot : ∀ {u v : List α}, Cyc f (u ++ v) → Cyc f (v ++ u)
  | [], v, h => by simpa using h
  | a :: u, v, h => by
    have h1 : Cyc f ((u ++ v) ++ [a]) := Cyc.one h
    rw [List.append_assoc] at h1
    have := Cyc.rot (u := u) (v := v ++ [a]) h1
    simpa using this
theorem Cyc.at {w : List α} {x : α} (h : Cyc f w) (hx : x ∈ w) : ∃ u v, w = u ++ x :: v ∧ Cyc f (x :: (v ++ u)) := by
  obtain ⟨u, v, rfl⟩ := List.append_of_mem hx
  exact ⟨u, v, rfl, by simpa using Cyc.rot h⟩
theorem Cyc.pre {w : List α} {x : α} (h : Cyc f w) (hx : x ∈ w) : ∃ y ∈ w, f y = x := by
  have : x ∈ w.map f := by
    rw [h.2]
    cases w with
    | nil => cases hx
    | cons a l =>
      rcases List.mem_cons.mp hx with rfl | hx
      · simp [rot1]
      · simp [rot1, hx]
  obtain ⟨y, hy, e⟩ := List.mem_map.mp this
  exact ⟨y, hy, e⟩
theorem Cyc.nxt {w : List α} {x : α} (h : Cyc f w) (hx : x ∈ w) : f x ∈ w := by
  have : f x ∈ w.map f := List.mem_map_of_mem hx
  rw [h.2] at this
  cases w with
  | nil => cases hx
  | cons a l =>
    simp only [rot1, List.mem_append, List.mem_singleton] at this
    rcases this with z | z
    · exact List.mem_cons_of_mem _ z
    · rw [z]; exact List.mem_cons_self
theorem chain_sub {v : List α} (hv : ∀ x ∈ v, f x ∈ v) : ∀ (l : List α) (x z : α), (x :: l).map f = l ++ [z] → x ∈ v → ∀ y ∈ l, y ∈ v
  | [], _, _, _, _, y, hy => by cases hy
  | b :: l, x, z, h, hx, y, hy => by
    simp only [List.map_cons, List.cons_append, List.cons.injEq] at h
    have hb : b ∈ v := h.1 ▸ hv x hx
    rcases List.mem_cons.mp hy with rfl | hy
    · exact hb
    · exact chain_sub hv l b z (by simp only [List.map_cons]; exact h.2) hb y hy
theorem Cyc.sub {w v : List α} {x : α} (h : Cyc f w) (hv : Cyc f v) (hx : x ∈ w) (hxv : x ∈ v) : ∀ y ∈ w, y ∈ v := by
  obtain ⟨a, b, rfl, h'⟩ := h.at hx
  have := chain_sub (f := f) (fun z hz => hv.nxt hz) (b ++ a) x x h'.2 hxv
  intro y hy
  rcases List.mem_append.mp hy with z | z
  · exact this y (List.mem_append_right _ z)
  · rcases List.mem_cons.mp z with z | z
    · rw [z]; exact hxv
    · exact this y (List.mem_append_left _ z)
theorem nodup_of_flat {ws : List (List α)} {w : List α} (h : ws.flatten.Nodup) (hw : w ∈ ws) : w.Nodup := by
  obtain ⟨u, v, rfl⟩ := List.append_of_mem hw
  rw [List.flatten_append, List.flatten_cons] at h
  exact (List.nodup_append.mp (List.nodup_append.mp h).2.1).1
theorem dec_len [DecidableEq α] : ∀ {ws vs : List (List α)}, ws.flatten.Nodup → ws.flatten.Perm vs.flatten → (∀ w ∈ ws, Cyc f w) → (∀ v ∈ vs, Cyc f v) → ws.length = vs.length
  | [], vs, _, hp, _, hv => by
    cases vs with
    | nil => rfl
    | cons v vs =>
      have := hp.length_eq
      have h0 := (hv v List.mem_cons_self).1
      have : 0 < v.length := List.length_pos_iff.mpr h0
      simp only [List.flatten_nil, List.length_nil, List.flatten_cons, List.length_append] at *
      omega
  | w :: ws, vs, hn, hp, hw, hv => by
    have cw := hw w List.mem_cons_self
    obtain ⟨x, hx⟩ := List.exists_mem_of_ne_nil _ cw.1
    have hxv : x ∈ vs.flatten := hp.subset (by rw [List.flatten_cons]; exact List.mem_append_left _ hx)
    obtain ⟨v, hvm, hxv⟩ := List.mem_flatten.mp hxv
    have cv := hv v hvm
    have nv : v.Nodup := nodup_of_flat (hp.nodup hn) hvm
    have nw : w.Nodup := nodup_of_flat hn List.mem_cons_self
    have pwv : w.Perm v := (List.perm_ext_iff_of_nodup nw nv).mpr fun y => ⟨cw.sub cv hx hxv y, cv.sub cw hxv hx y⟩
    have pe : vs.Perm (v :: vs.erase v) := List.perm_cons_erase hvm
    have h1 : (w ++ ws.flatten).Perm (v ++ (vs.erase v).flatten) := by
      have := hp.trans pe.flatten
      simpa using this
    have h2 : ws.flatten.Perm (vs.erase v).flatten := (List.perm_append_left_iff w).mp (h1.trans ((pwv.append_right _).symm))
    have ih := dec_len (ws := ws) (vs := vs.erase v) (List.nodup_append.mp (by simpa using hn)).2.1 h2 (fun u hu => hw u (List.mem_cons_of_mem _ hu)) (fun u hu => hv u (List.mem_of_mem_erase hu))
    rw [List.length_erase_of_mem hvm] at ih
    have : 0 < vs.length := List.length_pos_of_mem hvm
    simp only [List.length_cons]
    omega
end
/-! the walks of a drawing -/
structure Dec (ch : Chart) (ws : List (List End)) : Prop where
  pm : ws.flatten.Perm (ends ch)
  cyc : ∀ w ∈ ws, Cyc (phi ch) w
theorem Dec.nd {ch : Chart} {ws : List (List End)} (h : Dec ch ws) : ws.flatten.Nodup := h.pm.symm.nodup (nodup_endsFrom ch 0)
theorem Dec.len {ch : Chart} {ws vs : List (List End)} (h : Dec ch ws) (h' : Dec ch vs) : ws.length = vs.length := dec_len h.nd (h.pm.trans h'.pm.symm) h.cyc h'.cyc
theorem path_map {ch : Chart} : ∀ (w : List End) (x e e' : End), Path ch (x :: w) e e' → x = e ∧ (x :: w).map (phi ch) = w ++ [e']
  | [], x, e, e', h => by
    obtain ⟨h1, h2⟩ := h
    have h2 : phi ch e = e' := h2
    exact ⟨h1, by simp [h1, h2]⟩
  | y :: w, x, e, e', h => by
    obtain ⟨h1, h2⟩ := h
    obtain ⟨h3, h4⟩ := path_map w y _ _ h2
    refine ⟨h1, ?_⟩
    rw [List.map_cons, h4, h1, ← h3]
    rfl
theorem wstep_cyc {ch : Chart} {n : Nat} (D : Draw ch n) {s : List End × List (List End)} {e : End} (h : WOkS ch s) (hc : ∀ w ∈ s.2, Cyc (phi ch) w) (hv : Val ch e) : (∀ w ∈ (wstep ch s e).2, Cyc (phi ch) w) ∧ e ∈ (wstep ch s e).1 ∧ ∀ x ∈ s.1, x ∈ (wstep ch s e).1 := by
  have hE : (ends ch).length ≤ 100 := by rw [D.ends]; have := D.n8; omega
  unfold wstep
  by_cases he : e ∈ s.1
  · rw [if_pos he]; exact ⟨hc, he, fun x hx => hx⟩
  · rw [if_neg he]
    obtain ⟨p, hp⟩ := goOn_some (ch := ch) 200 s.1 [] e h.nd h.val hv (by omega)
    rw [hp]
    obtain ⟨seen', w, e'⟩ := p
    obtain ⟨w', h1, h2, h3, h4, h5, h6, h7⟩ := goOn_spec 200 s.1 [] seen' w e e' hp h.nd hv
    simp only [List.nil_append] at h2
    subst h2
    cases w with
    | nil => exact absurd rfl (h7 he)
    | cons x l =>
      obtain ⟨ex, em⟩ := path_map l x e e' h3
      subst ex
      have hnw : (x :: l).Nodup := (List.nodup_append.mp (h1 ▸ h4)).2.1
      have hno : ∀ y ∈ x :: l, y ∉ s.1 := fun y hy z => (List.nodup_append.mp (h1 ▸ h4)).2.2 y z y hy rfl
      have pre : ∀ y, Val ch y → phi ch y ∈ s.1 → y ∈ s.1 := fun y hy hz => by
        rw [← h.fl] at hz
        obtain ⟨u, hu, hyu⟩ := List.mem_flatten.mp hz
        obtain ⟨z, hzu, ez⟩ := (hc u hu).pre hyu
        have hzs : z ∈ s.1 := by rw [← h.fl]; exact List.mem_flatten.mpr ⟨u, hu, hzu⟩
        rw [← D.phi_inj (h.val z hzs) hy ez]; exact hzs
      have e'mem : e' ∈ (x :: l).map (phi ch) := by rw [em]; simp
      obtain ⟨y, hy, ey⟩ := List.mem_map.mp e'mem
      have hns : e' ∉ s.1 := fun z => hno y hy (pre y (h6 y hy) (ey ▸ z))
      have hin : e' ∈ x :: l := by
        rw [h1] at h5
        exact (List.mem_append.mp h5).resolve_left hns
      have hnm : (l ++ [e']).Nodup := by
        rw [← em]
        rw [List.nodup_iff_pairwise_ne, List.pairwise_map]
        exact (List.nodup_iff_pairwise_ne.mp hnw).imp_of_mem fun {a b} ha hb hne z => hne (D.phi_inj (h6 a ha) (h6 b hb) z)
      have hee : e' = x := by
        rcases List.mem_cons.mp hin with z | z
        · exact z
        · exact absurd rfl ((List.nodup_append.mp hnm).2.2 e' z e' (by simp))
      refine ⟨fun u hu => ?_, ?_, fun z hz => ?_⟩
      · rcases List.mem_append.mp hu with z | z
        · exact hc u z
        · rw [List.mem_singleton.mp z]
          exact ⟨by simp, by rw [em, hee]; rfl⟩
      · show x ∈ seen'
        rw [h1]; simp
      · show z ∈ seen'
        rw [h1]; exact List.mem_append_left _ hz
theorem walksOf_cyc {ch : Chart} {n : Nat} (D : Draw ch n) : ∀ (es : List End) (s : List End × List (List End)), (∀ e ∈ es, Val ch e) → WOkS ch s → (∀ w ∈ s.2, Cyc (phi ch) w) →
    (∀ w ∈ (es.foldl (wstep ch) s).2, Cyc (phi ch) w) ∧ (∀ e ∈ es, e ∈ (es.foldl (wstep ch) s).1) ∧ ∀ x ∈ s.1, x ∈ (es.foldl (wstep ch) s).1
  | [], s, _, _, hc => ⟨hc, (fun e he => by cases he), fun x hx => hx⟩
  | e :: es, s, hv, h, hc => by
    have hE : (ends ch).length ≤ 100 := by rw [D.ends]; have := D.n8; omega
    obtain ⟨h1, h2, h3⟩ := wstep_cyc D h hc (hv e List.mem_cons_self)
    obtain ⟨i1, i2, i3⟩ := walksOf_cyc D es (wstep ch s e) (fun x hx => hv x (List.mem_cons_of_mem _ hx)) (wstep_ok hE h (hv e List.mem_cons_self)) h1
    refine ⟨i1, fun x hx => ?_, fun x hx => i3 x (h3 x hx)⟩
    rcases List.mem_cons.mp hx with rfl | hx
    · exact i3 _ h2
    · exact i2 x hx
theorem Draw.dec {ch : Chart} {n : Nat} (D : Draw ch n) : Dec ch (walks ch) := by
  have hE : (Bm.ends ch).length ≤ 100 := by rw [D.ends]; have := D.n8; omega
  have ok := walks_ok hE
  obtain ⟨h1, h2, _⟩ := walksOf_cyc D (Bm.ends ch) ([], []) (fun e he => mem_ends.mp he) wstart_ok (fun w hw => by cases hw)
  refine ⟨?_, h1⟩
  have e : (walks ch).flatten = (walksOf ch (Bm.ends ch)).1 := ok.fl
  rw [e]
  exact (List.perm_ext_iff_of_nodup ok.nd (nodup_endsFrom ch 0)).mpr fun x => ⟨fun hx => mem_ends.mpr (ok.val x hx), h2 x⟩
end Bm
end
section
set_option Elab.async false
set_option linter.all false
set_option maxRecDepth 100000
set_option maxHeartbeats 1000000
/-! a letter put in front of an end -/
namespace Bm
open PySem
def insAt (row : List Nat) (q c : Nat) : List Nat := row.take q ++ c :: row.drop q
def put (ch : Chart) (d : End) (c : Nat) : Chart := ch.set d.1 (insAt (ch.getD d.1 []) d.2 c)
def sh (d x : End) : End := if x.1 = d.1 ∧ d.2 ≤ x.2 then (x.1, x.2 + 1) else x
theorem ins_len (row : List Nat) (q c : Nat) : (insAt row q c).length = row.length + 1 := by
  unfold insAt
  simp only [List.length_append, List.length_take, List.length_cons, List.length_drop]
  omega
theorem ins_lt {row : List Nat} {q c j : Nat} (hq : q ≤ row.length) (h : j < q) : (insAt row q c)[j]? = row[j]? := by
  unfold insAt
  rw [List.getElem?_append_left (by rw [List.length_take]; omega), List.getElem?_take_of_lt h]
theorem ins_eq {row : List Nat} {q c : Nat} (hq : q ≤ row.length) : (insAt row q c)[q]? = some c := by
  unfold insAt
  rw [List.getElem?_append_right (by rw [List.length_take]; omega), List.length_take, Nat.min_eq_left hq, Nat.sub_self]
  rfl
theorem ins_gt {row : List Nat} {q c j : Nat} (hq : q ≤ row.length) (h : q ≤ j) : (insAt row q c)[j + 1]? = row[j]? := by
  unfold insAt
  rw [List.getElem?_append_right (by rw [List.length_take]; omega), List.length_take, Nat.min_eq_left hq]
  have e : j + 1 - q = (j - q) + 1 := by omega
  rw [e, List.getElem?_cons_succ, List.getElem?_drop]
  congr 1
  omega
/-- d is a place of ch -/
structure Plc (ch : Chart) (d : End) (row : List Nat) : Prop where
  at_ : ch[d.1]? = some row
  le : d.2 ≤ row.length
theorem Plc.of {ch : Chart} {d : End} (h : Val ch d) : ∃ row, Plc ch d row ∧ d.2 < row.length := by
  obtain ⟨row, h1, h2⟩ := h
  exact ⟨row, ⟨h1, Nat.le_of_lt h2⟩, h2⟩
theorem put_row {ch : Chart} {d : End} {row : List Nat} {c : Nat} (h : Plc ch d row) : (put ch d c)[d.1]? = some (insAt row d.2 c) := by
  unfold put
  have hl := (List.getElem?_eq_some_iff.mp h.at_).1
  rw [List.getElem?_set_self hl, List.getD_eq_getElem?_getD, h.at_]
  rfl
theorem put_other {ch : Chart} {d : End} {c p : Nat} (h : p ≠ d.1) : (put ch d c)[p]? = ch[p]? := by
  unfold put
  rw [List.getElem?_set_ne (Ne.symm h)]
theorem put_len (ch : Chart) (d : End) (c : Nat) : (put ch d c).length = ch.length := by unfold put; exact List.length_set ..
theorem sh_fst (d x : End) : (sh d x).1 = x.1 := by unfold sh; split <;> rfl
theorem sh_inj {d x y : End} (h : sh d x = sh d y) : x = y := by
  have h1 : x.1 = y.1 := by rw [← sh_fst d x, ← sh_fst d y, h]
  have h2 := congrArg Prod.snd h
  unfold sh at h2
  refine Prod.ext h1 ?_
  by_cases hx : x.1 = d.1 ∧ d.2 ≤ x.2
  · rw [if_pos hx] at h2
    by_cases hy : y.1 = d.1 ∧ d.2 ≤ y.2
    · rw [if_pos hy] at h2
      have h2 : x.2 + 1 = y.2 + 1 := h2
      omega
    · rw [if_neg hy] at h2
      have h2 : x.2 + 1 = y.2 := h2
      exact absurd ⟨h1 ▸ hx.1, by omega⟩ hy
  · rw [if_neg hx] at h2
    by_cases hy : y.1 = d.1 ∧ d.2 ≤ y.2
    · rw [if_pos hy] at h2
      have h2 : x.2 = y.2 + 1 := h2
      exact absurd ⟨h1 ▸ hy.1, by omega⟩ hx
    · rw [if_neg hy] at h2
      exact h2
theorem sh_ne (d x : End) : sh d x ≠ d := by
  intro h
  unfold sh at h
  by_cases hx : x.1 = d.1 ∧ d.2 ≤ x.2
  · rw [if_pos hx] at h
    have : x.2 + 1 = d.2 := congrArg Prod.snd h
    omega
  · rw [if_neg hx] at h
    subst h
    exact hx ⟨rfl, Nat.le_refl _⟩
/-- what stands at the shifted end -/
theorem put_get {ch : Chart} {d : End} {row : List Nat} {c : Nat} (h : Plc ch d row) {x : End} {r : List Nat} (hr : ch[x.1]? = some r) : ∃ r', (put ch d c)[x.1]? = some r' ∧ r'[(sh d x).2]? = r[x.2]? ∧ r'.length = (if x.1 = d.1 then r.length + 1 else r.length) := by
  by_cases hx : x.1 = d.1
  · have e : r = row := by rw [hx, h.at_] at hr; cases hr; rfl
    subst e
    refine ⟨insAt r d.2 c, by rw [hx]; exact put_row h, ?_, by rw [if_pos hx, ins_len]⟩
    unfold sh
    by_cases h2 : d.2 ≤ x.2
    · rw [if_pos ⟨hx, h2⟩]
      exact ins_gt h.le h2
    · rw [if_neg (fun z => h2 z.2)]
      exact ins_lt h.le (by omega)
  · refine ⟨r, by rw [put_other hx]; exact hr, ?_, by rw [if_neg hx]⟩
    unfold sh
    rw [if_neg (fun z => hx z.1)]
theorem put_sh {ch : Chart} {d : End} {row : List Nat} {c : Nat} (h : Plc ch d row) {x : End} (hx : Val ch x) : Val (put ch d c) (sh d x) ∧ letterAt (put ch d c) (sh d x) = letterAt ch x := by
  obtain ⟨r, h1, h2⟩ := val_letter hx
  obtain ⟨r', h3, h4, _⟩ := put_get (c := c) h h1
  rw [h2] at h4
  exact letter_of (by rw [sh_fst]; exact h3) h4
theorem put_new {ch : Chart} {d : End} {row : List Nat} {c : Nat} (h : Plc ch d row) : Val (put ch d c) d ∧ letterAt (put ch d c) d = c := letter_of (put_row h) (ins_eq h.le)
theorem put_back {ch : Chart} {d : End} {row : List Nat} {c : Nat} (h : Plc ch d row) {x : End} (hx : Val (put ch d c) x) : x = d ∨ ∃ y, Val ch y ∧ x = sh d y := by
  obtain ⟨r, h1, h2⟩ := hx
  by_cases hp : x.1 = d.1
  · rw [hp, put_row h] at h1
    cases h1
    rw [ins_len] at h2
    rcases Nat.lt_trichotomy x.2 d.2 with z | z | z
    · refine .inr ⟨x, ⟨row, by rw [hp]; exact h.at_, by have := h.le; omega⟩, ?_⟩
      unfold sh; rw [if_neg (by omega)]
    · exact .inl (Prod.ext hp z)
    · refine .inr ⟨(x.1, x.2 - 1), ⟨row, by rw [show (x.1, x.2 - 1).1 = x.1 from rfl, hp]; exact h.at_, by show x.2 - 1 < row.length; omega⟩, ?_⟩
      unfold sh
      rw [if_pos ⟨hp, by show d.2 ≤ x.2 - 1; omega⟩]
      exact Prod.ext rfl (by show x.2 = x.2 - 1 + 1; omega)
  · rw [put_other hp] at h1
    refine .inr ⟨x, ⟨r, h1, h2⟩, ?_⟩
    unfold sh; rw [if_neg (fun z => hp z.1)]
/-- the next one around -/
theorem nextA_at {ch : Chart} {x : End} {r : List Nat} (h : ch[x.1]? = some r) : nextA ch x = (x.1, (x.2 + 1) % r.length) := by
  unfold nextA
  rw [List.getD_eq_getElem?_getD, h]
  rfl
theorem put_next {ch : Chart} {d : End} {row : List Nat} {c : Nat} (h : Plc ch d row) (hd : d.2 < row.length) {x : End} (hx : Val ch x) : nextA (put ch d c) (sh d x) = if nextA ch x = d then d else sh d (nextA ch x) := by
  obtain ⟨r, h1, h2⟩ := hx
  obtain ⟨r', h3, _, h4⟩ := put_get (c := c) h h1
  rw [nextA_at (ch := put ch d c) (x := sh d x) (r := r') (by rw [sh_fst]; exact h3), nextA_at h1, sh_fst, h4]
  by_cases hp : x.1 = d.1
  · have e : r = row := by rw [hp, h.at_] at h1; cases h1; rfl
    subst e
    rw [if_pos hp]
    unfold sh
    by_cases hw : x.2 + 1 = r.length
    · have e0 : (x.2 + 1) % r.length = 0 := by rw [hw, Nat.mod_self]
      rw [e0]
      by_cases hq : d.2 ≤ x.2
      · rw [if_pos ⟨hp, hq⟩]
        have e1 : (x.2 + 1 + 1) % (r.length + 1) = 0 := by rw [hw, Nat.mod_self]
        show (x.1, (x.2 + 1 + 1) % (r.length + 1)) = _
        rw [e1]
        by_cases h0 : d.2 = 0
        · have ed : (x.1, 0) = d := Prod.ext hp h0.symm
          rw [if_pos ed]; exact ed
        · rw [if_neg (fun z => h0 (congrArg Prod.snd z).symm), if_neg (fun z => h0 (Nat.le_zero.mp z.2))]
      · omega
    · have e0 : (x.2 + 1) % r.length = x.2 + 1 := Nat.mod_eq_of_lt (by omega)
      rw [e0]
      by_cases hq : d.2 ≤ x.2
      · rw [if_pos ⟨hp, hq⟩]
        have e1 : (x.2 + 1 + 1) % (r.length + 1) = x.2 + 1 + 1 := Nat.mod_eq_of_lt (by omega)
        show (x.1, (x.2 + 1 + 1) % (r.length + 1)) = _
        rw [e1, if_neg (fun z => by have : x.2 + 1 = d.2 := congrArg Prod.snd z; omega), if_pos ⟨hp, by show d.2 ≤ x.2 + 1; omega⟩]
      · rw [if_neg (fun z => hq z.2)]
        have e1 : (x.2 + 1) % (r.length + 1) = x.2 + 1 := Nat.mod_eq_of_lt (by omega)
        rw [e1]
        by_cases h0 : x.2 + 1 = d.2
        · have ed : (x.1, x.2 + 1) = d := Prod.ext hp h0
          rw [if_pos ed]; exact ed
        · rw [if_neg (fun z => h0 (congrArg Prod.snd z)), if_neg (fun z => by have : d.2 ≤ x.2 + 1 := z.2; omega)]
  · rw [if_neg hp]
    have e1 : sh d x = x := by unfold sh; rw [if_neg (fun z => hp z.1)]
    have hn : ¬ ((x.1, (x.2 + 1) % r.length) = d) := fun z => hp (by rw [← z])
    rw [e1, if_neg hn]
    unfold sh
    rw [if_neg (fun z => hp z.1)]
theorem put_next_new {ch : Chart} {d : End} {row : List Nat} {c : Nat} (h : Plc ch d row) (hd : d.2 < row.length) : nextA (put ch d c) d = sh d d := by
  rw [nextA_at (put_row h), ins_len, Nat.mod_eq_of_lt (by omega)]
  unfold sh
  rw [if_pos ⟨rfl, Nat.le_refl _⟩]
theorem ins_perm (row : List Nat) (q c : Nat) : (insAt row q c).Perm (c :: row) := by
  unfold insAt
  refine List.perm_middle.trans ?_
  rw [List.take_append_drop]
theorem set_perm : ∀ {ch : Chart} {p : Nat} {row r' : List Nat} {c : Nat}, ch[p]? = some row → r'.Perm (c :: row) → (ch.set p r').flatten.Perm (c :: ch.flatten)
  | [], p, row, r', c, h, _ => by simp at h
  | x :: ch, 0, row, r', c, h, hp => by
    simp only [List.getElem?_cons_zero, Option.some.injEq] at h
    subst h
    simp only [List.set_cons_zero, List.flatten_cons]
    exact hp.append_right _
  | x :: ch, p + 1, row, r', c, h, hp => by
    simp only [List.getElem?_cons_succ] at h
    simp only [List.set_cons_succ, List.flatten_cons]
    exact ((set_perm h hp).append_left x).trans List.perm_middle
theorem put_flat {ch : Chart} {d : End} {row : List Nat} {c : Nat} (h : Plc ch d row) : (put ch d c).flatten.Perm (c :: ch.flatten) := by
  unfold put
  refine set_perm h.at_ ?_
  rw [List.getD_eq_getElem?_getD, h.at_]
  exact ins_perm _ _ _
end Bm
end
section
set_option Elab.async false
set_option linter.all false
set_option maxRecDepth 100000
set_option maxHeartbeats 1000000
/-! a border more -/
namespace Bm
open PySem
/-- ch' is ch with two ends more, N1 and N2, of the letter c -/
structure Ext (ch ch' : Chart) (t : End → End) (N1 N2 : End) (c : Nat) : Prop where
  val : ∀ x, Val ch x → Val ch' (t x) ∧ letterAt ch' (t x) = letterAt ch x
  inj : ∀ x y, t x = t y → x = y
  v1 : Val ch' N1
  v2 : Val ch' N2
  l1 : letterAt ch' N1 = c
  l2 : letterAt ch' N2 = c
  ne : N1 ≠ N2
  n1 : ∀ x, Val ch x → t x ≠ N1
  n2 : ∀ x, Val ch x → t x ≠ N2
  back : ∀ x, Val ch' x → x = N1 ∨ x = N2 ∨ ∃ y, Val ch y ∧ x = t y
section
variable {ch ch' : Chart} {t : End → End} {N1 N2 : End} {c n m : Nat}
theorem nodup_map_inj {α β : Type} {f : α → β} (h : ∀ x y, f x = f y → x = y) {l : List α} (hl : l.Nodup) : (l.map f).Nodup := by
  rw [List.nodup_iff_pairwise_ne, List.pairwise_map]
  exact (List.nodup_iff_pairwise_ne.mp hl).imp fun hne z => hne (h _ _ z)
theorem Ext.ends (X : Ext ch ch' t N1 N2 c) : (Bm.ends ch').Perm (N1 :: N2 :: (Bm.ends ch).map t) := by
  refine (List.perm_ext_iff_of_nodup (nodup_endsFrom ch' 0) ?_).mpr fun x => ?_
  · refine List.nodup_cons.mpr ⟨fun z => ?_, List.nodup_cons.mpr ⟨fun z => ?_, nodup_map_inj X.inj (nodup_endsFrom ch 0)⟩⟩
    · rcases List.mem_cons.mp z with z | z
      · exact X.ne z
      · obtain ⟨y, hy, e⟩ := List.mem_map.mp z; exact X.n1 y (mem_ends.mp hy) e
    · obtain ⟨y, hy, e⟩ := List.mem_map.mp z; exact X.n2 y (mem_ends.mp hy) e
  · rw [mem_ends]
    constructor
    · intro h
      rcases X.back x h with rfl | rfl | ⟨y, hy, rfl⟩
      · simp
      · simp
      · exact List.mem_cons_of_mem _ (List.mem_cons_of_mem _ (List.mem_map_of_mem (mem_ends.mpr hy)))
    · intro h
      rcases List.mem_cons.mp h with rfl | h
      · exact X.v1
      · rcases List.mem_cons.mp h with rfl | h
        · exact X.v2
        · obtain ⟨y, hy, rfl⟩ := List.mem_map.mp h
          exact (X.val y (mem_ends.mp hy)).1
theorem Ext.other (X : Ext ch ch' t N1 N2 c) (D : Draw ch n) (D' : Draw ch' m) {x : End} (h : Val ch x) : otherEnd ch' (t x) = t (otherEnd ch x) := by
  have o := D.other h
  have o' := D'.other (X.val x h).1
  refine (o'.unique (X.val _ o.val).1 (fun z => o.ne (X.inj _ _ z)) ?_).symm
  rw [(X.val _ o.val).2, (X.val x h).2, o.let_]
theorem Ext.other1 (X : Ext ch ch' t N1 N2 c) (D' : Draw ch' m) : otherEnd ch' N1 = N2 := ((D'.other X.v1).unique X.v2 X.ne.symm (by rw [X.l1, X.l2])).symm
theorem Ext.other2 (X : Ext ch ch' t N1 N2 c) (D' : Draw ch' m) : otherEnd ch' N2 = N1 := ((D'.other X.v2).unique X.v1 X.ne (by rw [X.l1, X.l2])).symm
theorem cyc_map {f g : End → End} {w : List End} (h : Cyc f w) (e : ∀ x ∈ w, g (t x) = t (f x)) : Cyc g (w.map t) := by
  refine ⟨by simp [h.1], ?_⟩
  rw [List.map_map]
  have e1 : w.map (g ∘ t) = (w.map f).map t := by
    rw [List.map_map]
    exact List.map_congr_left fun x hx => e x hx
  rw [e1, h.2]
  cases w with
  | nil => rfl
  | cons a l => simp [rot1]
/-- one round is replaced by new ones -/
theorem Ext.dec (X : Ext ch ch' t N1 N2 c) {U V new : List (List End)} {w : List End} (h : Dec ch (U ++ w :: V)) (hp : new.flatten.Perm (N1 :: N2 :: w.map t)) (hc : ∀ v ∈ new, Cyc (phi ch') v) (he : ∀ x, Val ch x → phi ch x ∉ w → phi ch' (t x) = t (phi ch x)) :
    Dec ch' (new ++ (U ++ V).map (List.map t)) := by
  have hn := h.nd
  have hdis : ∀ v, v ∈ U ∨ v ∈ V → ∀ x ∈ v, x ∉ w := fun v hv x hx hw => by
    rw [List.flatten_append, List.flatten_cons] at hn
    rcases hv with hv | hv
    · exact (List.nodup_append.mp hn).2.2 x (List.mem_flatten.mpr ⟨v, hv, hx⟩) x (List.mem_append_left _ hw) rfl
    · exact (List.nodup_append.mp (List.nodup_append.mp hn).2.1).2.2 x hw x (List.mem_flatten.mpr ⟨v, hv, hx⟩) rfl
  refine ⟨?_, fun v hv => ?_⟩
  · have e1 : ((U ++ V).map (List.map t)).flatten = (U ++ V).flatten.map t := by rw [List.map_flatten]
    rw [List.flatten_append, e1]
    refine (hp.append_right _).trans ?_
    refine List.Perm.trans ?_ X.ends.symm
    show (N1 :: N2 :: (w.map t ++ (U ++ V).flatten.map t)).Perm _
    refine List.Perm.cons _ (List.Perm.cons _ ?_)
    rw [← List.map_append]
    refine List.Perm.map _ (List.Perm.trans ?_ h.pm)
    rw [List.flatten_append, List.flatten_append, List.flatten_cons]
    have := List.perm_append_comm (l₁ := w) (l₂ := U.flatten)
    have h2 := this.append_right V.flatten
    rw [List.append_assoc, List.append_assoc] at h2
    exact h2
  · rcases List.mem_append.mp hv with hv | hv
    · exact hc v hv
    · obtain ⟨u, hu, rfl⟩ := List.mem_map.mp hv
      have hu' := List.mem_append.mp hu
      have cu : Cyc (phi ch) u := h.cyc u (hu'.elim (fun z => List.mem_append_left _ z) fun z => List.mem_append_right _ (List.mem_cons_of_mem _ z))
      refine cyc_map cu fun x hx => he x ?_ fun z => hdis u hu' _ (cu.nxt hx) z
      have : x ∈ (U ++ w :: V).flatten := List.mem_flatten.mpr ⟨u, hu'.elim (fun z => List.mem_append_left _ z) fun z => List.mem_append_right _ (List.mem_cons_of_mem _ z), hx⟩
      exact mem_ends.mp (h.pm.subset this)
/-- where going on is not what it was -/
def gTo (t : End → End) (d1 d2 N1 N2 : End) (y : End) : End := if y = d1 then N1 else if y = d2 then N2 else t y
theorem gTo_ne {d1 d2 y : End} (h1 : y ≠ d1) (h2 : y ≠ d2) : gTo t d1 d2 N1 N2 y = t y := by
  unfold gTo
  rw [if_neg h1, if_neg h2]
theorem map_g {d1 d2 : End} {l : List End} (h1 : d1 ∉ l) (h2 : d2 ∉ l) : l.map (gTo t d1 d2 N1 N2) = l.map t := by
  refine List.map_congr_left fun x hx => ?_
  exact gTo_ne (fun z => h1 (z ▸ hx)) (fun z => h2 (z ▸ hx))
/-- an inner border between two corners -/
theorem Ext.split (X : Ext ch ch' t N1 N2 c) {ws : List (List End)} {w : List End} {d1 d2 : End} (h : Dec ch ws) (hw : w ∈ ws) (h1 : d1 ∈ w) (h2 : d2 ∈ w) (hne : d1 ≠ d2)
    (hg : ∀ x, Val ch x → phi ch' (t x) = gTo t d1 d2 N1 N2 (phi ch x)) (p1 : phi ch' N1 = t d2) (p2 : phi ch' N2 = t d1) : ∃ ws', Dec ch' ws' ∧ ws'.length = ws.length + 1 := by
  obtain ⟨U, V, rfl⟩ := List.append_of_mem hw
  have cw := h.cyc w hw
  have nw := nodup_of_flat h.nd hw
  obtain ⟨u, v, rfl, cr⟩ := cw.at h1
  have h2' : d2 ∈ v ++ u := by
    rcases List.mem_append.mp h2 with z | z
    · exact List.mem_append_right _ z
    · rcases List.mem_cons.mp z with z | z
      · exact absurd z.symm hne
      · exact List.mem_append_left _ z
  obtain ⟨A, B, eAB⟩ := List.append_of_mem h2'
  rw [eAB] at cr
  have pr : (u ++ d1 :: v).Perm (d1 :: (A ++ d2 :: B)) := by
    rw [← eAB]
    exact List.perm_middle.trans (List.Perm.cons _ List.perm_append_comm)
  have nr : (d1 :: (A ++ d2 :: B)).Nodup := pr.nodup nw
  have vx : ∀ x ∈ d1 :: (A ++ d2 :: B), Val ch x := fun x hx => mem_ends.mp (h.pm.subset (List.mem_flatten.mpr ⟨_, hw, pr.symm.subset hx⟩))
  have n1 := (List.nodup_cons.mp nr).1
  have n2 := (List.nodup_append.mp (List.nodup_cons.mp nr).2)
  have d2A : d2 ∉ A := fun z => n2.2.2 d2 z d2 List.mem_cons_self rfl
  have d2B : d2 ∉ B := (List.nodup_cons.mp n2.2.1).1
  have d1A : d1 ∉ A := fun z => n1 (List.mem_append_left _ z)
  have d1B : d1 ∉ B := fun z => n1 (List.mem_append_right _ (List.mem_cons_of_mem _ z))
  have em : (d1 :: A).map (phi ch) ++ (d2 :: B).map (phi ch) = (A ++ [d2]) ++ (B ++ [d1]) := by
    have := cr.2
    simp only [rot1] at this
    rw [← List.map_append]
    simpa using this
  obtain ⟨em1, em2⟩ := List.append_inj em (by simp)
  have mp : ∀ l : List End, (∀ x ∈ l, Val ch x) → (l.map t).map (phi ch') = (l.map (phi ch)).map (gTo t d1 d2 N1 N2) := fun l hl => by
    rw [List.map_map, List.map_map]
    exact List.map_congr_left fun x hx => hg x (hl x hx)
  have g1 : gTo t d1 d2 N1 N2 d1 = N1 := by unfold gTo; rw [if_pos rfl]
  have g2 : gTo t d1 d2 N1 N2 d2 = N2 := by unfold gTo; rw [if_neg hne.symm, if_pos rfl]
  have c1 : Cyc (phi ch') (N1 :: (d2 :: B).map t) := by
    refine ⟨by simp, ?_⟩
    rw [List.map_cons, mp _ (fun x hx => vx x (List.mem_cons_of_mem _ (List.mem_append_right _ hx))), em2, List.map_append, map_g d1B d2B, p1]
    simp [rot1, g1]
  have c2 : Cyc (phi ch') (N2 :: (d1 :: A).map t) := by
    refine ⟨by simp, ?_⟩
    rw [List.map_cons, mp _ (fun x hx => vx x (by
      rcases List.mem_cons.mp hx with z | z
      · rw [z]; exact List.mem_cons_self
      · exact List.mem_cons_of_mem _ (List.mem_append_left _ z))), em1, List.map_append, map_g d1A d2A, p2]
    simp [rot1, g2]
  refine ⟨_, X.dec (new := [N1 :: (d2 :: B).map t, N2 :: (d1 :: A).map t]) h ?_ (fun v hv => ?_) (fun x hx hn => ?_), ?_⟩
  · have e : ([N1 :: (d2 :: B).map t, N2 :: (d1 :: A).map t] : List (List End)).flatten = N1 :: ((d2 :: B).map t ++ N2 :: (d1 :: A).map t) := by simp
    rw [e]
    refine List.Perm.cons _ (List.perm_middle.trans (List.Perm.cons _ ?_))
    rw [← List.map_append]
    refine List.Perm.map _ (List.Perm.trans ?_ pr.symm)
    have := List.perm_append_comm (l₁ := d2 :: B) (l₂ := d1 :: A)
    simpa using this
  · rcases List.mem_cons.mp hv with rfl | hv
    · exact c1
    · rw [List.mem_singleton.mp hv]; exact c2
  · rw [hg x hx]
    exact gTo_ne (fun z => hn (by rw [z]; exact h1)) (fun z => hn (by rw [z]; exact h2))
  · simp only [List.length_append, List.length_map, List.length_cons, List.length_nil]; omega
/-- a border from a corner to itself, or to a new point: E is what the round of d becomes -/
theorem Ext.turn (X : Ext ch ch' t N1 N2 c) {ws : List (List End)} {w : List End} {d : End} (h : Dec ch ws) (hw : w ∈ ws) (h1 : d ∈ w) (hg : ∀ x, Val ch x → phi ch' (t x) = gTo t d d N1 N1 (phi ch x)) (leaf : Bool)
    (p : if leaf then phi ch' N1 = N2 ∧ phi ch' N2 = t d else phi ch' N1 = t d ∧ phi ch' N2 = N2) : ∃ ws', Dec ch' ws' ∧ ws'.length = ws.length + (if leaf then 0 else 1) := by
  obtain ⟨U, V, rfl⟩ := List.append_of_mem hw
  have cw := h.cyc w hw
  have nw := nodup_of_flat h.nd hw
  obtain ⟨u, v, rfl, cr⟩ := cw.at h1
  have pr : (u ++ d :: v).Perm (d :: (v ++ u)) := List.perm_middle.trans (List.Perm.cons _ List.perm_append_comm)
  have nr : (d :: (v ++ u)).Nodup := pr.nodup nw
  have vx : ∀ x ∈ d :: (v ++ u), Val ch x := fun x hx => mem_ends.mp (h.pm.subset (List.mem_flatten.mpr ⟨_, hw, pr.symm.subset hx⟩))
  have n1 := (List.nodup_cons.mp nr).1
  have em : (d :: (v ++ u)).map (phi ch) = (v ++ u) ++ [d] := cr.2
  have mp : ((d :: (v ++ u)).map t).map (phi ch') = (v ++ u).map t ++ [N1] := by
    have e1 : ((d :: (v ++ u)).map t).map (phi ch') = ((d :: (v ++ u)).map (phi ch)).map (gTo t d d N1 N1) := by
      rw [List.map_map, List.map_map]
      exact List.map_congr_left fun x hx => hg x (vx x hx)
    rw [e1, em, List.map_append, map_g n1 n1]
    simp [gTo]
  have he : ∀ x, Val ch x → phi ch x ∉ u ++ d :: v → phi ch' (t x) = t (phi ch x) := fun x hx hn => by
    rw [hg x hx]
    exact gTo_ne (fun z => hn (by rw [z]; exact h1)) (fun z => hn (by rw [z]; exact h1))
  cases leaf with
  | true =>
    simp only [if_true] at p ⊢
    have c1 : Cyc (phi ch') (N1 :: N2 :: (d :: (v ++ u)).map t) := by
      refine ⟨by simp, ?_⟩
      rw [List.map_cons, List.map_cons, mp, p.1, p.2]
      simp [rot1]
    refine ⟨_, X.dec (new := [N1 :: N2 :: (d :: (v ++ u)).map t]) h ?_ (fun v hv => ?_) he, ?_⟩
    · simp only [List.flatten_cons, List.flatten_nil, List.append_nil]
      exact List.Perm.cons _ (List.Perm.cons _ (List.Perm.map _ pr.symm))
    · rw [List.mem_singleton.mp hv]; exact c1
    · simp only [List.length_append, List.length_map, List.length_cons, List.length_nil]; omega
  | false =>
    simp only [Bool.false_eq_true, if_false] at p ⊢
    have c1 : Cyc (phi ch') (N1 :: (d :: (v ++ u)).map t) := by
      refine ⟨by simp, ?_⟩
      rw [List.map_cons, mp, p.1]
      simp [rot1]
    have c2 : Cyc (phi ch') [N2] := ⟨by simp, by simp [rot1, p.2]⟩
    refine ⟨_, X.dec (new := [N1 :: (d :: (v ++ u)).map t, [N2]]) h ?_ (fun v hv => ?_) he, ?_⟩
    · have e : ([N1 :: (d :: (v ++ u)).map t, [N2]] : List (List End)).flatten = N1 :: ((d :: (v ++ u)).map t ++ [N2]) := by simp
      rw [e]
      refine List.Perm.cons _ (List.Perm.trans List.perm_append_comm ?_)
      exact List.Perm.cons _ (List.Perm.map _ pr.symm)
    · rcases List.mem_cons.mp hv with rfl | hv
      · exact c1
      · rw [List.mem_singleton.mp hv]; exact c2
    · simp only [List.length_append, List.length_map, List.length_cons, List.length_nil]; omega
end
end Bm
end
section
set_option Elab.async false
set_option linter.all false
set_option maxRecDepth 100000
set_option maxHeartbeats 1000000
/-! maps, and maps with a border more -/
namespace Bm
open PySem
/-- reached from the first point, over ends -/
inductive RE (ch : Chart) : Nat → Prop
  | zero : RE ch 0
  | step {e : End} : RE ch e.1 → Val ch e → RE ch (otherEnd ch e).1
theorem pts_ends {ch : Chart} {c : Nat} : ∀ (rows : Chart) (k : Nat), (∀ i, ch[k + i]? = rows[i]?) → ptsFrom c k rows = ((endsFrom k rows).filter fun x => letterAt ch x == c).map (·.1)
  | [], k, _ => rfl
  | row :: rows, k, h => by
    have h0 : ch[k]? = some row := by simpa using h 0
    have ih := pts_ends (ch := ch) (c := c) rows (k + 1) fun i => by
      have := h (i + 1)
      rw [List.getElem?_cons_succ] at this
      rw [← this]
      congr 1
      omega
    rw [ptsFrom, endsFrom, List.filter_append, List.map_append, ih]
    congr 1
    have e : (List.range row.length).map (fun q => letterAt ch (k, q)) = row := by
      refine List.ext_getElem? fun q => ?_
      rw [List.getElem?_map]
      by_cases hq : q < row.length
      · rw [List.getElem?_range hq]
        obtain ⟨row', h1, h2⟩ := val_letter (ch := ch) (e := (k, q)) ⟨row, h0, hq⟩
        rw [h0] at h1
        cases h1
        exact h2.symm
      · rw [List.getElem?_eq_none (by simpa using hq), List.getElem?_eq_none (by simpa using hq)]; rfl
    have e2 : cnt c row = (((List.range row.length).map fun q => ((k, q) : End)).filter fun x => letterAt ch x == c).length := by
      unfold cnt
      rw [List.filter_map, List.length_map]
      conv => lhs; rw [← e]
      rw [List.filter_map, List.length_map]
      rfl
    rw [e2]
    have := List.eq_replicate_of_mem (l := ((((List.range row.length).map fun q => ((k, q) : End)).filter fun x => letterAt ch x == c).map (·.1))) (a := k) fun p hp => by
      obtain ⟨x, hx, rfl⟩ := List.mem_map.mp hp
      obtain ⟨q, _, rfl⟩ := List.mem_map.mp (List.mem_filter.mp hx).1
      rfl
    rw [List.length_map] at this
    exact this.symm
theorem ptsOf_ends (ch : Chart) (c : Nat) : ptsOf ch c = ((ends ch).filter fun x => letterAt ch x == c).map (·.1) := pts_ends ch 0 fun i => by simp
theorem Draw.pair_of {ch : Chart} {n : Nat} (D : Draw ch n) {e : End} (h : Val ch e) : pairOf ch (letterAt ch e) = (e.1, (otherEnd ch e).1) ∨ pairOf ch (letterAt ch e) = ((otherEnd ch e).1, e.1) := by
  have o := D.other h
  have hl := D.two (D.let_mem h)
  rw [ptsOf_ends, List.length_map] at hl
  have he : e ∈ (Bm.ends ch).filter fun x => letterAt ch x == letterAt ch e := List.mem_filter.mpr ⟨mem_ends.mpr h, by simp⟩
  have ho : otherEnd ch e ∈ (Bm.ends ch).filter fun x => letterAt ch x == letterAt ch e := List.mem_filter.mpr ⟨mem_ends.mpr o.val, by simp [o.let_]⟩
  unfold pairOf
  rw [ptsOf_ends]
  generalize (Bm.ends ch).filter (fun x => letterAt ch x == letterAt ch e) = l at *
  match l, hl with
  | [a, b], _ =>
    simp only [List.mem_cons, List.not_mem_nil, or_false] at he ho
    have hne := o.ne
    rcases he with he | he
    · rcases ho with ho | ho
      · exact absurd (ho.trans he.symm) hne
      · left; rw [← he, ← ho]; rfl
    · rcases ho with ho | ho
      · right; rw [← he, ← ho]; rfl
      · exact absurd (ho.trans he.symm) hne
theorem Draw.pairs_mem {ch : Chart} {n : Nat} (D : Draw ch n) {p : Nat × Nat} (h : p ∈ pairsOf ch) : ∃ e, Val ch e ∧ p = (e.1, (otherEnd ch e).1) := by
  unfold pairsOf at h
  obtain ⟨c, hc, rfl⟩ := List.mem_map.mp h
  rw [D.letters] at hc
  have hf : c ∈ ch.flatten := D.pm.symm.subset (List.mem_append_left _ hc)
  rw [← map_letter] at hf
  obtain ⟨e, he, rfl⟩ := List.mem_map.mp hf
  have hv := mem_ends.mp he
  rcases D.pair_of hv with z | z
  · exact ⟨e, hv, z⟩
  · refine ⟨otherEnd ch e, (D.other hv).val, ?_⟩
    rw [D.other_other hv]; exact z
theorem Draw.pair_mem {ch : Chart} {n : Nat} (D : Draw ch n) {e : End} (h : Val ch e) : pairOf ch (letterAt ch e) ∈ pairsOf ch := by
  unfold pairsOf
  rw [D.letters]
  exact List.mem_map_of_mem (D.let_mem h)
theorem Draw.reach {ch : Chart} {n : Nat} (D : Draw ch n) (p : Nat) : Reach (pairsOf ch) 0 p ↔ RE ch p := by
  constructor
  · intro h
    induction h with
    | refl => exact .zero
    | fwd _ hp ih =>
      obtain ⟨e, hv, he⟩ := D.pairs_mem hp
      have h1 := (Prod.mk.inj he).1
      have h2 := (Prod.mk.inj he).2
      rw [h2]; exact .step (h1 ▸ ih) hv
    | bwd _ hp ih =>
      obtain ⟨e, hv, he⟩ := D.pairs_mem hp
      have h1 := (Prod.mk.inj he).1
      have h2 := (Prod.mk.inj he).2
      have := RE.step (ch := ch) (e := otherEnd ch e) (h2 ▸ ih) (D.other hv).val
      rw [D.other_other hv] at this
      rw [h1]; exact this
  · intro h
    induction h with
    | zero => exact .refl
    | step _ hv ih =>
      have hm := D.pair_mem hv
      rcases D.pair_of hv with z | z
      · rw [z] at hm; exact .fwd ih hm
      · rw [z] at hm; exact .bwd ih hm
theorem RE.lt {ch : Chart} {n : Nat} (D : Draw ch n) {p : Nat} (h : RE ch p) : p < ch.length := by
  cases h with
  | zero =>
    have := D.len
    have := D.n1
    cases ch with
    | nil => simp at *; omega
    | cons _ _ => simp
  | step _ hv =>
    obtain ⟨row, h1, _⟩ := (D.other hv).val
    exact (List.getElem?_eq_some_iff.mp h1).1
theorem Draw.reachL_iff {ch : Chart} {n : Nat} (D : Draw ch n) : (reachL (pairsOf ch) 0).length = ch.length ↔ ∀ p, p < ch.length → RE ch p := by
  have hl : (pairsOf ch).length ≤ 190 := by unfold pairsOf; rw [List.length_map]; exact Nat.le_trans (letters_len ch) (by decide)
  obtain ⟨_, hn, hm⟩ := reachL_ok (pairsOf ch) 0 hl
  have hlt : ∀ p ∈ reachL (pairsOf ch) 0, p ∈ List.range ch.length := fun p hp => List.mem_range.mpr (RE.lt D ((D.reach p).mp ((hm p).mp hp)))
  constructor
  · intro h p hp
    refine (D.reach p).mp ((hm p).mp (Classical.byContradiction fun z => ?_))
    have := nodup_le hn (m := (List.range ch.length).erase p) fun q hq => (List.mem_erase_of_ne (fun e : q = p => z (e ▸ hq))).mpr (hlt q hq)
    rw [List.length_erase_of_mem (List.mem_range.mpr hp), List.length_range] at this
    omega
  · intro h
    have h1 := nodup_le hn (m := List.range ch.length) hlt
    have h2 := nodup_le (List.nodup_range (n := ch.length)) (m := reachL (pairsOf ch) 0) fun p hp => (hm p).mpr ((D.reach p).mpr (h p (List.mem_range.mp hp)))
    rw [List.length_range] at h1 h2
    omega
/-- a map of n borders -/
structure IsM (ch : Chart) (n : Nat) : Prop where
  dr : Draw ch n
  co : ∀ p, p < ch.length → RE ch p
  eu : ch.length + (walks ch).length = n + 2
theorem letters_n {ch : Chart} {n : Nat} (D : Draw ch n) : (lettersOf ch).length = n := by
  rw [D.letters, List.length_take]
  have : NM.length = 8 := rfl
  have := D.n8
  omega
theorem IsM.b {ch : Chart} {n : Nat} (h : IsM ch n) : isMapB ch = true := by
  unfold isMapB
  rw [h.dr.isDraw, Bool.true_and, Bool.and_eq_true, decide_eq_true_eq, decide_eq_true_eq, letters_n h.dr]
  exact ⟨h.dr.reachL_iff.mpr h.co, h.eu⟩
theorem isM_of {ch : Chart} (h : isMapB ch = true) : IsM ch (ch.flatten.length / 2) := by
  unfold isMapB at h
  simp only [Bool.and_eq_true, decide_eq_true_eq] at h
  have D := isDraw_iff.mp h.1
  refine ⟨D, D.reachL_iff.mp h.2.1, ?_⟩
  rw [h.2.2, letters_n D]
/-- from any decomposition -/
theorem IsM.mk' {ch : Chart} {n : Nat} {ws : List (List End)} (D : Draw ch n) (co : ∀ p, p < ch.length → RE ch p) (h : Dec ch ws) (e : ch.length + ws.length = n + 2) : IsM ch n :=
  ⟨D, co, by rw [← h.len D.dec]; exact e⟩
/-! the border -/
theorem twice_succ : ∀ n, n < 8 → (NM.getD n 0 :: NM.getD n 0 :: twice n).Perm (twice (n + 1)) := by decide +kernel
theorem Ext.re {ch ch' : Chart} {t : End → End} {N1 N2 : End} {c n m : Nat} (X : Ext ch ch' t N1 N2 c) (D : Draw ch n) (D' : Draw ch' m) (ht : ∀ x, (t x).1 = x.1) {p : Nat} (h : RE ch p) : RE ch' p := by
  induction h with
  | zero => exact .zero
  | step _ hv ih =>
    rename_i e _
    have := RE.step (ch := ch') (e := t e) (by rw [ht]; exact ih) (X.val e hv).1
    rw [X.other D D' hv, ht] at this
    exact this
theorem put_ne {ch : Chart} {d : End} {c : Nat} (h : ∀ r ∈ ch, r ≠ []) : ∀ r ∈ put ch d c, r ≠ [] := fun r hr => by
  unfold put at hr
  rcases List.mem_or_eq_of_mem_set hr with z | z
  · exact h r z
  · rw [z]; intro e; have := ins_len (ch.getD d.1 []) d.2 c; rw [e] at this; simp at this
/-- a new point at the end of a new border -/
theorem ext_leaf {ch : Chart} {d : End} {c : Nat} (hv : Val ch d) : Ext ch (put ch d c ++ [[c]]) (sh d) d (ch.length, 0) c := by
  obtain ⟨row, P, hd⟩ := Plc.of hv
  have lift : ∀ x, Val (put ch d c) x → Val (put ch d c ++ [[c]]) x ∧ letterAt (put ch d c ++ [[c]]) x = letterAt (put ch d c) x := fun x hx => by
    obtain ⟨r, h1, h2⟩ := val_letter hx
    exact letter_of (by rw [List.getElem?_append_left (List.getElem?_eq_some_iff.mp h1).1]; exact h1) h2
  have hlast : (put ch d c ++ [[c]])[ch.length]? = some [c] := by
    rw [List.getElem?_append_right (by rw [put_len]; omega), put_len, Nat.sub_self]; rfl
  have n0 := letter_of (ch := put ch d c ++ [[c]]) (e := (ch.length, 0)) (row := [c]) (c := c) hlast rfl
  have hdl : d.1 < ch.length := (List.getElem?_eq_some_iff.mp P.at_).1
  refine ⟨fun x hx => ?_, fun x y => sh_inj, (lift _ (put_new P).1).1, n0.1, ((lift _ (put_new P).1).2.trans (put_new P).2), n0.2, fun z => ?_, fun x _ => sh_ne d x, fun x hx z => ?_, fun x hx => ?_⟩
  · obtain ⟨a, b⟩ := put_sh (c := c) P hx
    exact ⟨(lift _ a).1, (lift _ a).2.trans b⟩
  · rw [z] at hdl; exact absurd hdl (Nat.lt_irrefl _)
  · obtain ⟨r, h1, _⟩ := hx
    have hl := (List.getElem?_eq_some_iff.mp h1).1
    have : (sh d x).1 = ch.length := by rw [z]
    rw [sh_fst] at this
    omega
  · obtain ⟨r, h1, h2⟩ := hx
    by_cases hl : x.1 < ch.length
    · rw [List.getElem?_append_left (by rw [put_len]; exact hl)] at h1
      rcases put_back P ⟨r, h1, h2⟩ with z | z
      · exact .inl z
      · exact .inr (.inr z)
    · refine .inr (.inl ?_)
      have hx1 := (List.getElem?_eq_some_iff.mp h1).1
      rw [List.length_append, put_len] at hx1
      have e1 : x.1 = ch.length := by simp at hx1; omega
      rw [e1, hlast] at h1
      cases h1
      exact Prod.ext e1 (by simp at h2; exact h2)
theorem draw_leaf {ch : Chart} {n : Nat} {d : End} (D : Draw ch n) (hn : n < 8) (hv : Val ch d) : Draw (put ch d (NM.getD n 0) ++ [[NM.getD n 0]]) (n + 1) := by
  obtain ⟨row, P, hd⟩ := Plc.of hv
  refine ⟨fun r hr => ?_, by omega, by omega, ?_⟩
  · rcases List.mem_append.mp hr with z | z
    · exact put_ne D.ne r z
    · rw [List.mem_singleton.mp z]; simp
  · rw [List.flatten_append]
    refine (List.perm_append_comm).trans (List.Perm.trans ?_ (twice_succ n hn))
    show (NM.getD n 0 :: ([] ++ (put ch d (NM.getD n 0)).flatten)).Perm _
    exact List.Perm.cons _ ((put_flat P).trans (List.Perm.cons _ D.pm))
theorem next_app {ch : Chart} {l : Chart} {x : End} (h : Val ch x) : nextA (ch ++ l) x = nextA ch x := by
  obtain ⟨r, h1, _⟩ := h
  rw [nextA_at h1, nextA_at (r := r) (by rw [List.getElem?_append_left (List.getElem?_eq_some_iff.mp h1).1]; exact h1)]
theorem m_leaf {ch : Chart} {n : Nat} {d : End} (M : IsM ch n) (hn : n < 8) (hv : Val ch d) : IsM (put ch d (NM.getD n 0) ++ [[NM.getD n 0]]) (n + 1) := by
  have D := M.dr
  have D' := draw_leaf D hn hv
  have X := ext_leaf (c := NM.getD n 0) hv
  obtain ⟨row, P, hd⟩ := Plc.of hv
  have hdm : d ∈ (walks ch).flatten := D.dec.pm.symm.subset (mem_ends.mpr hv)
  obtain ⟨w, hw, hdw⟩ := List.mem_flatten.mp hdm
  have nx : ∀ x, Val ch x → nextA (put ch d (NM.getD n 0) ++ [[NM.getD n 0]]) (sh d x) = if nextA ch x = d then d else sh d (nextA ch x) := fun x hx => by
    rw [next_app (put_sh P hx).1, put_next P hd hx]
  have n1 : nextA (put ch d (NM.getD n 0) ++ [[NM.getD n 0]]) d = sh d d := by rw [next_app (put_new P).1, put_next_new P hd]
  have n2 : nextA (put ch d (NM.getD n 0) ++ [[NM.getD n 0]]) (ch.length, 0) = (ch.length, 0) := by
    rw [nextA_at (r := [NM.getD n 0]) (by rw [show ((ch.length, 0) : End).1 = ch.length from rfl, List.getElem?_append_right (by rw [put_len]; omega), put_len, Nat.sub_self]; rfl)]
    simp
  obtain ⟨ws', hd', hl'⟩ := X.turn D.dec hw hdw (fun x hx => by
    unfold phi
    rw [X.other D D' hx, nx _ (D.other hx).val]
    unfold gTo
    split <;> rfl) true (by
    simp only [if_true]
    unfold phi
    rw [X.other1 D', X.other2 D', n1, n2]
    exact ⟨rfl, rfl⟩)
  refine IsM.mk' D' (fun p hp => ?_) hd' ?_
  · rw [List.length_append, put_len] at hp
    by_cases hlt : p < ch.length
    · exact X.re D D' (sh_fst d) (M.co p hlt)
    · have ep : p = ch.length := by simp at hp; omega
      have h1 : RE (put ch d (NM.getD n 0) ++ [[NM.getD n 0]]) d.1 := X.re D D' (sh_fst d) (M.co d.1 (List.getElem?_eq_some_iff.mp P.at_).1)
      have := RE.step (ch := put ch d (NM.getD n 0) ++ [[NM.getD n 0]]) (e := d) h1 X.v1
      rw [X.other1 D'] at this
      rw [ep]; exact this
  · rw [List.length_append, put_len, hl']
    have := M.eu
    simp; omega
/-! inside a land -/
def ltE (a b : End) : Prop := a.1 < b.1 ∨ (a.1 = b.1 ∧ a.2 < b.2)
theorem sh_lt {a b : End} (h : ltE a b) : sh b a = a := by
  unfold sh
  rw [if_neg]
  rintro ⟨h1, h2⟩
  rcases h with z | z <;> omega
theorem ltE.ne {a b : End} (h : ltE a b) : a ≠ b := fun z => by
  subst z
  rcases h with z | z <;> omega
theorem sh_sh_ne {a b x : End} (h : ltE a b ∨ a = b) : sh a (sh b x) ≠ a := sh_ne a _
theorem ext_in {ch : Chart} {a b : End} {c : Nat} (ha : Val ch a) (hb : Val ch b) (h : ltE a b ∨ a = b) : Ext ch (put (put ch b c) a c) (fun x => sh a (sh b x)) a (sh a b) c := by
  obtain ⟨rb, Pb, hbl⟩ := Plc.of hb
  have hva : Val (put ch b c) a := by
    rcases h with h | h
    · have := (put_sh (c := c) Pb ha).1
      rwa [sh_lt h] at this
    · rw [h]; exact (put_new Pb).1
  obtain ⟨ra, Pa, hal⟩ := Plc.of hva
  refine ⟨fun x hx => ?_, fun x y e => sh_inj (sh_inj e), (put_new Pa).1, (put_sh Pa (put_new Pb).1).1, (put_new Pa).2, ?_, (sh_ne a b).symm, fun x _ => sh_ne a _, fun x _ z => sh_ne b x (sh_inj z), fun x hx => ?_⟩
  · obtain ⟨h1, h2⟩ := put_sh (c := c) Pb hx
    obtain ⟨h3, h4⟩ := put_sh (c := c) Pa h1
    exact ⟨h3, h4.trans h2⟩
  · rw [(put_sh Pa (put_new Pb).1).2]; exact (put_new Pb).2
  · rcases put_back Pa hx with z | ⟨y, hy, rfl⟩
    · exact .inl z
    · rcases put_back Pb hy with z | ⟨y', hy', rfl⟩
      · rw [z]; exact .inr (.inl rfl)
      · exact .inr (.inr ⟨y', hy', rfl⟩)
theorem draw_in {ch : Chart} {n : Nat} {a b : End} (D : Draw ch n) (hn : n < 8) (ha : Val ch a) (hb : Val ch b) (h : ltE a b ∨ a = b) : Draw (put (put ch b (NM.getD n 0)) a (NM.getD n 0)) (n + 1) := by
  obtain ⟨rb, Pb, hbl⟩ := Plc.of hb
  have hva : Val (put ch b (NM.getD n 0)) a := by
    rcases h with h | h
    · have := (put_sh (c := NM.getD n 0) Pb ha).1
      rwa [sh_lt h] at this
    · rw [h]; exact (put_new Pb).1
  obtain ⟨ra, Pa, hal⟩ := Plc.of hva
  refine ⟨put_ne (put_ne D.ne), by omega, by omega, ?_⟩
  exact (put_flat Pa).trans ((List.Perm.cons _ ((put_flat Pb).trans (List.Perm.cons _ D.pm))).trans (twice_succ n hn))
theorem m_in {ch : Chart} {n : Nat} {a b : End} {w : List End} (M : IsM ch n) (hn : n < 8) (hw : w ∈ walks ch) (ha : a ∈ w) (hb : b ∈ w) (h : ltE a b ∨ a = b) : IsM (put (put ch b (NM.getD n 0)) a (NM.getD n 0)) (n + 1) := by
  have D := M.dr
  have va : Val ch a := mem_ends.mp (D.dec.pm.subset (List.mem_flatten.mpr ⟨w, hw, ha⟩))
  have vb : Val ch b := mem_ends.mp (D.dec.pm.subset (List.mem_flatten.mpr ⟨w, hw, hb⟩))
  have D' := draw_in D hn va vb h
  have X := ext_in (c := NM.getD n 0) va vb h
  obtain ⟨rb, Pb, hbl⟩ := Plc.of vb
  have hva : Val (put ch b (NM.getD n 0)) a := by
    rcases h with h | h
    · have := (put_sh (c := NM.getD n 0) Pb va).1
      rwa [sh_lt h] at this
    · rw [h]; exact (put_new Pb).1
  obtain ⟨ra, Pa, hal⟩ := Plc.of hva
  have nx2 : ∀ x, Val ch x → nextA (put ch b (NM.getD n 0)) (sh b x) = if nextA ch x = b then b else sh b (nextA ch x) := fun x hx => put_next Pb hbl hx
  have nx : ∀ x, Val ch x → nextA (put (put ch b (NM.getD n 0)) a (NM.getD n 0)) (sh a (sh b x)) = if (if nextA ch x = b then b else sh b (nextA ch x)) = a then a else sh a (if nextA ch x = b then b else sh b (nextA ch x)) := fun x hx => by
    rw [put_next Pa hal (put_sh Pb hx).1, nx2 x hx]
  have n1 : nextA (put (put ch b (NM.getD n 0)) a (NM.getD n 0)) a = sh a a := put_next_new Pa hal
  have n2 : nextA (put (put ch b (NM.getD n 0)) a (NM.getD n 0)) (sh a b) = if sh b b = a then a else sh a (sh b b) := by
    rw [put_next Pa hal (put_new Pb).1, put_next_new Pb hbl]
  have fin : ∀ ws', Dec (put (put ch b (NM.getD n 0)) a (NM.getD n 0)) ws' → ws'.length = (walks ch).length + 1 → IsM (put (put ch b (NM.getD n 0)) a (NM.getD n 0)) (n + 1) := fun ws' hd hl => by
    refine IsM.mk' D' (fun p hp => ?_) hd ?_
    · rw [put_len, put_len] at hp
      exact X.re D D' (fun x => by rw [sh_fst, sh_fst]) (M.co p hp)
    · rw [put_len, put_len, hl]
      have := M.eu
      omega
  rcases h with h | h
  · have hbb : sh b b ≠ a := fun z => by
      have h1 : b.1 = a.1 := by rw [← sh_fst b b, z]
      have h2 : (sh b b).2 = b.2 + 1 := by unfold sh; rw [if_pos ⟨rfl, Nat.le_refl _⟩]
      rw [z] at h2
      rcases h with w | w <;> omega
    have eab : sh b a = a := sh_lt h
    obtain ⟨ws', hd, hl⟩ := X.split D.dec hw ha hb h.ne (fun x hx => by
      unfold phi
      rw [X.other D D' hx, nx _ (D.other hx).val]
      unfold gTo
      by_cases hxb : nextA ch (otherEnd ch x) = b
      · rw [if_pos hxb, if_neg h.ne.symm, hxb, if_neg h.ne.symm, if_pos rfl]
      · rw [if_neg hxb, if_neg hxb]
        by_cases hxa : nextA ch (otherEnd ch x) = a
        · rw [if_pos hxa, hxa, eab, if_pos rfl]
        · rw [if_neg hxa, if_neg (fun z => hxa (sh_inj (z.trans eab.symm)))]) (by
      unfold phi
      rw [X.other1 D', n2, if_neg hbb]) (by
      unfold phi
      rw [X.other2 D', n1, eab])
    exact fin ws' hd hl
  · subst h
    obtain ⟨ws', hd, hl⟩ := X.turn D.dec hw ha (fun x hx => by
      unfold phi
      rw [X.other D D' hx, nx _ (D.other hx).val]
      unfold gTo
      by_cases hxa : nextA ch (otherEnd ch x) = a
      · rw [if_pos hxa, if_pos rfl, if_pos hxa]
      · rw [if_neg hxa, if_neg hxa, if_neg hxa, if_neg (sh_ne a _)]) false (by
      simp only [Bool.false_eq_true, if_false]
      unfold phi
      rw [X.other1 D', X.other2 D', n1, n2, if_neg (sh_ne a a)]
      exact ⟨rfl, rfl⟩)
    exact fin ws' hd hl
/-! the first ones -/
theorem m_one1 : IsM [[97], [97]] 1 := isM_of (ch := [[97], [97]]) (by decide +kernel)
theorem m_one2 : IsM [[97, 97]] 1 := isM_of (ch := [[97, 97]]) (by decide +kernel)
end Bm
end
section
set_option Elab.async false
set_option linter.all false
set_option maxRecDepth 100000
set_option maxHeartbeats 1000000
/-! the law's own defs: draws, walks, a map -/
namespace Bm
open PySem
theorem mul_small {a b : Int} (h : -(2 ^ 64) < b ∧ b < 2 ^ 64) : dop_mul [.int a, .int b] = some (.int (a * b)) := by
  simp only [dop_mul, guardO]
  rw [if_pos (by rw [Bool.or_eq_true]; exact .inr (decide_eq_true h))]
theorem mul_wide {a b : Int} (ha : a.natAbs < 2 ^ 200) (hb : b.natAbs < 2 ^ 200) : dop_mul [.int a, .int b] = some (.int (a * b)) := by
  simp only [dop_mul, guardO]
  have h : (2 : Nat) ^ 200 < 2 ^ 400 := by decide +kernel
  rw [if_pos (by rw [Bool.or_eq_true]; exact .inl (decide_eq_true ⟨Nat.lt_trans ha h, Nat.lt_trans hb h⟩))]
theorem mod_pos {a b : Int} (h : 0 < b) : dop_mod [.int a, .int b] = some (.int (a % b)) := by
  simp only [dop_mod, guardO, decide_eq_true h, if_true]
theorem fdiv_pos {a b : Int} (h : 0 < b) (h2 : b.natAbs < 2 ^ 200) : dop_fdiv [.int a, .int b] = some (.int (a / b)) := by
  have h3 : (2 : Nat) ^ 200 < 2 ^ 400 := by decide +kernel
  simp only [dop_fdiv, guardO, decide_eq_true (And.intro h (Nat.lt_trans h2 h3)), if_true]
theorem abs_mod {a b : Int} {k : Nat} (h : 0 < b) (hb : b.natAbs < 2 ^ k) : (a % b).natAbs < 2 ^ k := by
  have h1 := Int.emod_nonneg a (by omega : b ≠ 0)
  have h2 := Int.emod_lt_of_pos a h
  omega
theorem m_drawn {n : Nat} (c k : Int) : ∃ v : Int, run T (n + 1) 17 none [.int c, .int k] = .ok (.int v, []) := by
  rw [run_fn T__law_drawn rfl rfl]
  unfold b__law_drawn
  have a1 : dop_mul [.int c, .int 6364136223846793005] = some (.int (c * 6364136223846793005)) := mul_small (by decide)
  have a2 : dop_mul [.int (k + 1), .int 1442695040888963407] = some (.int ((k + 1) * 1442695040888963407)) := mul_small (by decide)
  have a3 : dop_mod [.int (c * 6364136223846793005 + (k + 1) * 1442695040888963407), .int 340282366920938463463374607431768211507] = some (.int ((c * 6364136223846793005 + (k + 1) * 1442695040888963407) % 340282366920938463463374607431768211507)) := mod_pos (by decide)
  have b1 : ((c * 6364136223846793005 + (k + 1) * 1442695040888963407) % 340282366920938463463374607431768211507).natAbs < 2 ^ 200 := abs_mod (by decide) (by decide +kernel)
  generalize (c * 6364136223846793005 + (k + 1) * 1442695040888963407) % 340282366920938463463374607431768211507 = m1 at *
  have a4 := mul_wide b1 b1
  have a5 : dop_mod [.int (m1 * m1), .int 340282366920938463463374607431768211297] = some (.int ((m1 * m1) % 340282366920938463463374607431768211297)) := mod_pos (by decide)
  have b2 : ((m1 * m1) % 340282366920938463463374607431768211297).natAbs < 2 ^ 130 := abs_mod (by decide) (by decide +kernel)
  have b3 : 0 ≤ (m1 * m1) % 340282366920938463463374607431768211297 := Int.emod_nonneg _ (by decide)
  generalize (m1 * m1) % 340282366920938463463374607431768211297 = m2 at *
  have a6 : dop_mod [.int m2, .int 18446744073709551557] = some (.int (m2 % 18446744073709551557)) := mod_pos (by decide)
  have a7 : dop_fdiv [.int m2, .int 18446744073709551557] = some (.int (m2 / 18446744073709551557)) := fdiv_pos (by decide) (by decide +kernel)
  have b4 : 0 ≤ m2 % 18446744073709551557 ∧ m2 % 18446744073709551557 < 18446744073709551557 := ⟨Int.emod_nonneg _ (by decide), Int.emod_lt_of_pos _ (by decide)⟩
  have b5 : 0 ≤ m2 / 18446744073709551557 ∧ m2 / 18446744073709551557 ≤ m2 := ⟨Int.ediv_nonneg b3 (by decide), Int.ediv_le_self _ b3⟩
  generalize m2 % 18446744073709551557 = p at *
  generalize m2 / 18446744073709551557 = q at *
  have p130 : (2 : Nat) ^ 130 = 1361129467683753853853498429727072845824 := by decide +kernel
  have p200 : (2 : Nat) ^ 200 = 1606938044258990275541962092341162602522202993782792835301376 := by decide +kernel
  rw [p130] at b2
  have b6 : (p + 1).natAbs < 2 ^ 200 := by rw [p200]; omega
  have b7 : (q + 1).natAbs < 2 ^ 200 := by rw [p200]; omega
  have a8 := mul_wide b6 b7
  have b8 : ((p + 1) * (q + 1)).natAbs < 2 ^ 200 := by
    rw [Int.natAbs_mul]
    have h1 : (p + 1).natAbs ≤ 18446744073709551557 := by omega
    have h2 : (q + 1).natAbs ≤ 1361129467683753853853498429727072845824 := by omega
    calc (p + 1).natAbs * (q + 1).natAbs ≤ 18446744073709551557 * 1361129467683753853853498429727072845824 := Nat.mul_le_mul h1 h2
      _ < 2 ^ 200 := by decide +kernel
  have b9 : m2.natAbs < 2 ^ 200 := by rw [p200]; omega
  have a9 := mul_wide b8 b9
  have a10 : dop_mod [.int ((p + 1) * (q + 1) * m2), .int 340282366920938463463374607431768211507] = some (.int ((p + 1) * (q + 1) * m2 % 340282366920938463463374607431768211507)) := mod_pos (by decide)
  refine ⟨(p + 1) * (q + 1) * m2 % 340282366920938463463374607431768211507, ?_⟩
  simp [denS, e_op, e_cons, e_nil, e_var, e_lit, getS, opD, a1, a2, a3, a4, a5, a6, a7, a8, a9, a10, dop_add, bindT, putS, endOf]
theorem m_roll {n : Nat} (c k : Int) {m : Nat} (h0 : 0 < m) (h1 : m ≤ 1000) : ∃ v : Nat, ∃ c' k' : Int, v < m ∧ run T (n + 2) 18 (some [.int c, .int k]) [dI m] = .ok (dI v, [.int c', .int k']) := by
  rw [run_io T__law_roll rfl rfl]
  unfold b__law_roll
  have hp : dop_pow [.int 10, .int 18] = some (.int 1000000000000000000) := by simp [dop_pow, guardO]
  have hm : (0 : Int) < (m : Int) := by omega
  have hb : ((m : Int)).natAbs < 2 ^ 200 := Nat.lt_of_le_of_lt (show _ ≤ 1000 by omega) (by decide +kernel)
  by_cases hc : (1000000000000000000 : Int) ≤ c
  · have a1 : dop_mod [.int c, dI m] = some (dI (c % m).toNat) := by
      have := mod_pos (a := c) hm
      have h2 := Int.emod_nonneg c (by omega : (m : Int) ≠ 0)
      have e : (((c % (m : Int)).toNat : Nat) : Int) = c % (m : Int) := Int.toNat_of_nonneg h2
      show dop_mod [.int c, .int (m : Int)] = some (.int ((c % (m : Int)).toNat : Nat))
      rw [this, e]
    have a2 : dop_fdiv [.int c, dI m] = some (.int (c / m)) := fdiv_pos hm hb
    refine ⟨(c % m).toNat, c / m, k, ?_, ?_⟩
    · have := Int.emod_nonneg c (by omega : (m : Int) ≠ 0)
      have := Int.emod_lt_of_pos c hm
      omega
    · generalize (c % (m : Int)).toNat = v at *
      simp [denS, e_op, e_cons, e_nil, e_var, e_lit, e_oitem, getS, isOwnL, opD, hp, dop_ge, hc, a1, a2, ixOf, bindT, putS, nd, endOf]
  · obtain ⟨v, hv⟩ := m_drawn (n := n) c (k + 1)
    have a1 : dop_fdiv [.int v, .int 8] = some (.int (v / 8)) := fdiv_pos (by decide) (by decide +kernel)
    have a2 : dop_mod [.int (v / 8), dI m] = some (dI (v / 8 % m).toNat) := by
      have := mod_pos (a := v / 8) hm
      have h2 := Int.emod_nonneg (v / 8) (by omega : (m : Int) ≠ 0)
      have e : (((v / 8 % (m : Int)).toNat : Nat) : Int) = v / 8 % (m : Int) := Int.toNat_of_nonneg h2
      show dop_mod [.int (v / 8), .int (m : Int)] = some (.int ((v / 8 % (m : Int)).toNat : Nat))
      rw [this, e]
    refine ⟨(v / 8 % m).toNat, c, k + 1, ?_, ?_⟩
    · have := Int.emod_nonneg (v / 8) (by omega : (m : Int) ≠ 0)
      have := Int.emod_lt_of_pos (v / 8) hm
      omega
    · generalize (v / 8 % (m : Int)).toNat = u at *
      simp [denS, e_op, e_cons, e_nil, e_var, e_lit, e_oitem, e_call, getS, isOwnL, opD, hp, dop_ge, hc, hv, a1, a2, ixOf, bindT, putS, nd, dop_add, endOf]
theorem m_law_ends {n : Nat} {ch : Chart} (h : (ends ch).length ≤ 1000) : run T (n + 1) 22 none [dC ch] = .ok (.list ((ends ch).map dE), []) := by
  have := m_ends_in (n := n) h
  rw [run_fn T_ends_in rfl rfl] at this
  rw [run_fn T__law_ends rfl rfl]
  exact this
/-! items of a chart -/
theorem item_row {ch : Chart} {p : Nat} {row : List Nat} (h : ch[p]? = some row) : dop_item [dC ch, dI p] = some (dS row) := by
  obtain ⟨h1, rfl⟩ := List.getElem?_eq_some_iff.mp h
  simp [dop_item, ixOf_nat, h1]
theorem item_sign {row : List Nat} {q c : Nat} (h : row[q]? = some c) (hl : row.length ≤ 1000) : dop_item [dS row, dI q] = some (dS [c]) := by
  obtain ⟨h1, rfl⟩ := List.getElem?_eq_some_iff.mp h
  have g : row.length ≤ 1000000 := by omega
  simp [dop_item, guardO, lim, g, ixOf_nat, h1]
theorem item_e0 (e : End) : dop_item [dE e, .int 0] = some (dI e.1) := by simp [dop_item, ixOf]
theorem item_e1 (e : End) : dop_item [dE e, .int 1] = some (dI e.2) := by simp [dop_item, ixOf]
theorem only_one {α : Type} {l : List α} {a : α} (hn : l.Nodup) (h : ∀ x ∈ l, x = a) (ha : a ∈ l) : l = [a] := by
  match l, hn, h, ha with
  | [x], _, h, _ => rw [h x List.mem_cons_self]
  | x :: y :: r, hn, h, _ =>
    have h1 := h x List.mem_cons_self
    have h2 := h y (List.mem_cons_of_mem _ List.mem_cons_self)
    exact absurd (by rw [h1, ← h2]; exact List.mem_cons_self) (List.nodup_cons.mp hn).1
def isOth (ch : Chart) (e x : End) : Bool := decide (x ≠ e) && decide (letterAt ch x = letterAt ch e)
theorem Draw.filter_other {ch : Chart} {n : Nat} (D : Draw ch n) {e : End} (h : Val ch e) : (Bm.ends ch).filter (isOth ch e) = [otherEnd ch e] := by
  have o := D.other h
  refine only_one ((nodup_endsFrom ch 0).filter _) (fun x hx => ?_) ?_
  · obtain ⟨h1, h2⟩ := List.mem_filter.mp hx
    unfold isOth at h2
    simp only [Bool.and_eq_true, decide_eq_true_eq] at h2
    exact o.unique (mem_ends.mp h1) h2.1 h2.2
  · refine List.mem_filter.mpr ⟨mem_ends.mpr o.val, ?_⟩
    unfold isOth
    simp [o.ne, o.let_]
def oE : D → End
  | .tuple [.int a, .int b] => (a.toNat, b.toNat)
  | _ => (0, 0)
theorem oE_dE (e : End) : oE (dE e) = e := rfl
theorem filter_dE (p : End → Bool) (l : List End) : ((l.map dE).filter fun x => p (oE x)) = (l.filter p).map dE := by
  rw [List.filter_map]; rfl
theorem val_small {ch : Chart} {n : Nat} (D : Draw ch n) {e : End} (h : Val ch e) : ∃ row, ch[e.1]? = some row ∧ row[e.2]? = some (letterAt ch e) ∧ row.length ≤ 1000 := by
  obtain ⟨row, h1, h2⟩ := val_letter h
  exact ⟨row, h1, h2, Nat.le_trans (D.small row (List.mem_of_getElem? h1)) (by decide)⟩
theorem dop_ne_dE (a b : End) : dop_ne [dE a, dE b] = some (.bool (decide (a ≠ b))) := by
  rw [dop_ne_of rfl rfl (by simp [PyData.depth, PyData.depthAll]), eqv_dE]
  simp
theorem dop_eq_str (a b : List Nat) : dop_eq [dS a, dS b] = some (.bool (decide (a = b))) := by
  rw [dop_eq_of rfl rfl (by simp [PyData.depth]), eqv_str]
theorem dop_ne_str (a b : List Nat) : dop_ne [dS a, dS b] = some (.bool (decide (a ≠ b))) := by
  rw [dop_ne_of rfl rfl (by simp [PyData.depth]), eqv_str]
  simp
theorem m_law_on {n m : Nat} {ch : Chart} {e : End} (D : Draw ch m) (h : Val ch e) : run T (n + 2) 24 none [dC ch, dE e] = .ok (dE (phi ch e), []) := by
  rw [run_fn T__law_on rfl rfl]
  unfold b__law_on
  have he := m_law_ends (n := n) (ch := ch) (by rw [D.ends]; have := D.n8; omega)
  obtain ⟨row, h1, h2, h3⟩ := val_small D h
  have i1 := item_row h1
  have i2 := item_sign h2 h3
  have s1 : denS (run T (n + 1)) (.asg (.name 2) (.op .item (.cons (.op .item (.cons (.var 0) (.cons (.op .item (.cons (.var 1) (.cons (.lit (.int 0)) .nil))) .nil))) (.cons (.op .item (.cons (.var 1) (.cons (.lit (.int 1)) .nil))) .nil)))) [.sh (dC ch), .sh (dE e), .un, .un, .un, .un] = .nxt [.sh (dC ch), .sh (dE e), .sh (dS [letterAt ch e]), .un, .un, .un] := by
    have a := item_e0 e
    have b := item_e1 e
    generalize dE e = de at *
    generalize dC ch = dc at *
    simp [denS, e_op, e_cons, e_nil, e_var, e_lit, getS, opD, a, b, i1, i2, bindT, putS]
  have hm := den_lcG (call := run T (n + 1)) (tg := .name 5) (is := [5]) (src := .it .seq (.cons (.call 22 (.cons (.var 0) .nil)) .nil)) (cond := cc__law_on_1) (elt := .var 5) (r0 := [.sh (dC ch), .sh (dE e), .sh (dS [letterAt ch e]), .un, .un, .un]) (r := [.sh (dC ch), .sh (dE e), .sh (dS [letterAt ch e]), .un, .un, .un])
    (fun x => [.sh (dC ch), .sh (dE e), .sh (dS [letterAt ch e]), .un, .un, .sh x]) (fun x => isOth ch e (oE x)) (fun x => x) (xs := (ends ch).map dE) (by
      generalize (ends ch).map dE = L at *
      generalize dC ch = dc at *
      simp [e_it, e_call, e_cons, e_nil, e_var, getS, he, itD]) (by rw [List.length_map, D.ends]; have := D.n8; unfold lim; omega)
    (fun x hx => by
      obtain ⟨o, ho, rfl⟩ := List.mem_map.mp hx
      obtain ⟨row', g1, g2, g3⟩ := val_small D (mem_ends.mp ho)
      have j1 := item_row g1
      have j2 := item_sign g2 g3
      have a := item_e0 o
      have b := item_e1 o
      have q1 := dop_ne_dE o e
      have q2 := dop_eq_str [letterAt ch o] [letterAt ch e]
      refine ⟨rfl, rfl, rfl, ?_, fun _ => ⟨?_, rfl⟩⟩
      · unfold isOth
        rw [oE_dE]
        by_cases hne : o = e
        · have q1' : dop_ne [dE o, dE e] = some (.bool false) := by rw [q1, hne]; simp
          rw [decide_eq_false (fun z => z hne)]
          generalize dE o = do_ at *
          generalize dE e = de at *
          generalize dC ch = dc at *
          simp [e_and, e_op, e_cons, e_nil, e_var, e_lit, getS, opD, q1']
        · rw [decide_eq_true hne] at q1
          have q3 : decide ([letterAt ch o] = [letterAt ch e]) = decide (letterAt ch o = letterAt ch e) := by simp
          rw [q3] at q2
          rw [decide_eq_true hne]
          generalize dE o = do_ at *
          generalize dE e = de at *
          generalize dC ch = dc at *
          simp [e_and, e_op, e_cons, e_nil, e_var, e_lit, getS, opD, q1, a, b, j1, j2, q2]
      · simp [e_var, getS])
  rw [filter_dE, D.filter_other h] at hm
  obtain ⟨orow, g1, g2, g3⟩ := val_small D (D.other h).val
  have j1 := item_row g1
  have hlr : dop_len [dS orow] = some (dI orow.length) := len_str g3
  have hpos : 0 < orow.length := by have := (List.getElem?_eq_some_iff.mp g2).1; omega
  have hmod : dop_mod [.int ((otherEnd ch e).2 + 1), dI orow.length] = some (dI (((otherEnd ch e).2 + 1) % orow.length)) := mod_pos (by omega)
  have ephi : phi ch e = ((otherEnd ch e).1, ((otherEnd ch e).2 + 1) % orow.length) := by
    unfold phi
    rw [nextA_at g1]
  simp only [List.map_cons, List.map_nil, List.cons_append, List.nil_append, Nat.reduceSub, List.replicate] at hm ⊢
  rw [denS_seq s1]
  have hit : dop_item [.list [dE (otherEnd ch e)], .int 0] = some (dE (otherEnd ch e)) := by simp [dop_item, ixOf]
  have s2 : denS (run T (n + 1)) (.asg (.tup [3, 4]) (.op .item (.cons lc__law_on_1 (.cons (.lit (.int 0)) .nil)))) [.sh (dC ch), .sh (dE e), .sh (dS [letterAt ch e]), .un, .un, .un] = .nxt [.sh (dC ch), .sh (dE e), .sh (dS [letterAt ch e]), .sh (dI (otherEnd ch e).1), .sh (dI (otherEnd ch e).2), .un] := by
    simp only [denS, e_op, e_cons, e_nil, hm, e_lit, R.ok_bind, opD, hit, R.opt_some]
    rfl
  rw [denS_seq s2, ephi]
  generalize dC ch = dc at *
  simp [denS, e_op, e_cons, e_nil, e_var, e_lit, getS, opD, j1, hlr, hmod, dop_add, dop_mkt, guardO, lim, nd, endOf]
end Bm
end
section
set_option Elab.async false
set_option linter.all false
set_option maxRecDepth 100000
set_option maxHeartbeats 1000000
/-! the law's walks -/
namespace Bm
open PySem
abbrev LS := List End × List End × End
def lstep (ch : Chart) (s : LS) (q : Nat) : LS := if s.2.2 ∈ s.1 then s else (s.1 ++ [s.2.2], s.2.1 ++ [s.2.2], phi ch s.2.2)
theorem lstep_stay {ch : Chart} {s : LS} (h : s.2.2 ∈ s.1) : ∀ l : List Nat, l.foldl (lstep ch) s = s
  | [] => rfl
  | q :: l => by
    rw [List.foldl_cons]
    have : lstep ch s q = s := by unfold lstep; rw [if_pos h]
    rw [this]; exact lstep_stay h l
theorem lgo {ch : Chart} : ∀ (m : Nat) (seen sm seen' sm' : List End) (e e' : End) (l : List Nat), goOn ch m seen sm e = some (seen', sm', e') → sm'.length ≤ sm.length + l.length → l.foldl (lstep ch) (seen, sm, e) = (seen', sm', e')
  | 0, _, _, _, _, _, _, _, h, _ => by cases h
  | m + 1, seen, sm, seen', sm', e, e', l, h, hl => by
    simp only [goOn] at h
    by_cases he : e ∈ seen
    · rw [if_pos he] at h
      cases h
      exact lstep_stay (s := (_, _, _)) he l
    · rw [if_neg he] at h
      have hlen : sm.length + 1 ≤ sm'.length := by
        have : ∀ (m : Nat) (seen sm seen' sm' : List End) (e e' : End), goOn ch m seen sm e = some (seen', sm', e') → sm.length ≤ sm'.length := fun m => by
          induction m with
          | zero => intro _ _ _ _ _ _ h; cases h
          | succ m ih =>
            intro seen sm seen' sm' e e' h
            simp only [goOn] at h
            by_cases he : e ∈ seen
            · rw [if_pos he] at h; cases h; exact Nat.le_refl _
            · rw [if_neg he] at h
              have := ih _ _ _ _ _ _ h
              simp only [List.length_append, List.length_cons, List.length_nil] at this
              omega
        have := this _ _ _ _ _ _ _ h
        simpa using this
      cases l with
      | nil => simp only [List.length_nil] at hl; omega
      | cons q l =>
        rw [List.foldl_cons]
        have : lstep ch (seen, sm, e) q = (seen ++ [e], sm ++ [e], phi ch e) := by unfold lstep; rw [if_neg he]
        rw [this]
        exact lgo m _ _ _ _ _ _ l h (by simp only [List.length_append, List.length_cons, List.length_nil] at hl ⊢; omega)
theorem lw_cond {call : CallS} {c f s4 s5 : Slot} {seen : List End} {e : End} : den call (.op .not (.cons (.dIn 2 (.var 3)) .nil)) [c, f, .dicT (dSeen seen), .sh (dE e), s4, s5] = .ok (.bool (!decide (e ∈ seen)), [c, f, .dicT (dSeen seen), .sh (dE e), s4, s5]) := by
  have h := lookD_seen e seen
  by_cases he : e ∈ seen
  · rw [if_pos he] at h
    simp [e_op, e_cons, e_nil, e_dIn, e_var, getS, keyT_dE, h, opD, dop_not, he]
  · rw [if_neg he] at h
    simp [e_op, e_cons, e_nil, e_dIn, e_var, getS, keyT_dE, h, opD, dop_not, he]
theorem lw_if {call : CallS} {a b : S} {c f s4 s5 : Slot} {seen : List End} {e : End} : denS call (.ifs (.op .not (.cons (.dIn 2 (.var 3)) .nil)) a b) [c, f, .dicT (dSeen seen), .sh (dE e), s4, s5] = if e ∈ seen then denS call b [c, f, .dicT (dSeen seen), .sh (dE e), s4, s5] else denS call a [c, f, .dicT (dSeen seen), .sh (dE e), s4, s5] := by
  simp only [denS, lw_cond]
  by_cases he : e ∈ seen
  · rw [decide_eq_true he, if_pos he]; rfl
  · rw [decide_eq_false he, if_neg he]; rfl
theorem lw_body {n m : Nat} {ch : Chart} {f s5 : Slot} {s : LS} (D : Draw ch m) (hv : Val ch s.2.2) (h1 : s.1.length < 1000) (h2 : s.2.1.length < 1000) :
    denS (run T (n + 2)) fb__law_walks_1 [.sh (dC ch), f, .dicT (dSeen s.1), .sh (dE s.2.2), .own (s.2.1.map dE), s5] = .nxt [.sh (dC ch), f, .dicT (dSeen (lstep ch s 0).1), .sh (dE (lstep ch s 0).2.2), .own ((lstep ch s 0).2.1.map dE), s5] := by
  rw [lw_if]
  unfold lstep
  by_cases he : s.2.2 ∈ s.1
  · rw [if_pos he, if_pos he]; rfl
  · rw [if_neg he, if_neg he]
    have hp := putD_seen s.2.2 s.1 he
    have hg := m_law_on (n := n) D hv
    have g2 : s.2.1.length < 1000000 := by omega
    rw [denS_seq (r1 := [.sh (dC ch), f, .dicT (dSeen (s.1 ++ [s.2.2])), .sh (dE s.2.2), .own (s.2.1.map dE), s5])]
    · rw [denS_seq (r1 := [.sh (dC ch), f, .dicT (dSeen (s.1 ++ [s.2.2])), .sh (dE s.2.2), .own ((s.2.1 ++ [s.2.2]).map dE), s5])]
      · simp only [denS, e_call, e_cons, e_nil, e_var, getS_0, getS_s, R.ok_bind, hg, bindT]
        rfl
      · simp [denS, e_var, getS, isOwnL, putS, lim, g2, nd]
    · have hl : (dSeen s.1).length < lim := by simp [lim]; omega
      simp only [denS, e_lit, e_var, getS_0, getS_s, isDic, if_true]
      simp only [hl, nd, keyT_dE, and_self, if_true, hp]
      rfl
structure LOk (ch : Chart) (s : LS) : Prop where
  nd : s.1.Nodup
  val : ∀ x ∈ s.1, Val ch x
  le : s.2.1.length ≤ s.1.length
  v : Val ch s.2.2
theorem LOk.step {ch : Chart} {s : LS} (h : LOk ch s) (q : Nat) : LOk ch (lstep ch s q) := by
  unfold lstep
  by_cases he : s.2.2 ∈ s.1
  · rw [if_pos he]; exact h
  · rw [if_neg he]
    refine ⟨nodup_snoc h.nd he, fun x hx => ?_, ?_, phi_val h.v⟩
    · rcases List.mem_append.mp hx with z | z
      · exact h.val x z
      · rw [List.mem_singleton.mp z]; exact h.v
    · have := h.le
      show (s.2.1 ++ [s.2.2]).length ≤ (s.1 ++ [s.2.2]).length
      simp only [List.length_append, List.length_cons, List.length_nil]; omega
theorem LOk.len {ch : Chart} {m : Nat} {s : LS} (D : Draw ch m) (h : LOk ch s) : s.1.length ≤ 16 ∧ s.2.1.length ≤ 16 := by
  have h1 := nodup_le h.nd (m := ends ch) fun x hx => mem_ends.mpr (h.val x hx)
  rw [D.ends] at h1
  have := D.n8
  have := h.le
  omega
theorem lw_inner {n m : Nat} {ch : Chart} {f s5 : Slot} {seen : List End} {e : End} (D : Draw ch m) (h : LOk ch (seen, [], e)) : ∃ s5',
    denS (run T (n + 2)) fo__law_walks_1 [.sh (dC ch), f, .dicT (dSeen seen), .sh (dE e), .own [], s5] = .nxt [.sh (dC ch), f, .dicT (dSeen ((List.range 16).foldl (lstep ch) (seen, [], e)).1), .sh (dE ((List.range 16).foldl (lstep ch) (seen, [], e)).2.2), .own (((List.range 16).foldl (lstep ch) (seen, [], e)).2.1.map dE), s5'] := by
  obtain ⟨r', e1, hk, s5', hr⟩ := for_fold (emb := fun q : Nat => dI q) (bind := bindT (.name 5)) (body := denS (run T (n + 2)) fb__law_walks_1)
    (fun (s : LS) r => LOk ch s ∧ ∃ s5, r = [.sh (dC ch), f, .dicT (dSeen s.1), .sh (dE s.2.2), .own (s.2.1.map dE), s5]) (lstep ch) (List.range 16) (seen, [], e) [.sh (dC ch), f, .dicT (dSeen seen), .sh (dE e), .own [], s5]
    ⟨h, s5, rfl⟩ (fun s a r ha ⟨hk, s5, hr⟩ => by
      subst hr
      have hl := hk.len D
      have st := lw_body (n := n) (f := f) (s5 := .sh (dI a)) (s := s) D hk.v (by omega) (by omega)
      exact ⟨_, _, rfl, st, hk.step a, _, rfl⟩)
  refine ⟨s5', ?_⟩
  rw [denS_for (l := (List.range 16).map fun q : Nat => dI q) (r1 := [.sh (dC ch), f, .dicT (dSeen seen), .sh (dE e), .own [], s5]) (by
    have := range0_eq 16
    simp only [e_it, e_cons, e_nil, e_lit, R.ok_bind, itD, guardO]
    rw [if_pos (by decide)]
    rw [← this]
    rfl), e1, hr]
abbrev dW (ws : List (List End)) : List D := ws.map fun w => .list (w.map dE)
theorem m_law_walks {n m : Nat} {ch : Chart} (D : Draw ch m) : run T (n + 3) 25 none [dC ch] = .ok (.list (dW (walks ch)), []) := by
  have hE : (ends ch).length ≤ 100 := by rw [D.ends]; have := D.n8; omega
  rw [run_fn T__law_walks rfl rfl]
  unfold b__law_walks
  have hm := m_law_ends (n := n + 1) (ch := ch) (by omega)
  have src : den (run T (n + 2)) (.it .seq (.cons (.call 22 (.cons (.var 0) .nil)) .nil)) [.sh (dC ch), .own [], .dicT [], .un, .un, .un] = .ok (.list ((ends ch).map dE), [.sh (dC ch), .own [], .dicT [], .un, .un, .un]) := by
    simp [e_it, e_call, e_cons, e_nil, e_var, getS, hm, itD]
  obtain ⟨r', e1, g, s3, s4, s5, hr⟩ := for_fold (emb := dE) (bind := bindT (.name 3)) (body := denS (run T (n + 2)) fb__law_walks_2)
    (fun (s : List End × List (List End)) r => WOkS ch s ∧ ∃ s3 s4 s5, r = [.sh (dC ch), .own (dW s.2), .dicT (dSeen s.1), s3, s4, s5]) (wstep ch) (ends ch) ([], []) [.sh (dC ch), .own [], .dicT [], .un, .un, .un]
    ⟨wstart_ok, .un, .un, .un, rfl⟩ (fun s a r ha ⟨g, s3, s4, s5, hr⟩ => by
      subst hr
      have hv := mem_ends.mp ha
      refine ⟨[.sh (dC ch), .own (dW s.2), .dicT (dSeen s.1), .sh (dE a), s4, s5], ?_⟩
      by_cases he : a ∈ s.1
      · refine ⟨[.sh (dC ch), .own (dW s.2), .dicT (dSeen s.1), .sh (dE a), s4, s5], rfl, ?_, ?_⟩
        · rw [lw_if, if_pos he]; rfl
        · have : wstep ch s a = s := by unfold wstep; rw [if_pos he]
          rw [this]
          exact ⟨g, _, _, _, rfl⟩
      · obtain ⟨p, hp⟩ := goOn_some (ch := ch) 200 s.1 [] a g.nd g.val hv (by omega)
        obtain ⟨seen', w, e'⟩ := p
        have hw : wstep ch s a = (seen', s.2 ++ [w]) := by unfold wstep; rw [if_neg he, hp]
        have ok' := wstep_ok hE g hv
        rw [hw] at ok'
        have hwl : w.length ≤ 16 := by
          have h1 := nodup_le ok'.nd (m := ends ch) fun x hx => mem_ends.mpr (ok'.val x hx)
          rw [D.ends] at h1
          have h2 := ok'.fl
          have h3 : (s.2 ++ [w]).flatten = seen' := h2
          have := congrArg List.length h3
          rw [List.flatten_append, List.length_append] at this
          simp only [List.flatten_cons, List.flatten_nil, List.append_nil] at this
          have := D.n8
          have h1 : seen'.length ≤ 2 * m := h1
          omega
        have lg := lgo 200 s.1 [] seen' w a e' (List.range 16) hp (by rw [List.length_range]; simpa using hwl)
        obtain ⟨s5', hin⟩ := lw_inner (n := n) (f := .own (dW s.2)) (s5 := s5) (seen := s.1) (e := a) D ⟨g.nd, g.val, by simp, hv⟩
        rw [lg] at hin
        have hfl : s.2.length < 1000000 := by
          have h1 := nodup_le g.nd (m := ends ch) fun x hx => mem_ends.mpr (g.val x hx)
          have := g.len
          omega
        refine ⟨[.sh (dC ch), .own (dW (s.2 ++ [w])), .dicT (dSeen seen'), .sh (dE e'), .sh (.list (w.map dE)), s5'], rfl, ?_, ?_⟩
        · rw [lw_if, if_neg he, denS_seq (r1 := [.sh (dC ch), .own (dW s.2), .dicT (dSeen s.1), .sh (dE a), .own [], s5]) (by simp [denS, e_op, e_nil, opD, dop_mkl, guardO, lim, slotM, putS]), denS_seq hin]
          have hfl' : (dW s.2).length < 1000000 := by rw [List.length_map]; exact hfl
          have ea : dW s.2 ++ [.list (w.map dE)] = dW (s.2 ++ [w]) := by simp [dW]
          generalize dW s.2 = A at *
          generalize hW : w.map dE = W at *
          simp [denS, e_var, getS, isOwnL, putS, lim, hfl', nd, ea]
        · rw [hw]
          exact ⟨ok', _, _, _, rfl⟩)
  rw [denS_seq (r1 := [.sh (dC ch), .own [], .dicT [], .un, .un, .un]) (by simp [denS, e_op, e_cons, e_nil, e_lit, opD, dop_mkl, guardO, lim, putPar, slotM, putS])]
  rw [denS_seq (r1 := r') (by rw [denS_for src]; exact e1), hr]
  have : (List.foldl (wstep ch) ([], []) (ends ch)).2 = walks ch := rfl
  rw [this]
  generalize dW (walks ch) = A
  simp [denS, e_var, getS, endOf]
end Bm
end
section
set_option Elab.async false
set_option linter.all false
set_option maxRecDepth 100000
set_option maxHeartbeats 1000000
/-! the law's map -/
namespace Bm
open PySem
theorem tslice_hi {l : List D} {k : Nat} : dop_slice [.tuple l, .none, dI k] = some (.tuple (l.take k)) := by
  have e : l.take (min k l.length) = l.take k := by
    rcases Nat.le_total k l.length with h | h
    · rw [Nat.min_eq_left h]
    · rw [Nat.min_eq_right h, List.take_of_length_le (Nat.le_refl _), List.take_of_length_le h]
  simp [dop_slice, clamp, cut, e]
theorem tslice_lo {l : List D} {k : Nat} : dop_slice [.tuple l, dI k, .none] = some (.tuple (l.drop k)) := by
  have e : l.drop (min k l.length) = l.drop k := by
    rcases Nat.le_total k l.length with h | h
    · rw [Nat.min_eq_left h]
    · rw [Nat.min_eq_right h, List.drop_of_length_le (Nat.le_refl _), List.drop_of_length_le h]
  simp [dop_slice, clamp, cut, e]
theorem add_str {a b : List Nat} (h : a.length + b.length ≤ 1000) : dop_add [dS a, dS b] = some (dS (a ++ b)) := by
  have : a.length + b.length ≤ lim := Nat.le_trans h (by decide)
  simp [dop_add, guardO, this]
theorem add_tup {a b : List D} (h : a.length + b.length ≤ 1000) : dop_add [.tuple a, .tuple b] = some (.tuple (a ++ b)) := by
  have : a.length + b.length ≤ lim := Nat.le_trans h (by decide)
  simp [dop_add, guardO, this]
theorem m_law_put {n p q c : Nat} {ch : Chart} {row : List Nat} (h : ch[p]? = some row) (hl : row.length ≤ 900) (hc : ch.length ≤ 900) : run T (n + 1) 26 none [dC ch, dI p, dI q, dS [c]] = .ok (dC (put ch (p, q) c), []) := by
  rw [run_fn T__law_put rfl rfl]
  unfold b__law_put
  have i1 := item_row h
  have a1 := slice_hiA (l := row) (k := q) (by omega)
  have a2 := slice_loA (l := row) (k := q) (by omega)
  have a3 : dop_add [dS (row.take q), dS [c]] = some (dS (row.take q ++ [c])) := add_str (by rw [List.length_take]; simp; omega)
  have a4 : dop_add [dS (row.take q ++ [c]), dS (row.drop q)] = some (dS (insAt row q c)) := by
    rw [add_str (by simp only [List.length_append, List.length_take, List.length_drop, List.length_cons, List.length_nil]; omega)]
    unfold insAt
    rw [List.append_assoc]
    rfl
  have hp : p < ch.length := (List.getElem?_eq_some_iff.mp h).1
  have e1 : dC (put ch (p, q) c) = .tuple ((ch.map dS).take p ++ [dS (insAt row q c)] ++ (ch.map dS).drop (p + 1)) := by
    unfold put
    rw [List.getD_eq_getElem?_getD, h]
    show dC (ch.set p (insAt row q c)) = _
    rw [List.set_eq_take_append_cons_drop, if_pos hp]
    simp [dC, List.map_take, List.map_drop]
  have b1 : dop_slice [dC ch, .none, dI p] = some (.tuple ((ch.map dS).take p)) := tslice_hi
  have b2 : dop_slice [dC ch, .int ((p : Int) + 1), .none] = some (.tuple ((ch.map dS).drop (p + 1))) := tslice_lo
  have b3 : dop_add [.tuple ((ch.map dS).take p), .tuple [dS (insAt row q c)]] = some (.tuple ((ch.map dS).take p ++ [dS (insAt row q c)])) := add_tup (by simp only [List.length_take, List.length_map, List.length_cons, List.length_nil]; omega)
  have b4 : dop_add [.tuple ((ch.map dS).take p ++ [dS (insAt row q c)]), .tuple ((ch.map dS).drop (p + 1))] = some (.tuple ((ch.map dS).take p ++ [dS (insAt row q c)] ++ (ch.map dS).drop (p + 1))) := add_tup (by simp only [List.length_append, List.length_take, List.length_drop, List.length_map, List.length_cons, List.length_nil]; omega)
  have a5 : dop_add [dI p, .int 1] = some (.int ((p : Int) + 1)) := rfl
  rw [e1]
  generalize (ch.map dS).take p = A at *
  generalize (ch.map dS).drop (p + 1) = B at *
  generalize dC ch = dc at *
  generalize insAt row q c = ins at *
  generalize row.take q ++ [c] = rt at *
  generalize row.take q = r1 at *
  generalize row.drop q = r2 at *
  simp [denS, e_op, e_cons, e_nil, e_var, e_lit, e_slcH, e_slcL, getS, opD, isI, i1, a1, a2, a3, a4, a5, b1, b2, b3, b4, dop_mkt, guardO, lim, nd, bindT, putS, endOf]
/-- a draw, in an expression -/
theorem den_roll {n m i : Nat} {r : Env} {a : E} {c k : Int} (ha : den (run T (n + 2)) a r = .ok (.list [dI m], r)) (hi : getS r i = .own [.int c, .int k]) (h0 : 0 < m) (h1 : m ≤ 1000) :
    ∃ v : Nat, ∃ c' k' : Int, v < m ∧ den (run T (n + 2)) (.callIO 18 i a) r = .ok (dI v, putS r i (.own [.int c', .int k'])) := by
  obtain ⟨v, c', k', hv, e⟩ := m_roll (n := n) c k h0 h1
  refine ⟨v, c', k', hv, ?_⟩
  simp only [e_callIO, hi, isOwnL, if_true, ha, R.ok_bind, e]
instance (a b : End) : Decidable (ltE a b) := by unfold ltE; exact inferInstance
theorem dle_dE (a b : End) : dle (dE a) (dE b) = !decide (ltE b a) := by
  unfold dle
  rw [PySem.W.dataLt_ii]
  congr 1
  rw [decide_eq_decide]
  unfold ltE
  omega
theorem sorted_two (a b : End) : ∃ f l : End, dop_sorted [.list [dE a, dE b]] = some (.list [dE f, dE l]) ∧ (ltE f l ∨ f = l) ∧ ((f = a ∧ l = b) ∨ (f = b ∧ l = a)) := by
  have h1 := alike_ends [a, b]
  have h3 : PyData.depthAll ([a, b].map dE) ≤ 60 := Nat.le_trans (depth_ends _) (by decide)
  have h2 : sortable ([a, b].map dE) = true := rfl
  have hs : dop_sorted [.list ([a, b].map dE)] = some (.list (isort dle ([a, b].map dE))) := by
    simp only [dop_sorted, guardO, h1, h2, decide_eq_true h3, Bool.and_self, Bool.true_and, Bool.and_true]
    rw [if_pos (by simp [lim])]
  have tri : ltE a b ∨ a = b ∨ ltE b a := by
    unfold ltE
    rcases Nat.lt_trichotomy a.1 b.1 with z | z | z
    · exact .inl (.inl z)
    · rcases Nat.lt_trichotomy a.2 b.2 with w | w | w
      · exact .inl (.inr ⟨z, w⟩)
      · exact .inr (.inl (Prod.ext z w))
      · exact .inr (.inr (.inr ⟨z.symm, w⟩))
    · exact .inr (.inr (.inl z))
  have nn : ltE a b → ¬ ltE b a := by unfold ltE; omega
  have hi : isort dle ([a, b].map dE) = if ltE b a then [dE b, dE a] else [dE a, dE b] := by
    simp only [List.map_cons, List.map_nil, isort, ins, dle_dE]
    by_cases hba : ltE b a
    · rw [decide_eq_true hba, if_pos hba]; rfl
    · rw [decide_eq_false hba, if_neg hba]; rfl
  rw [hi] at hs
  by_cases hba : ltE b a
  · rw [if_pos hba] at hs
    exact ⟨b, a, hs, .inl hba, .inr ⟨rfl, rfl⟩⟩
  · rw [if_neg hba] at hs
    refine ⟨a, b, hs, ?_, .inl ⟨rfl, rfl⟩⟩
    rcases tri with z | z | z
    · exact .inl z
    · exact .inr z
    · exact absurd z hba
theorem walks_pos {ch : Chart} {n : Nat} (D : Draw ch n) : 0 < (walks ch).length ∧ (walks ch).length ≤ 16 ∧ ∀ w ∈ walks ch, 0 < w.length ∧ w.length ≤ 16 := by
  have d := D.dec
  have h1 := d.pm.length_eq
  rw [D.ends] at h1
  have := D.n1
  have := D.n8
  have hE : (Bm.ends ch).length ≤ 100 := by rw [D.ends]; omega
  have ok := walks_ok hE
  refine ⟨?_, ?_, fun w hw => ⟨List.length_pos_iff.mpr (d.cyc w hw).1, ?_⟩⟩
  · cases hw : walks ch with
    | nil => rw [hw] at h1; simp at h1; omega
    | cons _ _ => simp
  · have h2 := ok.len
    have h3 : (walksOf ch (Bm.ends ch)).1.length = (walks ch).flatten.length := by rw [← ok.fl]; rfl
    have h4 : (walks ch).length ≤ (walksOf ch (Bm.ends ch)).1.length := h2
    omega
  · have : w.length ≤ (walks ch).flatten.length := by
      obtain ⟨a, b, e⟩ := List.append_of_mem hw
      rw [e]
      simp only [List.flatten_append, List.flatten_cons, List.length_append]; omega
    omega
theorem item_list {l : List D} {k : Nat} {d : D} (h : l[k]? = some d) : dop_item [.list l, dI k] = some d := by
  obtain ⟨h1, rfl⟩ := List.getElem?_eq_some_iff.mp h
  simp [dop_item, ixOf_nat, h1]
theorem pts_le {ch : Chart} {n : Nat} (M : IsM ch n) : ch.length ≤ n + 1 := by
  have := (walks_pos M.dr).1
  have := M.eu
  omega
end Bm
end
section
set_option Elab.async false
set_option linter.all false
set_option maxRecDepth 100000
set_option maxHeartbeats 1000000
namespace Bm
open PySem
abbrev dDice (c k : Int) : Slot := .own [.int c, .int k]
theorem NM_get {n : Nat} (h : n < 8) : NM[n]? = some (NM.getD n 0) := by
  have hl : NM.length = 8 := rfl
  rw [List.getD_eq_getElem?_getD, List.getElem?_eq_getElem (by omega)]; rfl
theorem any_body {n m : Nat} {ch : Chart} {c k : Int} {most lv : Nat} {s5 s6 s7 s8 : Slot} {lt : Nat} (hL : lt = NM.getD m 0) (M : IsM ch m) (hm : m < 8) : ∃ ch' c' k' s5' s6' s7' s8', IsM ch' (m + 1) ∧
    denS (run T (n + 4)) fb__law_any_map_1 [dDice c k, .sh (dI most), .sh (dC ch), .sh (dI lv), .sh (dS [lt]), s5, s6, s7, s8] = .nxt [dDice c' k', .sh (dI most), .sh (dC ch'), .sh (dI lv), .sh (dS [lt]), s5', s6', s7', s8'] := by
  have D := M.dr
  obtain ⟨w1, w2, w3⟩ := walks_pos D
  have hw := m_law_walks (n := n + 1) D
  have hchl : ch.length ≤ 9 := by have := pts_le M; omega
  -- the walks
  have s1 : denS (run T (n + 4)) (.asg (.name 5) (.call 25 (.cons (.var 2) .nil))) [dDice c k, .sh (dI most), .sh (dC ch), .sh (dI lv), .sh (dS [lt]), s5, s6, s7, s8] = .nxt [dDice c k, .sh (dI most), .sh (dC ch), .sh (dI lv), .sh (dS [lt]), .sh (.list (dW (walks ch))), s6, s7, s8] := by
    generalize dW (walks ch) = W at *
    generalize dC ch = dc at *
    simp [denS, e_call, e_cons, e_nil, e_var, getS, hw, bindT, putS]
  -- one of them
  have l1 : dop_len [.list (dW (walks ch))] = some (dI (walks ch).length) := by rw [len_list, List.length_map]
  obtain ⟨v1, c1, k1, hv1, r1⟩ := den_roll (n := n + 2) (m := (walks ch).length) (i := 0) (c := c) (k := k) (r := [dDice c k, .sh (dI most), .sh (dC ch), .sh (dI lv), .sh (dS [lt]), .sh (.list (dW (walks ch))), s6, s7, s8]) (a := .cons (.op .len (.cons (.var 5) .nil)) .nil) (by
    generalize dW (walks ch) = W at *
    simp [e_op, e_cons, e_nil, e_var, getS, opD, l1]) rfl w1 (by omega)
  obtain ⟨w, ew⟩ : ∃ w, (walks ch)[v1]? = some w := ⟨_, List.getElem?_eq_getElem hv1⟩
  have hww : w ∈ walks ch := List.mem_of_getElem? ew
  have i1 : dop_item [.list (dW (walks ch)), dI v1] = some (.list (w.map dE)) := item_list (by simp [dW, ew])
  have s2 : denS (run T (n + 4)) (.asg (.name 5) (.op .item (.cons (.var 5) (.cons (.callIO 18 0 (.cons (.op .len (.cons (.var 5) .nil)) .nil)) .nil)))) [dDice c k, .sh (dI most), .sh (dC ch), .sh (dI lv), .sh (dS [lt]), .sh (.list (dW (walks ch))), s6, s7, s8] = .nxt [dDice c1 k1, .sh (dI most), .sh (dC ch), .sh (dI lv), .sh (dS [lt]), .sh (.list (w.map dE)), s6, s7, s8] := by
    generalize dW (walks ch) = W at *
    generalize w.map dE = WD at *
    simp [denS, e_op, e_cons, e_nil, e_var, getS, r1, putS, opD, i1, bindT]
  -- one of its ends
  have l2 : dop_len [.list (w.map dE)] = some (dI w.length) := by rw [len_list, List.length_map]
  obtain ⟨v2, c2, k2, hv2, r2⟩ := den_roll (n := n + 2) (m := w.length) (i := 0) (c := c1) (k := k1) (r := [dDice c1 k1, .sh (dI most), .sh (dC ch), .sh (dI lv), .sh (dS [lt]), .sh (.list (w.map dE)), s6, s7, s8]) (a := .cons (.op .len (.cons (.var 5) .nil)) .nil) (by
    generalize w.map dE = WD at *
    simp [e_op, e_cons, e_nil, e_var, getS, opD, l2]) rfl (w3 w hww).1 (by have := (w3 w hww).2; omega)
  obtain ⟨o, eo⟩ : ∃ o, w[v2]? = some o := ⟨_, List.getElem?_eq_getElem hv2⟩
  have how : o ∈ w := List.mem_of_getElem? eo
  have i2 : dop_item [.list (w.map dE), dI v2] = some (dE o) := item_list (by simp [eo])
  have s3 : denS (run T (n + 4)) (.asg (.name 6) (.op .item (.cons (.var 5) (.cons (.callIO 18 0 (.cons (.op .len (.cons (.var 5) .nil)) .nil)) .nil)))) [dDice c1 k1, .sh (dI most), .sh (dC ch), .sh (dI lv), .sh (dS [lt]), .sh (.list (w.map dE)), s6, s7, s8] = .nxt [dDice c2 k2, .sh (dI most), .sh (dC ch), .sh (dI lv), .sh (dS [lt]), .sh (.list (w.map dE)), .sh (dE o), s7, s8] := by
    generalize w.map dE = WD at *
    generalize dE o = de at *
    simp [denS, e_op, e_cons, e_nil, e_var, getS, r2, putS, opD, i2, bindT]
  -- a leaf, or inside
  obtain ⟨v3, c3, k3, hv3, r3⟩ := den_roll (n := n + 2) (m := 6) (i := 0) (c := c2) (k := k2) (r := [dDice c2 k2, .sh (dI most), .sh (dC ch), .sh (dI lv), .sh (dS [lt]), .sh (.list (w.map dE)), .sh (dE o), s7, s8]) (a := .cons (.lit (.int 6)) .nil) (by simp [e_cons, e_nil, e_lit]) rfl (by omega) (by omega)
  have vo : Val ch o := mem_ends.mp (D.dec.pm.subset (List.mem_flatten.mpr ⟨w, hww, how⟩))
  have rowOf : ∀ x, Val ch x → ∃ row, ch[x.1]? = some row ∧ row.length ≤ 100 := fun x hx => by
    obtain ⟨row, h1, _⟩ := hx
    exact ⟨row, h1, D.small row (List.mem_of_getElem? h1)⟩
  have hif : ∀ {a b : S}, denS (run T (n + 4)) (.ifs (.op .lt (.cons (.callIO 18 0 (.cons (.lit (.int 6)) .nil)) (.cons (.op .sub (.cons (.var 3) (.cons (.lit (.int 1)) .nil))) .nil))) a b) [dDice c2 k2, .sh (dI most), .sh (dC ch), .sh (dI lv), .sh (dS [lt]), .sh (.list (w.map dE)), .sh (dE o), s7, s8] = if (v3 : Int) < (lv : Int) - 1 then denS (run T (n + 4)) a [dDice c3 k3, .sh (dI most), .sh (dC ch), .sh (dI lv), .sh (dS [lt]), .sh (.list (w.map dE)), .sh (dE o), s7, s8] else denS (run T (n + 4)) b [dDice c3 k3, .sh (dI most), .sh (dC ch), .sh (dI lv), .sh (dS [lt]), .sh (.list (w.map dE)), .sh (dE o), s7, s8] := fun {a b} => by
    have hc : den (run T (n + 4)) (.op .lt (.cons (.callIO 18 0 (.cons (.lit (.int 6)) .nil)) (.cons (.op .sub (.cons (.var 3) (.cons (.lit (.int 1)) .nil))) .nil))) [dDice c2 k2, .sh (dI most), .sh (dC ch), .sh (dI lv), .sh (dS [lt]), .sh (.list (w.map dE)), .sh (dE o), s7, s8] = .ok (.bool (decide ((v3 : Int) < (lv : Int) - 1)), [dDice c3 k3, .sh (dI most), .sh (dC ch), .sh (dI lv), .sh (dS [lt]), .sh (.list (w.map dE)), .sh (dE o), s7, s8]) := by
      generalize w.map dE = WD at *
      generalize dE o = de at *
      simp [e_op, e_cons, e_nil, e_var, e_lit, getS, r3, putS, opD, dop_sub, dop_lt]
    simp only [denS, hc]
    by_cases hlt : (v3 : Int) < (lv : Int) - 1
    · rw [decide_eq_true hlt, if_pos hlt]
    · rw [decide_eq_false hlt, if_neg hlt]
  rw [denS_seq s1, denS_seq s2, denS_seq s3, hif]
  by_cases hlt : (v3 : Int) < (lv : Int) - 1
  · rw [if_pos hlt]
    refine ⟨put ch o (lt) ++ [[lt]], c3, k3, .sh (.list (w.map dE)), .sh (dE o), s7, s8, by rw [hL]; exact m_leaf M hm vo, ?_⟩
    obtain ⟨row, h1, h2⟩ := rowOf o vo
    have hp := m_law_put (n := n + 3) (p := o.1) (q := o.2) (c := lt) h1 (by omega) (by omega)
    have ad : dop_add [dC (put ch o (lt)), .tuple [dS [lt]]] = some (dC (put ch o (lt) ++ [[lt]])) := by
      have := add_tup (a := (put ch o (lt)).map dS) (b := [dS [lt]]) (by rw [List.length_map, put_len]; simp; omega)
      rw [show dC (put ch o (lt)) = .tuple ((put ch o (lt)).map dS) from rfl, this]
      simp [dC]
    have e0 := item_e0 o
    have e1 := item_e1 o
    generalize w.map dE = WD at *
    generalize dE o = de at *
    generalize dC (put ch o (lt) ++ [[lt]]) = dr at *
    generalize dC (put ch (o.1, o.2) (lt)) = dp at *
    simp [denS, e_op, e_call, e_cons, e_nil, e_var, e_lit, getS, opD, e0, e1, hp, ad, dop_mkt, guardO, lim, nd, bindT, putS]
  · rw [if_neg hlt]
    obtain ⟨v4, c4, k4, hv4, r4⟩ := den_roll (n := n + 2) (m := w.length) (i := 0) (c := c3) (k := k3) (r := [dDice c3 k3, .sh (dI most), .sh (dC ch), .sh (dI lv), .sh (dS [lt]), .sh (.list (w.map dE)), .sh (dE o), s7, s8]) (a := .cons (.op .len (.cons (.var 5) .nil)) .nil) (by
      generalize w.map dE = WD at *
      simp [e_op, e_cons, e_nil, e_var, getS, opD, l2]) rfl (w3 w hww).1 (by have := (w3 w hww).2; omega)
    obtain ⟨o2, eo2⟩ : ∃ o2, w[v4]? = some o2 := ⟨_, List.getElem?_eq_getElem hv4⟩
    have how2 : o2 ∈ w := List.mem_of_getElem? eo2
    have i3 : dop_item [.list (w.map dE), dI v4] = some (dE o2) := item_list (by simp [eo2])
    obtain ⟨f, l, hs, hfl, hor⟩ := sorted_two o o2
    have hf : f ∈ w := by rcases hor with ⟨a, _⟩ | ⟨a, _⟩ <;> rw [a] <;> assumption
    have hl : l ∈ w := by rcases hor with ⟨_, a⟩ | ⟨_, a⟩ <;> rw [a] <;> assumption
    have vf : Val ch f := mem_ends.mp (D.dec.pm.subset (List.mem_flatten.mpr ⟨w, hww, hf⟩))
    have vl : Val ch l := mem_ends.mp (D.dec.pm.subset (List.mem_flatten.mpr ⟨w, hww, hl⟩))
    refine ⟨put (put ch l (lt)) f (lt), c4, k4, .sh (.list (w.map dE)), .sh (dE o), .sh (dE f), .sh (dE l), by rw [hL]; exact m_in M hm hww hf hl hfl, ?_⟩
    have s4 : denS (run T (n + 4)) (.asg (.lst [7, 8]) (.op .sorted (.cons (.op .mkl (.cons (.var 6) (.cons (.op .item (.cons (.var 5) (.cons (.callIO 18 0 (.cons (.op .len (.cons (.var 5) .nil)) .nil)) .nil))) .nil))) .nil))) [dDice c3 k3, .sh (dI most), .sh (dC ch), .sh (dI lv), .sh (dS [lt]), .sh (.list (w.map dE)), .sh (dE o), s7, s8] = .nxt [dDice c4 k4, .sh (dI most), .sh (dC ch), .sh (dI lv), .sh (dS [lt]), .sh (.list (w.map dE)), .sh (dE o), .sh (dE f), .sh (dE l)] := by
      have nd1 : nd (dE o) = true := rfl
      have nd2 : nd (dE o2) = true := rfl
      generalize w.map dE = WD at *
      generalize dE o = de at *
      generalize dE o2 = de2 at *
      generalize dE f = df at *
      generalize dE l = dl at *
      simp [denS, e_op, e_cons, e_nil, e_var, getS, r4, putS, opD, i3, dop_mkl, guardO, lim, nd1, nd2, hs, bindT, putAll]
    rw [denS_seq s4]
    obtain ⟨row, h1, h2⟩ := rowOf l vl
    have hp := m_law_put (n := n + 3) (p := l.1) (q := l.2) (c := lt) h1 (by omega) (by omega)
    have hvf : Val (put ch l (lt)) f := by
      obtain ⟨rb, Pb, hbl⟩ := Plc.of vl
      rcases hfl with h | h
      · have := (put_sh (c := lt) Pb vf).1
        rwa [sh_lt h] at this
      · rw [h]; exact (put_new Pb).1
    obtain ⟨row2, g1, g2⟩ := hvf
    have hrl : row2.length ≤ 900 := by
      have h1 : row2.length ≤ (put ch l (lt)).flatten.length := row_le (List.mem_of_getElem? g1)
      obtain ⟨rb, Pb, hbl⟩ := Plc.of vl
      rw [(put_flat Pb).length_eq, List.length_cons, D.len] at h1
      omega
    have hp2 := m_law_put (n := n + 3) (p := f.1) (q := f.2) (c := lt) g1 hrl (by rw [put_len]; omega)
    have e0 := item_e0 f
    have e1 := item_e1 f
    have e2 := item_e0 l
    have e3 := item_e1 l
    have ex : dC (put (put ch l (lt)) f (lt)) = dC (put (put ch l (lt)) (f.1, f.2) (lt)) := rfl
    rw [ex]
    have hp : run T (n + 4) 26 none [dC ch, dI l.1, dI l.2, dS [lt]] = .ok (dC (put ch l (lt)), []) := hp
    generalize w.map dE = WD at *
    generalize dE o = de at *
    generalize dE f = df at *
    generalize dE l = dl at *
    generalize dC (put (put ch l (lt)) (f.1, f.2) (lt)) = dr at *
    generalize dC (put ch l (lt)) = dp at *
    simp [denS, e_op, e_call, e_cons, e_nil, e_var, e_lit, getS, opD, e0, e1, e2, e3, hp, hp2, bindT, putS]
theorem NM_drop {m : Nat} (h : m < 8) : NM.drop m = NM.getD m 0 :: NM.drop (m + 1) := by
  have hl : m < NM.length := h
  rw [List.drop_eq_getElem_cons hl, List.getD_eq_getElem?_getD, List.getElem?_eq_getElem hl]
  rfl
theorem any_loop {n : Nat} {most lv : Nat} : ∀ (j m : Nat) (ch : Chart) (c k : Int) (s4 s5 s6 s7 s8 : Slot), IsM ch m → m + j ≤ 8 → ∃ ch' c' k' s4' s5' s6' s7' s8', IsM ch' (m + j) ∧
    forLoop (bindT (.name 4)) (denS (run T (n + 4)) fb__law_any_map_1) (chars ((NM.drop m).take j)) [dDice c k, .sh (dI most), .sh (dC ch), .sh (dI lv), s4, s5, s6, s7, s8] = .nxt [dDice c' k', .sh (dI most), .sh (dC ch'), .sh (dI lv), s4', s5', s6', s7', s8']
  | 0, m, ch, c, k, s4, s5, s6, s7, s8, M, _ => ⟨ch, c, k, s4, s5, s6, s7, s8, M, rfl⟩
  | j + 1, m, ch, c, k, s4, s5, s6, s7, s8, M, h => by
    obtain ⟨ch1, c1, k1, t5, t6, t7, t8, M1, e1⟩ := any_body (n := n) (c := c) (k := k) (most := most) (lv := lv) (s5 := s5) (s6 := s6) (s7 := s7) (s8 := s8) rfl M (by omega)
    obtain ⟨ch2, c2, k2, u4, u5, u6, u7, u8, M2, e2⟩ := any_loop (n := n) (most := most) (lv := lv) j (m + 1) ch1 c1 k1 (.sh (dS [NM.getD m 0])) t5 t6 t7 t8 M1 (by omega)
    refine ⟨ch2, c2, k2, u4, u5, u6, u7, u8, by rw [show m + (j + 1) = m + 1 + j by omega]; exact M2, ?_⟩
    rw [NM_drop (by omega), List.take_succ_cons]
    show forLoop _ _ (dS [NM.getD m 0] :: chars ((NM.drop (m + 1)).take j)) _ = _
    rw [forLoop_cons (r1 := [dDice c k, .sh (dI most), .sh (dC ch), .sh (dI lv), .sh (dS [NM.getD m 0]), s5, s6, s7, s8]) rfl e1, e2]
theorem m_any_map {n : Nat} (c k : Int) {most : Nat} (h1 : 1 ≤ most) (h8 : most ≤ 8) : ∃ ch nb c' k', IsM ch nb ∧ nb ≤ most ∧ run T (n + 5) 27 (some [.int c, .int k]) [dI most] = .ok (dC ch, [.int c', .int k']) := by
  rw [run_io T__law_any_map rfl rfl]
  unfold b__law_any_map
  obtain ⟨v1, c1, k1, hv1, r1⟩ := den_roll (n := n + 2) (m := 2) (i := 0) (c := c) (k := k) (r := [dDice c k, .sh (dI most), .un, .un, .un, .un, .un, .un, .un]) (a := .cons (.lit (.int 2)) .nil) (by simp [e_cons, e_nil, e_lit]) rfl (by omega) (by omega)
  obtain ⟨v2, c2, k2, hv2, r2⟩ := den_roll (n := n + 2) (m := 6) (i := 0) (c := c1) (k := k1) (r := [dDice c1 k1, .sh (dI most), .un, .un, .un, .un, .un, .un, .un]) (a := .cons (.lit (.int 6)) .nil) (by simp [e_cons, e_nil, e_lit]) rfl (by omega) (by omega)
  obtain ⟨ch0, M0, i0⟩ : ∃ ch0, IsM ch0 1 ∧ dop_item [.list [.tuple [dS [97], dS [97]], .tuple [dS [97, 97]]], dI v1] = some (dC ch0) := by
    rcases (by omega : v1 = 0 ∨ v1 = 1) with rfl | rfl
    · exact ⟨_, m_one1, by simp [dop_item, ixOf]⟩
    · exact ⟨_, m_one2, by simp [dop_item, ixOf]⟩
  have s1 : denS (run T (n + 4)) (.par [(2, 0), (3, 0)] (.cons (.op .item (.cons (.op .mkl (.cons (.op .mkt (.cons (.lit (dS [97])) (.cons (.lit (dS [97])) .nil))) (.cons (.op .mkt (.cons (.lit (dS [97, 97])) .nil)) .nil))) (.cons (.callIO 18 0 (.cons (.lit (.int 2)) .nil)) .nil))) (.cons (.op .add (.cons (.lit (.int 1)) (.cons (.callIO 18 0 (.cons (.lit (.int 6)) .nil)) .nil))) .nil))) [dDice c k, .sh (dI most), .un, .un, .un, .un, .un, .un, .un] = .nxt [dDice c2 k2, .sh (dI most), .sh (dC ch0), .sh (dI (1 + v2)), .un, .un, .un, .un, .un] := by
    have a1 : dop_add [.int 1, dI v2] = some (dI (1 + v2)) := by simp [dop_add]
    generalize dC ch0 = dc at *
    generalize dI (1 + v2) = lv at *
    simp [denS, e_op, e_cons, e_nil, e_lit, opD, dop_mkt, dop_mkl, guardO, lim, nd, r1, putS, i0, r2, a1, putPar, slotM]
  obtain ⟨v3, c3, k3, hv3, r3⟩ := den_roll (n := n + 2) (m := most) (i := 0) (c := c2) (k := k2) (r := [dDice c2 k2, .sh (dI most), .sh (dC ch0), .sh (dI (1 + v2)), .un, .un, .un, .un, .un]) (a := .cons (.var 1) .nil) (by simp [e_cons, e_nil, e_var, getS]) rfl (by omega) (by omega)
  have sl : dop_slice [dS [98, 99, 100, 101, 102, 103, 104], .none, dI v3] = some (dS ((NM.drop 1).take v3)) := slice_hiA (l := NM.drop 1) (by decide)
  obtain ⟨ch, c4, k4, s4, s5, s6, s7, s8, M, e⟩ := any_loop (n := n) (most := most) (lv := 1 + v2) v3 1 ch0 c3 k3 .un .un .un .un .un M0 (by omega)
  have src : den (run T (n + 4)) (.it .seq (.cons (.slcH (.lit (dS [98, 99, 100, 101, 102, 103, 104])) (.callIO 18 0 (.cons (.var 1) .nil))) .nil)) [dDice c2 k2, .sh (dI most), .sh (dC ch0), .sh (dI (1 + v2)), .un, .un, .un, .un, .un] = .ok (.list (chars ((NM.drop 1).take v3)), [dDice c3 k3, .sh (dI most), .sh (dC ch0), .sh (dI (1 + v2)), .un, .un, .un, .un, .un]) := by
    generalize (NM.drop 1).take v3 = ls at *
    generalize dI (1 + v2) = lv at *
    simp [e_it, e_slcH, e_cons, e_nil, e_lit, r3, putS, isI, opD, sl, itD]
  refine ⟨ch, 1 + v3, c4, k4, M, by omega, ?_⟩
  simp only [List.map_cons, List.map_nil, List.cons_append, List.nil_append, Nat.reduceSub, List.replicate]
  rw [denS_seq s1, denS_seq (r1 := [dDice c4 k4, .sh (dI most), .sh (dC ch), .sh (dI (1 + v2)), s4, s5, s6, s7, s8]) (by rw [denS_for src]; exact e)]
  simp [denS, e_var, getS, endOf]
end Bm
end
section
set_option Elab.async false
set_option linter.all false
set_option maxRecDepth 100000
set_option maxHeartbeats 1000000
/-! A calculus for runs of the evaluator. -/
namespace Bm
open PySem
section
variable {call : CallS}
/-! expressions -/
theorem v_sh {i : Nat} {r : Env} {d : D} (h : getS r i = .sh d) : den call (.var i) r = .ok (d, r) := by rw [e_var, h]
theorem v_own {i : Nat} {r : Env} {l : List D} (h : getS r i = .own l) : den call (.var i) r = .ok (.list l, putS r i (.sh (.list l))) := by rw [e_var, h]
theorem a_cons {a b : E} {r r1 r2 : Env} {x : D} {l : List D} (h1 : den call a r = .ok (x, r1)) (h2 : den call b r1 = .ok (.list l, r2)) : den call (.cons a b) r = .ok (.list (x :: l), r2) := by
  rw [e_cons, h1, R.ok_bind]
  show (den call b r1).bind _ = _
  rw [h2]; rfl
theorem v_op {o : Op} {a : E} {r r1 : Env} {l : List D} {d : D} (h1 : den call a r = .ok (.list l, r1)) (h2 : opD o l = some d) : den call (.op o a) r = .ok (d, r1) := by
  rw [e_op, h1, R.ok_bind]
  show (R.opt (opD o l)).bind _ = _
  rw [h2]; rfl
theorem v_call {f : Nat} {a : E} {r r1 : Env} {l m : List D} {d : D} (h1 : den call a r = .ok (.list l, r1)) (h2 : call f none l = .ok (d, m)) : den call (.call f a) r = .ok (d, r1) := by
  rw [e_call, h1, R.ok_bind]
  show (call f none l).bind _ = _
  rw [h2]; rfl
theorem v_callIO {f i : Nat} {a : E} {r r1 : Env} {l m m' : List D} {d : D} (h0 : isOwnL (getS r i) = true) (h1 : den call a r = .ok (.list l, r1)) (hi : getS r1 i = .own m) (h2 : call f (some m) l = .ok (d, m')) : den call (.callIO f i a) r = .ok (d, putS r1 i (.own m')) := by
  rw [e_callIO, if_pos h0, h1, R.ok_bind]
  simp only [hi, h2]
theorem v_meth {o : Op} {a b : E} {r r1 r2 : Env} {z : Str} {l : List D} {d : D} (h1 : den call a r = .ok (.str z, r1)) (h2 : den call b r1 = .ok (.list l, r2)) (h3 : opD o (.str z :: l) = some d) : den call (.meth o a b) r = .ok (d, r2) := by
  rw [e_meth, h1, R.ok_bind]
  show (den call b r1).bind _ = _
  rw [h2, R.ok_bind]
  show (R.opt (opD o (.str z :: l))).bind _ = _
  rw [h3]; rfl
theorem v_it {k : ItK} {a : E} {r r1 : Env} {l xs : List D} (h1 : den call a r = .ok (.list l, r1)) (h2 : itD k l = some xs) : den call (.it k a) r = .ok (.list xs, r1) := by
  rw [e_it, h1, R.ok_bind]
  show (R.opt (itD k l)).bind _ = _
  rw [h2]; rfl
theorem v_slcL {a lo : E} {r r1 r2 : Env} {x d : D} {i : Int} (h1 : den call a r = .ok (x, r1)) (h2 : den call lo r1 = .ok (.int i, r2)) (h3 : dop_slice [x, .int i, .none] = some d) : den call (.slcL a lo) r = .ok (d, r2) := by
  rw [e_slcL, h1, R.ok_bind]
  show (den call lo r1).bind _ = _
  rw [h2, R.ok_bind]
  show (R.opt (dop_slice [x, .int i, .none])).bind _ = _
  rw [h3]; rfl
theorem v_slcH {a hi : E} {r r1 r2 : Env} {x d : D} {i : Int} (h1 : den call a r = .ok (x, r1)) (h2 : den call hi r1 = .ok (.int i, r2)) (h3 : dop_slice [x, .none, .int i] = some d) : den call (.slcH a hi) r = .ok (d, r2) := by
  rw [e_slcH, h1, R.ok_bind]
  show (den call hi r1).bind _ = _
  rw [h2, R.ok_bind]
  show (R.opt (dop_slice [x, .none, .int i])).bind _ = _
  rw [h3]; rfl
theorem v_slcB {a lo hi : E} {r r1 r2 r3 : Env} {x d : D} {i j : Int} (h1 : den call a r = .ok (x, r1)) (h2 : den call lo r1 = .ok (.int i, r2)) (h2' : den call hi r2 = .ok (.int j, r3)) (h3 : dop_slice [x, .int i, .int j] = some d) : den call (.slcB a lo hi) r = .ok (d, r3) := by
  rw [e_slcB, h1, R.ok_bind]
  show (den call lo r1).bind _ = _
  rw [h2, R.ok_bind]
  show (den call hi r2).bind _ = _
  rw [h2', R.ok_bind]
  show (R.opt (dop_slice [x, .int i, .int j])).bind _ = _
  rw [h3]; rfl
theorem v_and {a b : E} {r r1 : Env} {x y : Bool} (h1 : den call a r = .ok (.bool x, r1)) (h2 : x = true → den call b r1 = .ok (.bool y, r1)) : den call (.and a b) r = .ok (.bool (x && y), r1) := by
  rw [e_and, h1, R.ok_bind]
  cases x with
  | true => exact h2 rfl
  | false => rfl
theorem v_or {a b : E} {r r1 : Env} {x y : Bool} (h1 : den call a r = .ok (.bool x, r1)) (h2 : x = false → den call b r1 = .ok (.bool y, r1)) : den call (.or a b) r = .ok (.bool (x || y), r1) := by
  rw [e_or, h1, R.ok_bind]
  cases x with
  | true => rfl
  | false => exact h2 rfl
theorem v_ife {c a b : E} {r r1 : Env} {x : Bool} {d1 d2 : D} (h1 : den call c r = .ok (.bool x, r1)) (h2 : x = true → den call a r1 = .ok (d1, r1)) (h3 : x = false → den call b r1 = .ok (d2, r1)) : den call (.ife c a b) r = .ok (if x then d1 else d2, r1) := by
  rw [e_ife, h1, R.ok_bind]
  cases x with
  | true => exact h2 rfl
  | false => exact h3 rfl
theorem v_chain {o1 o2 : Op} {a b c : E} {r r1 r2 : Env} {x y z : D} {p q : Bool} (h1 : den call a r = .ok (x, r1)) (h2 : den call b r1 = .ok (y, r2)) (h3 : opD o1 [x, y] = some (.bool p)) (h4 : p = true → den call c r2 = .ok (z, r2) ∧ opD o2 [y, z] = some (.bool q)) : den call (.chain o1 o2 a b c) r = .ok (.bool (p && q), r2) := by
  rw [e_chain, h1, R.ok_bind]
  show (den call b r1).bind _ = _
  rw [h2, R.ok_bind]
  show (match opD o1 [x, y] with | some (.bool true) => _ | some (.bool false) => _ | _ => _) = _
  rw [h3]
  cases p with
  | true =>
    obtain ⟨h5, h6⟩ := h4 rfl
    show (den call c r2).bind _ = _
    rw [h5, R.ok_bind]
    show (R.opt (opD o2 [y, z])).bind _ = _
    rw [h6]; rfl
  | false => rfl
theorem v_peek {a : E} {r r1 : Env} {d : D} (h0 : noDic r = true) (h1 : den call a (frzE r) = .ok (d, r1)) (h2 : noList d = true) : den call (.peek a) r = .ok (d, r) := by
  rw [e_peek, if_pos h0, h1]
  simp only [h2, if_true]
theorem v_oitem {i k : Nat} {a : E} {r r1 : Env} {l : List D} {d : D} (h0 : isOwnL (getS r i) = true) (h1 : den call a r = .ok (dI k, r1)) (hi : getS r1 i = .own l) (h2 : l[k]? = some d) : den call (.oitem i a) r = .ok (d, r1) := by
  rw [e_oitem, if_pos h0, h1, R.ok_bind]
  obtain ⟨h3, _⟩ := List.getElem?_eq_some_iff.mp h2
  simp only [hi, ixOf_nat h3, Option.bind_some, h2, R.opt_some, R.ok_bind]
theorem v_told {a : E} {r r1 : Env} {d : D} (h : den call a (hidE r) = .ok (d, r1)) : den call (.told a) r = .ok (d, r) := by
  rw [e_told, h]
theorem v_toldX {a : E} {r : Env} {c : Nat} (h : den call a (hidE r) = .exc c) (hc : c < 13) : den call (.told a) r = .ok (.tuple [.str (Str.ofString "error"), .str (excName c)], r) := by
  rw [e_told, h]
  simp only [hc, if_true]
theorem x_call {f : Nat} {a : E} {r r1 : Env} {l : List D} {c : Nat} (h1 : den call a r = .ok (.list l, r1)) (h2 : call f none l = .exc c) : den call (.call f a) r = .exc c := by
  rw [e_call, h1, R.ok_bind]
  show (call f none l).bind _ = _
  rw [h2]; rfl
/-- a comprehension over typed items -/
theorem v_lc {α : Type} {tg : Tg} {is : List Nat} {src cond elt : E} {r0 r : Env} (emb : α → D) {xs : List α} (g : α → Env) (p : α → Bool) (f : α → D) (hs : den call src r0 = .ok (.list (xs.map emb), r)) (hl : xs.length ≤ 1000)
    (h : ∀ a ∈ xs, bindT tg (emb a) (wipeE r is) = some (g a) ∧ wipeE (g a) is = wipeE r is ∧ (g a).length = r.length ∧ den call cond (g a) = .ok (.bool (p a), g a) ∧ (p a = true → den call elt (g a) = .ok (f a, g a) ∧ nd (f a) = true)) :
    den call (.lc is tg src cond elt) r0 = .ok (.list ((xs.filter p).map f), r) := by
  have key : ∀ (xs : List α) (r0 : Env) (acc : List D), wipeE r0 is = wipeE r is → r0.length = r.length → (∀ a ∈ xs, bindT tg (emb a) (wipeE r is) = some (g a) ∧ wipeE (g a) is = wipeE r is ∧ (g a).length = r.length ∧ den call cond (g a) = .ok (.bool (p a), g a) ∧ (p a = true → den call elt (g a) = .ok (f a, g a) ∧ nd (f a) = true)) →
      ∃ r1, lcLoop (fun d r => bindT tg d (wipeE r is)) (den call cond) (den call elt) (xs.map emb) r0 acc = .ok (acc.reverse ++ (xs.filter p).map f, r1) ∧ wipeE r1 is = wipeE r is ∧ r1.length = r.length := by
    intro xs
    induction xs with
    | nil => intro r0 acc h0 hl _; exact ⟨r0, by simp [lcLoop], h0, hl⟩
    | cons x xs ih =>
      intro r0 acc h0 hl h
      obtain ⟨h1, h2, h3, h4, h5⟩ := h x List.mem_cons_self
      have hr := fun y hy => h y (List.mem_cons_of_mem _ hy)
      simp only [List.map_cons, lcLoop]
      rw [h0, h1]
      simp only [h4]
      cases hp : p x with
      | true =>
        obtain ⟨h6, h7⟩ := h5 hp
        simp only [h6, h7, if_true]
        obtain ⟨r1, e, w⟩ := ih (g x) (f x :: acc) h2 h3 hr
        refine ⟨r1, ?_, w⟩
        rw [e, List.filter_cons, if_pos hp]
        simp
      | false =>
        obtain ⟨r1, e, w⟩ := ih (g x) acc h2 h3 hr
        refine ⟨r1, ?_, w⟩
        simp only [e, List.filter_cons, hp]
        simp
  obtain ⟨r1, e, w, wl⟩ := key xs r [] rfl rfl h
  simp only [den, hs, R.ok_bind, e]
  have : (([] : List D).reverse ++ (xs.filter p).map f).length ≤ lim := by
    simp only [List.reverse_nil, List.nil_append, List.length_map]
    exact Nat.le_trans (List.length_filter_le _ _) (Nat.le_trans hl (by decide))
  rw [if_pos this, back_id w wl]
  rfl
theorem v_map {α : Type} {tg : Tg} {is : List Nat} {src elt : E} {r0 r : Env} (emb : α → D) {xs : List α} (g : α → Env) (f : α → D) (hs : den call src r0 = .ok (.list (xs.map emb), r)) (hl : xs.length ≤ 1000)
    (h : ∀ a ∈ xs, bindT tg (emb a) (wipeE r is) = some (g a) ∧ wipeE (g a) is = wipeE r is ∧ (g a).length = r.length ∧ den call elt (g a) = .ok (f a, g a) ∧ nd (f a) = true) :
    den call (.lc is tg src (.lit (.bool true)) elt) r0 = .ok (.list (xs.map f), r) := by
  have := v_lc (cond := .lit (.bool true)) emb g (fun _ => true) f hs hl fun a ha => by
    obtain ⟨h1, h2, h3, h4, h5⟩ := h a ha
    exact ⟨h1, h2, h3, rfl, fun _ => ⟨h4, h5⟩⟩
  rw [this, List.filter_eq_self.mpr fun _ _ => rfl]
/-! statements -/
def Wp (call : CallS) (s : S) (r : Env) (P : Env → Prop) (Q : D → Env → Prop) (X : Nat → Prop) : Prop := match denS call s r with
  | .nxt r' => P r'
  | .ret d r' => Q d r'
  | .exc c => X c
  | .stuck => False
variable {P : Env → Prop} {Q : D → Env → Prop} {X : Nat → Prop}
theorem Wp.mono {s : S} {r : Env} {P' : Env → Prop} {Q' : D → Env → Prop} {X' : Nat → Prop} (h : Wp call s r P Q X) (h1 : ∀ r, P r → P' r) (h2 : ∀ d r, Q d r → Q' d r) (h3 : ∀ c, X c → X' c) : Wp call s r P' Q' X' := by
  unfold Wp at *
  cases hd : denS call s r with
  | nxt r' => rw [hd] at h; exact h1 _ h
  | ret d r' => rw [hd] at h; exact h2 _ _ h
  | exc c => rw [hd] at h; exact h3 _ h
  | stuck => rw [hd] at h; exact h
theorem w_skip {r : Env} (h : P r) : Wp call .skip r P Q X := h
theorem w_seq {a b : S} {r : Env} (h : Wp call a r (fun r1 => Wp call b r1 P Q X) Q X) : Wp call (.seq a b) r P Q X := by
  unfold Wp at h ⊢
  simp only [denS]
  cases hd : denS call a r with
  | nxt r' => rw [hd] at h; exact h
  | ret d r' => rw [hd] at h; exact h
  | exc c => rw [hd] at h; exact h
  | stuck => rw [hd] at h; exact h
theorem w_asg {tg : Tg} {e : E} {r r1 r2 : Env} {d : D} (h1 : den call e r = .ok (d, r1)) (h2 : bindT tg d r1 = some r2) (h : P r2) : Wp call (.asg tg e) r P Q X := by
  unfold Wp
  simp only [denS, h1, h2]; exact h
theorem w_asgM {i m : Nat} {e : E} {r r1 : Env} {d : D} {s : Slot} (h1 : den call e r = .ok (d, r1)) (h2 : slotM m d = some s) (h : P (putS r1 i s)) : Wp call (.asgM i m e) r P Q X := by
  unfold Wp
  simp only [denS, h1, h2]; exact h
theorem w_par {is : List (Nat × Nat)} {e : E} {r r1 r2 : Env} {l : List D} (h1 : den call e r = .ok (.list l, r1)) (h2 : putPar is l r1 = some r2) (h : P r2) : Wp call (.par is e) r P Q X := by
  unfold Wp
  simp only [denS, h1, h2]; exact h
theorem w_append {i : Nat} {e : E} {r r1 : Env} {d : D} {l : List D} (h0 : isOwnL (getS r i) = true) (h1 : den call e r = .ok (d, r1)) (h2 : getS r1 i = .own l) (h3 : l.length < 1000) (h4 : nd d = true) (h : P (putS r1 i (.own (l ++ [d])))) : Wp call (.append i e) r P Q X := by
  unfold Wp
  have : l.length < lim := Nat.lt_of_lt_of_le h3 (by decide)
  simp only [denS, h0, if_true, h1, h2, this, h4, and_self]; exact h
theorem w_store {i k : Nat} {ke e : E} {r r1 r2 : Env} {d : D} {l : List D} (h0 : isOwnL (getS r i) = true) (h1 : den call e r = .ok (d, r1)) (h1' : den call ke r1 = .ok (dI k, r2)) (h2 : getS r2 i = .own l) (h3 : k < l.length) (h4 : nd d = true) (h : P (putS r2 i (.own (l.set k d)))) : Wp call (.store i ke e) r P Q X := by
  unfold Wp
  simp only [denS, h0, if_true, h1, h1', h2, h4, ixOf_nat h3]; exact h
theorem w_sto2 {i k1 k2 j1 j2 : Nat} {e : E} {r r1 : Env} {d1 d2 : D} {l : List D} (h1 : den call e r = .ok (.tuple [d1, d2], r1)) (hn : nd d1 = true) (hn2 : nd d2 = true) (h2 : getS r1 i = .own l) (hi : i < r1.length) (g1 : getS r1 k1 = .sh (dI j1)) (g2 : getS r1 k2 = .sh (dI j2)) (n2 : k2 ≠ i) (l1 : j1 < l.length) (l2 : j2 < l.length) (h : P (putS r1 i (.own ((l.set j1 d1).set j2 d2)))) : Wp call (.sto2 i k1 k2 e) r P Q X := by
  unfold Wp
  have e1 : sto i k1 d1 r1 = some (putS r1 i (.own (l.set j1 d1))) := by unfold sto; simp only [h2, g1, ixOf_nat l1, Option.map_some]
  have g3 : getS (putS r1 i (.own (l.set j1 d1))) i = .own (l.set j1 d1) := by simp [getS, putS, hi]
  have g4 : getS (putS r1 i (.own (l.set j1 d1))) k2 = .sh (dI j2) := by
    rw [← g2]; simp [getS, putS, List.getD_eq_getElem?_getD, List.getElem?_set, Ne.symm n2]
  have l3 : j2 < (l.set j1 d1).length := by rw [List.length_set]; exact l2
  have e2 : sto i k2 d2 (putS r1 i (.own (l.set j1 d1))) = some (putS r1 i (.own ((l.set j1 d1).set j2 d2))) := by
    unfold sto; simp only [g3, g4, ixOf_nat l3, Option.map_some]
    simp [putS]
  simp only [denS, h1, hn, hn2, Bool.and_self, if_true, e1, Option.bind_some, e2]
  exact h
theorem w_expr {e : E} {r r1 : Env} {d : D} (h1 : den call e r = .ok (d, r1)) (h : P r1) : Wp call (.expr e) r P Q X := by
  unfold Wp
  simp only [denS, h1]; exact h
theorem w_exprX {e : E} {r : Env} {c : Nat} (h1 : den call e r = .exc c) (h : X c) : Wp call (.expr e) r P Q X := by
  unfold Wp
  simp only [denS, h1]; exact h
theorem w_ret {e : E} {r r1 : Env} {d : D} (h1 : den call e r = .ok (d, r1)) (h : Q d r1) : Wp call (.ret e) r P Q X := by
  unfold Wp
  simp only [denS, h1]; exact h
theorem w_retX {e : E} {r : Env} {c : Nat} (h1 : den call e r = .exc c) (h : X c) : Wp call (.ret e) r P Q X := by
  unfold Wp
  simp only [denS, h1]; exact h
theorem w_raise {r : Env} {c : Nat} (h : X c) : Wp call (.raise c) r P Q X := h
theorem w_if {c : E} {a b : S} {r r1 : Env} {x : Bool} (h1 : den call c r = .ok (.bool x, r1)) (h2 : x = true → Wp call a r1 P Q X) (h3 : x = false → Wp call b r1 P Q X) : Wp call (.ifs c a b) r P Q X := by
  unfold Wp at h2 h3 ⊢
  cases x with
  | true => simp only [denS, h1]; exact h2 rfl
  | false => simp only [denS, h1]; exact h3 rfl
theorem w_ifF {c : E} {a b : S} {r r1 : Env} (h1 : den call c r = .ok (.bool false, r1)) (h3 : Wp call b r1 P Q X) : Wp call (.ifs c a b) r P Q X := w_if h1 (fun z => by cases z) fun _ => h3
theorem w_ifT {c : E} {a b : S} {r r1 : Env} (h1 : den call c r = .ok (.bool true, r1)) (h3 : Wp call a r1 P Q X) : Wp call (.ifs c a b) r P Q X := w_if h1 (fun _ => h3) fun z => by cases z
/-- a loop, by what holds behind each prefix -/
theorem w_for {α : Type} {tg : Tg} {src : E} {b : S} {r r1 : Env} (emb : α → D) (xs : List α) (I : List α → Env → Prop) (h1 : den call src r = .ok (.list (xs.map emb), r1)) (h0 : I [] r1)
    (st : ∀ pre x suf r, xs = pre ++ x :: suf → I pre r → ∃ r2, bindT tg (emb x) r = some r2 ∧ Wp call b r2 (I (pre ++ [x])) Q X) (h : ∀ r, I xs r → P r) : Wp call (.for_ tg src b) r P Q X := by
  unfold Wp
  rw [denS_for h1]
  have key : ∀ (suf pre : List α) (r : Env), xs = pre ++ suf → I pre r → (match forLoop (bindT tg) (denS call b) (suf.map emb) r with
      | .nxt r' => P r'
      | .ret d r' => Q d r'
      | .exc c => X c
      | .stuck => False) := by
    intro suf
    induction suf with
    | nil => intro pre r e i; exact h r (by rw [e, List.append_nil]; exact i)
    | cons x suf ih =>
      intro pre r e i
      obtain ⟨r2, hb, hw⟩ := st pre x suf r e i
      simp only [List.map_cons, forLoop, hb]
      unfold Wp at hw
      cases hd : denS call b r2 with
      | nxt r' => rw [hd] at hw; exact ih (pre ++ [x]) r' (by rw [e, List.append_assoc]; rfl) hw
      | ret d r' => rw [hd] at hw; exact hw
      | exc c => rw [hd] at hw; exact hw
      | stuck => rw [hd] at hw; exact hw
  exact key xs [] r1 rfl h0
/-- a loop while, by a number that falls -/
theorem w_while {n : Nat} {c : E} {b : S} {r : Env} (I : Nat → Env → Prop) (k0 : Nat) (hk : k0 < n) (h0 : I k0 r)
    (st : ∀ k r, I k r → ∃ x r1, den call c r = .ok (.bool x, r1) ∧ (x = true → Wp call b r1 (fun r2 => ∃ k', k' < k ∧ I k' r2) Q X) ∧ (x = false → P r1)) : Wp call (.while_ n c b) r P Q X := by
  unfold Wp
  simp only [denS]
  have key : ∀ (n k : Nat) (r : Env), k < n → I k r → (match whileLoop (den call c) (denS call b) n r with
      | .nxt r' => P r'
      | .ret d r' => Q d r'
      | .exc c => X c
      | .stuck => False) := by
    intro n
    induction n with
    | zero => intro k r h _; omega
    | succ n ih =>
      intro k r hk i
      obtain ⟨x, r1, e, h1, h2⟩ := st k r i
      simp only [whileLoop, e]
      cases x with
      | true =>
        have hw := h1 rfl
        unfold Wp at hw
        simp only
        cases hd : denS call b r1 with
        | nxt r' =>
          rw [hd] at hw
          obtain ⟨k', hk', i'⟩ := hw
          exact ih k' r' (by omega) i'
        | ret d r' => rw [hd] at hw; exact hw
        | exc c => rw [hd] at hw; exact hw
        | stuck => rw [hd] at hw; exact hw
      | false => exact h2 rfl
  exact key n k0 r hk h0
end
/-! defs -/
theorem run_wp {n f : Nat} {fd : FDef} {args : List D} {d : D} (hT : T f = some fd) (hio : fd.io = false) (hl : args.length = fd.np) (h : Wp (run T n) fd.body (args.map .sh ++ List.replicate (fd.ns - fd.np) .un) (fun _ => d = .none) (fun x _ => x = d) fun _ => False) : run T (n + 1) f none args = .ok (d, []) := by
  rw [run_fn hT hio hl]
  unfold Wp at h
  cases hd : denS (run T n) fd.body (args.map .sh ++ List.replicate (fd.ns - fd.np) .un) with
  | nxt r' => rw [hd] at h; simp only [endOf]; rw [h]
  | ret x r' => rw [hd] at h; simp only [endOf]; rw [h]
  | exc c => rw [hd] at h; exact h.elim
  | stuck => rw [hd] at h; exact h.elim
theorem run_wpX {n f c : Nat} {fd : FDef} {args : List D} (hT : T f = some fd) (hio : fd.io = false) (hl : args.length = fd.np) (h : Wp (run T n) fd.body (args.map .sh ++ List.replicate (fd.ns - fd.np) .un) (fun _ => False) (fun x _ => False) fun k => k = c) : run T (n + 1) f none args = .exc c := by
  rw [run_fn hT hio hl]
  unfold Wp at h
  cases hd : denS (run T n) fd.body (args.map .sh ++ List.replicate (fd.ns - fd.np) .un) with
  | nxt r' => rw [hd] at h; exact h.elim
  | ret x r' => rw [hd] at h; exact h.elim
  | exc c => rw [hd] at h; simp only [endOf]; rw [h]
  | stuck => rw [hd] at h; exact h.elim
/-- a def that changes its first parameter -/
theorem run_wpIO {n f : Nat} {fd : FDef} {args m : List D} {Z : D → List D → Prop} (hT : T f = some fd) (hio : fd.io = true) (hl : args.length + 1 = fd.np) (h : Wp (run T n) fd.body (.own m :: args.map .sh ++ List.replicate (fd.ns - fd.np) .un) (fun r => ∃ m', getS r 0 = .own m' ∧ Z .none m') (fun x r => ∃ m', getS r 0 = .own m' ∧ Z x m') fun _ => False) : ∃ d m', Z d m' ∧ run T (n + 1) f (some m) args = .ok (d, m') := by
  rw [run_io hT hio hl]
  unfold Wp at h
  cases hd : denS (run T n) fd.body (.own m :: args.map .sh ++ List.replicate (fd.ns - fd.np) .un) with
  | nxt r' => rw [hd] at h; obtain ⟨m', g, z⟩ := h; exact ⟨_, m', z, by simp only [endOf, g]⟩
  | ret x r' => rw [hd] at h; obtain ⟨m', g, z⟩ := h; exact ⟨_, m', z, by simp only [endOf, g]⟩
  | exc c => rw [hd] at h; exact h.elim
  | stuck => rw [hd] at h; exact h.elim
/-- a law's round -/
theorem good_wp {call : CallS} {n : Nat} {b : S} {r : Env} (h : Wp call b r (fun r' => r'.length = n) (fun _ _ => False) fun _ => False) : ∃ r', denS call b r = .nxt r' ∧ r'.length = n := by
  unfold Wp at h
  cases hd : denS call b r with
  | nxt r' => rw [hd] at h; exact ⟨r', rfl, h⟩
  | ret x r' => rw [hd] at h; exact h.elim
  | exc c => rw [hd] at h; exact h.elim
  | stuck => rw [hd] at h; exact h.elim
end Bm
end
section
set_option Elab.async false
set_option linter.all false
set_option maxRecDepth 100000
set_option maxHeartbeats 1000000
/-! charts whose ends correspond -/
namespace Bm
open PySem
section
variable {α : Type} {f : α → α}
theorem chain_eq : ∀ (l m : List α) (x z z' : α), (x :: l).map f = l ++ [z] → (x :: m).map f = m ++ [z'] → l.length = m.length → l = m
  | [], [], _, _, _, _, _, _ => rfl
  | [], _ :: _, _, _, _, _, _, h => by simp at h
  | _ :: _, [], _, _, _, _, _, h => by simp at h
  | a :: l, b :: m, x, z, z', h1, h2, hl => by
    simp only [List.map_cons, List.cons_append, List.cons.injEq] at h1 h2
    have e : a = b := h1.1.symm.trans h2.1
    subst e
    rw [chain_eq l m a z z' (by simp only [List.map_cons]; exact h1.2) (by simp only [List.map_cons]; exact h2.2) (by simpa using hl)]
/-- the same for what does not see where a round begins -/
theorem dec_map [DecidableEq α] {β : Type} {κ : List α → β} (hκ : ∀ a b : List α, κ (a ++ b) = κ (b ++ a)) : ∀ {ws vs : List (List α)}, ws.flatten.Nodup → ws.flatten.Perm vs.flatten → (∀ w ∈ ws, Cyc f w) → (∀ v ∈ vs, Cyc f v) → (ws.map κ).Perm (vs.map κ)
  | [], vs, _, hp, _, hv => by
    cases vs with
    | nil => exact .refl _
    | cons v vs =>
      have := hp.length_eq
      have h0 := (hv v List.mem_cons_self).1
      have : 0 < v.length := List.length_pos_iff.mpr h0
      simp only [List.flatten_nil, List.length_nil, List.flatten_cons, List.length_append] at *
      omega
  | w :: ws, vs, hn, hp, hw, hv => by
    have cw := hw w List.mem_cons_self
    obtain ⟨x, hx⟩ := List.exists_mem_of_ne_nil _ cw.1
    have hxv : x ∈ vs.flatten := hp.subset (by rw [List.flatten_cons]; exact List.mem_append_left _ hx)
    obtain ⟨v, hvm, hxv⟩ := List.mem_flatten.mp hxv
    have cv := hv v hvm
    have nv : v.Nodup := nodup_of_flat (hp.nodup hn) hvm
    have nw : w.Nodup := nodup_of_flat hn List.mem_cons_self
    have pwv : w.Perm v := (List.perm_ext_iff_of_nodup nw nv).mpr fun y => ⟨cw.sub cv hx hxv y, cv.sub cw hxv hx y⟩
    have ek : κ w = κ v := by
      obtain ⟨a, b, ew, c1⟩ := cw.at hx
      obtain ⟨a', b', ev, c2⟩ := cv.at hxv
      have hl : (b ++ a).length = (b' ++ a').length := by
        have := pwv.length_eq
        rw [ew, ev] at this
        simp only [List.length_append, List.length_cons] at this ⊢
        omega
      have := chain_eq (b ++ a) (b' ++ a') x x x c1.2 c2.2 hl
      have e1 : κ w = κ (x :: (b ++ a)) := by rw [ew, hκ]; rfl
      have e2 : κ v = κ (x :: (b' ++ a')) := by rw [ev, hκ]; rfl
      rw [e1, e2, this]
    have pe : vs.Perm (v :: vs.erase v) := List.perm_cons_erase hvm
    have h1 : (w ++ ws.flatten).Perm (v ++ (vs.erase v).flatten) := by
      have := hp.trans pe.flatten
      simpa using this
    have h2 : ws.flatten.Perm (vs.erase v).flatten := (List.perm_append_left_iff w).mp (h1.trans ((pwv.append_right _).symm))
    have ih := dec_map hκ (ws := ws) (vs := vs.erase v) (List.nodup_append.mp (by simpa using hn)).2.1 h2 (fun u hu => hw u (List.mem_cons_of_mem _ hu)) (fun u hu => hv u (List.mem_of_mem_erase hu))
    rw [List.map_cons, ek]
    exact (ih.cons _).trans (by simpa using (pe.map κ).symm)
end
end Bm
end
section
set_option Elab.async false
set_option linter.all false
set_option maxRecDepth 100000
set_option maxHeartbeats 1000000
/-! charts whose ends correspond -/
namespace Bm
open PySem
structure Bij (A B : Chart) (g : End → End) : Prop where
  val : ∀ x, Val A x → Val B (g x)
  inj : ∀ x y, Val A x → Val A y → g x = g y → x = y
  sur : ∀ y, Val B y → ∃ x, Val A x ∧ g x = y
noncomputable def invE (A : Chart) (g : End → End) (y : End) : End := by
  classical exact if h : ∃ x, Val A x ∧ g x = y then h.choose else (0, 0)
theorem Bij.inv_spec {A B : Chart} {g : End → End} (h : Bij A B g) {y : End} (hy : Val B y) : Val A (invE A g y) ∧ g (invE A g y) = y := by
  have e := h.sur y hy
  unfold invE
  rw [dif_pos e]
  exact e.choose_spec
theorem Bij.inv_left {A B : Chart} {g : End → End} (h : Bij A B g) {x : End} (hx : Val A x) : invE A g (g x) = x := by
  obtain ⟨h1, h2⟩ := h.inv_spec (h.val x hx)
  exact h.inj _ _ h1 hx h2
theorem Bij.symm {A B : Chart} {g : End → End} (h : Bij A B g) : Bij B A (invE A g) where
  val := fun y hy => (h.inv_spec hy).1
  inj := fun y z hy hz e => by rw [← (h.inv_spec hy).2, ← (h.inv_spec hz).2, e]
  sur := fun x hx => ⟨g x, h.val x hx, h.inv_left hx⟩
theorem Bij.ends {A B : Chart} {g : End → End} (h : Bij A B g) : ((Bm.ends A).map g).Perm (Bm.ends B) := by
  refine (List.perm_ext_iff_of_nodup ?_ (nodup_endsFrom B 0)).mpr fun y => ?_
  · rw [List.nodup_iff_pairwise_ne, List.pairwise_map]
    exact (List.nodup_iff_pairwise_ne.mp (nodup_endsFrom A 0)).imp_of_mem fun {a b} ha hb hne z => hne (h.inj a b (mem_ends.mp ha) (mem_ends.mp hb) z)
  · constructor
    · intro hy
      obtain ⟨x, hx, rfl⟩ := List.mem_map.mp hy
      exact mem_ends.mpr (h.val x (mem_ends.mp hx))
    · intro hy
      obtain ⟨x, hx, rfl⟩ := h.sur y (mem_ends.mp hy)
      exact List.mem_map_of_mem (mem_ends.mpr hx)
/-- parted into rounds of any step -/
structure DecF (F : End → End) (ch : Chart) (ws : List (List End)) : Prop where
  pm : ws.flatten.Perm (ends ch)
  cyc : ∀ w ∈ ws, Cyc F w
theorem DecF.val {F : End → End} {ch : Chart} {ws : List (List End)} (h : DecF F ch ws) {w : List End} (hw : w ∈ ws) {x : End} (hx : x ∈ w) : Val ch x :=
  mem_ends.mp (h.pm.subset (List.mem_flatten.mpr ⟨w, hw, hx⟩))
theorem Dec.f {ch : Chart} {ws : List (List End)} (h : Dec ch ws) : DecF (phi ch) ch ws := ⟨h.pm, h.cyc⟩
theorem DecF.d {ch : Chart} {ws : List (List End)} (h : DecF (phi ch) ch ws) : Dec ch ws := ⟨h.pm, h.cyc⟩
theorem DecF.nd {F : End → End} {ch : Chart} {ws : List (List End)} (h : DecF F ch ws) : ws.flatten.Nodup := h.pm.symm.nodup (nodup_endsFrom ch 0)
theorem DecF.len {F : End → End} {ch : Chart} {ws vs : List (List End)} (h : DecF F ch ws) (h' : DecF F ch vs) : ws.length = vs.length := dec_len h.nd (h.pm.trans h'.pm.symm) h.cyc h'.cyc
theorem DecF.push {F G g : End → End} {A B : Chart} {ws : List (List End)} (h : DecF F A ws) (b : Bij A B g) (e : ∀ x, Val A x → G (g x) = g (F x)) : DecF G B (ws.map (List.map g)) := by
  refine ⟨?_, fun v hv => ?_⟩
  · rw [← List.map_flatten]
    exact (h.pm.map g).trans b.ends
  · obtain ⟨w, hw, rfl⟩ := List.mem_map.mp hv
    exact cyc_map (h.cyc w hw) fun x hx => e x (h.val hw hx)
theorem Bij.back {F G g : End → End} {A B : Chart} (b : Bij A B g) (hF : ∀ x, Val A x → Val A (F x)) (e : ∀ x, Val A x → G (g x) = g (F x)) : ∀ y, Val B y → F (invE A g y) = invE A g (G y) := fun y hy => by
  obtain ⟨h1, h2⟩ := b.inv_spec hy
  have := e _ h1
  rw [h2] at this
  rw [this, b.inv_left (hF _ h1)]
/-! the rows as rounds around points -/
def rowEnds (ch : Chart) : List (List End) := (List.range ch.length).map fun p => (List.range (ch.getD p []).length).map fun q => (p, q)
theorem rowEnds_from : ∀ (rows : Chart) (k : Nat), endsFrom k rows = ((List.range rows.length).map fun p => (List.range (rows.getD p []).length).map fun q => (k + p, q)).flatten
  | [], k => rfl
  | row :: rows, k => by
    have ih := rowEnds_from rows (k + 1)
    simp only [endsFrom, List.length_cons, List.range_succ_eq_map, List.map_cons, List.flatten_cons, List.map_map, ih]
    congr 1
    congr 1
    apply List.map_congr_left
    intro p _
    simp only [Function.comp, List.getD_cons_succ]
    apply List.map_congr_left
    intro q _
    rw [Nat.succ_eq_add_one, Nat.add_right_comm, Nat.add_assoc]
theorem rowEnds_flat (ch : Chart) : (rowEnds ch).flatten = ends ch := by
  have := rowEnds_from ch 0
  simp only [Nat.zero_add] at this
  rw [ends, this]
  rfl
theorem cyc_row (p m : Nat) (hm : 0 < m) {ch : Chart} {row : List Nat} (h : ch[p]? = some row) (hl : row.length = m) : Cyc (nextA ch) ((List.range m).map fun q => (p, q)) := by
  obtain ⟨k, rfl⟩ : ∃ k, m = k + 1 := ⟨m - 1, by omega⟩
  refine ⟨by simp, ?_⟩
  rw [List.map_map]
  have e : (List.range (k + 1)).map (nextA ch ∘ fun q => (p, q)) = (List.range (k + 1)).map fun q => (p, (q + 1) % (k + 1)) :=
    List.map_congr_left fun q _ => by
      show nextA ch (p, q) = _
      rw [nextA_at (x := (p, q)) h, hl]
  rw [e]
  conv => rhs; rw [List.range_succ_eq_map]
  simp only [List.map_cons, rot1, List.map_map]
  rw [List.range_succ, List.map_append]
  congr 1
  · refine List.map_congr_left fun q hq => ?_
    have := List.mem_range.mp hq
    show (p, (q + 1) % (k + 1)) = (p, q + 1)
    rw [Nat.mod_eq_of_lt (by omega)]
  · simp
theorem row_dec {ch : Chart} (hne : ∀ r ∈ ch, r ≠ []) : DecF (nextA ch) ch (rowEnds ch) := by
  refine ⟨by rw [rowEnds_flat], fun w hw => ?_⟩
  obtain ⟨p, hp, rfl⟩ := List.mem_map.mp hw
  have hp := List.mem_range.mp hp
  have e : ch[p]? = some (ch.getD p []) := by rw [List.getD_eq_getElem?_getD, List.getElem?_eq_getElem hp]; rfl
  exact cyc_row p _ (List.length_pos_iff.mpr (hne _ (List.mem_of_getElem? e))) e rfl
theorem rowEnds_len (ch : Chart) : (rowEnds ch).length = ch.length := by unfold rowEnds; simp
theorem rowEnds_word (ch : Chart) : (rowEnds ch).map (List.map (letterAt ch)) = ch := by
  unfold rowEnds
  rw [List.map_map]
  apply List.ext_getElem?
  intro p
  rw [List.getElem?_map]
  by_cases hp : p < ch.length
  · rw [List.getElem?_eq_getElem (by simpa using hp), List.getElem_range, Option.map_some, List.getElem?_eq_getElem hp]
    congr 1
    have eg : ch.getD p [] = ch[p] := by rw [List.getD_eq_getElem?_getD, List.getElem?_eq_getElem hp]; rfl
    show List.map (letterAt ch) (List.map _ (List.range (ch.getD p []).length)) = _
    rw [eg, List.map_map]
    apply List.ext_getElem?
    intro q
    rw [List.getElem?_map]
    by_cases hq : q < ch[p].length
    · rw [List.getElem?_eq_getElem (by simpa using hq), List.getElem_range, Option.map_some, List.getElem?_eq_getElem hq]
      congr 1
      show letterAt ch (p, q) = _
      unfold letterAt
      simp only []
      rw [eg, List.getD_eq_getElem?_getD, List.getElem?_eq_getElem hq]
      rfl
    · rw [List.getElem?_eq_none (by simpa using hq), List.getElem?_eq_none (by omega)]
      rfl
  · rw [List.getElem?_eq_none (by simpa using hp), List.getElem?_eq_none (by omega)]
    rfl
/-! connected, by ends -/
def Conn (ch : Chart) : Prop := ∀ P : End → Prop, (∃ x, Val ch x ∧ P x) → (∀ x, Val ch x → P x → P (nextA ch x)) → (∀ x, Val ch x → P x → P (otherEnd ch x)) → ∀ x, Val ch x → P x
theorem cyc_all {F : End → End} {w : List End} (h : Cyc F w) {P : End → Prop} {x : End} (hx : x ∈ w) (hP : P x) (st : ∀ y ∈ w, P y → P (F y)) : ∀ y ∈ w, P y := by
  have main : ∀ (l : List End) (a z : End), (a :: l).map F = l ++ [z] → P a → (∀ y, y = a ∨ y ∈ l → P y → P (F y)) → ∀ y ∈ l, P y := by
    intro l
    induction l with
    | nil => intro a z _ _ _ y hy; cases hy
    | cons b l ih =>
      intro a z e ha hs y hy
      simp only [List.map_cons, List.cons_append, List.cons.injEq] at e
      have hb : P b := e.1 ▸ hs a (.inl rfl) ha
      rcases List.mem_cons.mp hy with rfl | hy
      · exact hb
      · exact ih b z (by simp only [List.map_cons]; exact e.2) hb (fun y hy => hs y (.inr (by rcases hy with rfl | hy; exact List.mem_cons_self; exact List.mem_cons_of_mem _ hy))) y hy
  obtain ⟨u, v, rfl, h'⟩ := h.at hx
  have := main (v ++ u) x x h'.2 hP (fun y hy => st y (by
    rcases hy with rfl | hy
    · simp
    · rcases List.mem_append.mp hy with z | z <;> simp [z]))
  intro y hy
  rcases List.mem_append.mp hy with z | z
  · exact this y (List.mem_append_right _ z)
  · rcases List.mem_cons.mp z with rfl | z
    · exact hP
    · exact this y (List.mem_append_left _ z)
theorem row_all {ch : Chart} {P : End → Prop} (st : ∀ y, Val ch y → P y → P (nextA ch y)) {x y : End} (hx : Val ch x) (hy : Val ch y) (e : x.1 = y.1) (h : P x) : P y := by
  obtain ⟨row, h1, h2⟩ := hx
  obtain ⟨row', h3, h4⟩ := hy
  have er : row' = row := by rw [← e, h1] at h3; cases h3; rfl
  subst er
  have c := cyc_row (ch := ch) x.1 row'.length (by omega) h1 rfl
  have m1 : x ∈ (List.range row'.length).map fun q => (x.1, q) := List.mem_map.mpr ⟨x.2, List.mem_range.mpr h2, rfl⟩
  have m2 : y ∈ (List.range row'.length).map fun q => (x.1, q) := List.mem_map.mpr ⟨y.2, List.mem_range.mpr h4, by rw [e]⟩
  refine cyc_all c m1 h (fun z hz hPz => st z ?_ hPz) y m2
  obtain ⟨q, hq, rfl⟩ := List.mem_map.mp hz
  exact ⟨row', h1, List.mem_range.mp hq⟩
theorem Draw.row0 {ch : Chart} {n p : Nat} (D : Draw ch n) (hp : p < ch.length) : Val ch (p, 0) := by
  refine ⟨ch[p], List.getElem?_eq_getElem hp, List.length_pos_iff.mpr (D.ne _ (List.getElem_mem hp))⟩
theorem val_lt {ch : Chart} {x : End} (h : Val ch x) : x.1 < ch.length := by
  obtain ⟨row, h1, _⟩ := h
  exact (List.getElem?_eq_some_iff.mp h1).1
theorem Draw.conn {ch : Chart} {n : Nat} (D : Draw ch n) : Conn ch ↔ ∀ p, p < ch.length → RE ch p := by
  constructor
  · intro h p hp
    have h0 : 0 < ch.length := by omega
    exact h (fun x => RE ch x.1) ⟨(0, 0), D.row0 h0, .zero⟩ (fun x _ hx => hx) (fun x hx hr => .step hr hx) (p, 0) (D.row0 hp)
  · intro h P ⟨x0, hx0, hP0⟩ s1 s2
    have key : ∀ p, RE ch p → ((∀ x, Val ch x → x.1 = p → P x) ↔ ∀ x, Val ch x → x.1 = 0 → P x) := by
      intro p hp
      induction hp with
      | zero => exact Iff.rfl
      | @step e _ hv ih =>
        refine Iff.trans ?_ ih
        have ho := (D.other hv).val
        constructor
        · intro g x hx ex
          have := s2 _ ho (g _ ho rfl)
          rw [D.other_other hv] at this
          exact row_all s1 hv hx ex.symm this
        · intro g x hx ex
          exact row_all s1 ho hx ex.symm (s2 _ hv (g e hv rfl))
    have hz : ∀ x, Val ch x → x.1 = 0 → P x := (key x0.1 (h _ (val_lt hx0))).mp fun x hx ex => row_all s1 hx0 hx ex.symm hP0
    intro x hx
    exact (key x.1 (h _ (val_lt hx))).mpr hz x hx rfl
theorem IsM.conn {ch : Chart} {n : Nat} (M : IsM ch n) : Conn ch := M.dr.conn.mpr M.co
/-! other ends correspond -/
theorem bij_other {A B : Chart} {g : End → End} {n m : Nat} (DA : Draw A n) (DB : Draw B m) (b : Bij A B g) (l : ∀ x y, Val A x → Val A y → letterAt A x = letterAt A y → letterAt B (g x) = letterAt B (g y)) : ∀ x, Val A x → otherEnd B (g x) = g (otherEnd A x) := fun x hx => by
  have o := DA.other hx
  exact ((DB.other (b.val x hx)).unique (b.val _ o.val) (fun z => o.ne (b.inj _ _ o.val hx z)) (l _ _ o.val hx o.let_)).symm
/-- copies: rows to rows, letters to letters -/
structure Cop (A B : Chart) (g : End → End) : Prop where
  bij : Bij A B g
  nx : ∀ x, Val A x → nextA B (g x) = g (nextA A x)
  lt : ∀ x y, Val A x → Val A y → letterAt A x = letterAt A y → letterAt B (g x) = letterAt B (g y)
theorem Cop.other {A B : Chart} {g : End → End} {n m : Nat} (c : Cop A B g) (DA : Draw A n) (DB : Draw B m) : ∀ x, Val A x → otherEnd B (g x) = g (otherEnd A x) := bij_other DA DB c.bij c.lt
theorem Cop.phi {A B : Chart} {g : End → End} {n m : Nat} (c : Cop A B g) (DA : Draw A n) (DB : Draw B m) : ∀ x, Val A x → Bm.phi B (g x) = g (Bm.phi A x) := fun x hx => by
  unfold Bm.phi
  rw [c.other DA DB x hx, c.nx _ (DA.other hx).val]
theorem conn_push {A B : Chart} {g a o : End → End} (b : Bij A B g) (h : ∀ P : End → Prop, (∃ x, Val A x ∧ P x) → (∀ x, Val A x → P x → P (a x)) → (∀ x, Val A x → P x → P (o x)) → ∀ x, Val A x → P x) (e1 : ∀ x, Val A x → nextA B (g x) = g (a x)) (e2 : ∀ x, Val A x → otherEnd B (g x) = g (o x)) : Conn B := by
  intro P ⟨y0, hy0, hP0⟩ s1 s2 y hy
  obtain ⟨x0, hx0, rfl⟩ := b.sur y0 hy0
  obtain ⟨x, hx, rfl⟩ := b.sur y hy
  exact h (fun x => P (g x)) ⟨x0, hx0, hP0⟩ (fun x hx hp => by rw [← e1 x hx]; exact s1 _ (b.val x hx) hp) (fun x hx hp => by rw [← e2 x hx]; exact s2 _ (b.val x hx) hp) x hx
theorem Cop.isM {A B : Chart} {g : End → End} {n : Nat} (c : Cop A B g) (M : IsM A n) (DB : Draw B n) (hl : B.length = A.length) : IsM B n := by
  have d := (M.dr.dec.f.push c.bij (c.phi M.dr DB)).d
  refine IsM.mk' DB (DB.conn.mp ?_) d ?_
  · exact conn_push c.bij M.conn c.nx (c.other M.dr DB)
  · rw [hl, List.length_map]; exact M.eu
end Bm
end
section
set_option Elab.async false
set_option linter.all false
set_option maxRecDepth 100000
set_option maxHeartbeats 1000000
/-! the chart whose rows are the rounds -/
namespace Bm
open PySem
def atE (us : List (List End)) (e : End) : End := (us.getD e.1 []).getD e.2 (0, 0)
def dualC (ch : Chart) (us : List (List End)) : Chart := us.map (word ch)
theorem dual_row {ch : Chart} {us : List (List End)} {y : End} (h : Val (dualC ch us) y) : ∃ u, us[y.1]? = some u ∧ y.2 < u.length ∧ u[y.2]? = some (atE us y) := by
  obtain ⟨row, h1, h2⟩ := h
  unfold dualC at h1
  rw [List.getElem?_map] at h1
  cases hu : us[y.1]? with
  | none => rw [hu] at h1; cases h1
  | some u =>
    rw [hu] at h1
    cases h1
    have hl : y.2 < u.length := by simpa [word] using h2
    refine ⟨u, rfl, hl, ?_⟩
    unfold atE
    rw [List.getD_eq_getElem?_getD, List.getD_eq_getElem?_getD, hu, Option.getD_some, List.getElem?_eq_getElem hl]
    rfl
theorem nodup_at {us : List (List End)} : ∀ {i i' j j' : Nat} {u u' : List End} {x : End}, us.flatten.Nodup → us[i]? = some u → us[i']? = some u' → u[j]? = some x → u'[j']? = some x → i = i' ∧ j = j' := by
  induction us with
  | nil => intro i i' j j' u u' x _ h; simp at h
  | cons v us ih =>
    intro i i' j j' u u' x hn h1 h2 h3 h4
    rw [List.flatten_cons] at hn
    obtain ⟨n1, n2, n3⟩ := List.nodup_append.mp hn
    have mem : ∀ {k : Nat} {w : List End} {q : Nat}, us[k]? = some w → w[q]? = some x → x ∈ us.flatten := fun hk hq => List.mem_flatten.mpr ⟨_, List.mem_of_getElem? hk, List.mem_of_getElem? hq⟩
    cases i with
    | zero =>
      cases h1
      cases i' with
      | zero =>
        cases h2
        obtain ⟨l1, e1⟩ := List.getElem?_eq_some_iff.mp h3
        obtain ⟨l2, e2⟩ := List.getElem?_eq_some_iff.mp h4
        exact ⟨rfl, (List.getElem_inj n1).mp (e1.trans e2.symm)⟩
      | succ i' =>
        rw [List.getElem?_cons_succ] at h2
        exact absurd rfl (n3 x (List.mem_of_getElem? h3) x (mem h2 h4))
    | succ i =>
      rw [List.getElem?_cons_succ] at h1
      cases i' with
      | zero =>
        cases h2
        exact absurd rfl (n3 x (List.mem_of_getElem? h4) x (mem h1 h3))
      | succ i' =>
        rw [List.getElem?_cons_succ] at h2
        obtain ⟨a, b⟩ := ih n2 h1 h2 h3 h4
        exact ⟨by rw [a], b⟩
theorem dual_bij {F : End → End} {ch : Chart} {us : List (List End)} (h : DecF F ch us) : Bij (dualC ch us) ch (atE us) where
  val := fun y hy => by
    obtain ⟨u, h1, h2, h3⟩ := dual_row hy
    exact h.val (List.mem_of_getElem? h1) (List.mem_of_getElem? h3)
  inj := fun x y hx hy e => by
    obtain ⟨u, h1, h2, h3⟩ := dual_row hx
    obtain ⟨u', h1', h2', h3'⟩ := dual_row hy
    rw [e] at h3
    obtain ⟨a, b⟩ := nodup_at h.nd h1 h1' h3 h3'
    exact Prod.ext a b
  sur := fun x hx => by
    obtain ⟨u, hu, hxu⟩ := List.mem_flatten.mp (h.pm.symm.subset (mem_ends.mpr hx))
    obtain ⟨i, hi, ei⟩ := List.mem_iff_getElem.mp hu
    obtain ⟨j, hj, ej⟩ := List.mem_iff_getElem.mp hxu
    refine ⟨(i, j), ⟨word ch u, ?_, ?_⟩, ?_⟩
    · unfold dualC
      rw [List.getElem?_map, List.getElem?_eq_getElem hi, ei]; rfl
    · simpa [word] using hj
    · unfold atE
      simp only []
      rw [List.getD_eq_getElem?_getD, List.getD_eq_getElem?_getD, List.getElem?_eq_getElem hi, ei, Option.getD_some, List.getElem?_eq_getElem hj, ej]
      rfl
theorem dual_letter {ch : Chart} {us : List (List End)} {y : End} (h : Val (dualC ch us) y) : letterAt (dualC ch us) y = letterAt ch (atE us y) := by
  obtain ⟨u, h1, h2, h3⟩ := dual_row h
  refine (letter_of (row := word ch u) ?_ ?_).2
  · unfold dualC; rw [List.getElem?_map, h1]; rfl
  · unfold word; rw [List.getElem?_map, h3]; rfl
theorem rot1_get {α : Type} : ∀ (u : List α) (j : Nat), j < u.length → (rot1 u)[j]? = u[(j + 1) % u.length]?
  | [], j, h => by simp at h
  | a :: l, j, h => by
    simp only [rot1, List.length_cons] at *
    by_cases hj : j < l.length
    · rw [List.getElem?_append_left hj, Nat.mod_eq_of_lt (by omega), List.getElem?_cons_succ]
    · have : j = l.length := by omega
      subst this
      rw [List.getElem?_append_right (Nat.le_refl _), Nat.mod_self]
      simp
theorem dual_next {F : End → End} {ch : Chart} {us : List (List End)} (h : DecF F ch us) {y : End} (hy : Val (dualC ch us) y) : atE us (nextA (dualC ch us) y) = F (atE us y) := by
  obtain ⟨u, h1, h2, h3⟩ := dual_row hy
  have hr : (dualC ch us)[y.1]? = some (word ch u) := by unfold dualC; rw [List.getElem?_map, h1]; rfl
  have c := h.cyc u (List.mem_of_getElem? h1)
  have e1 : (u.map F)[y.2]? = some (F (atE us y)) := by rw [List.getElem?_map, h3]; rfl
  rw [c.2, rot1_get u y.2 h2] at e1
  rw [nextA_at hr]
  have el : (word ch u).length = u.length := by simp [word]
  generalize F (atE us y) = z at e1 ⊢
  unfold atE
  simp only []
  rw [el, List.getD_eq_getElem?_getD (l := us), h1, Option.getD_some, List.getD_eq_getElem?_getD, e1]
  rfl
theorem dual_flat (ch : Chart) (us : List (List End)) : (dualC ch us).flatten = us.flatten.map (letterAt ch) := by
  unfold dualC word
  rw [List.map_flatten]
theorem dual_draw {F : End → End} {ch : Chart} {n : Nat} {us : List (List End)} (D : Draw ch n) (h : DecF F ch us) : Draw (dualC ch us) n where
  ne := fun r hr => by
    obtain ⟨u, hu, rfl⟩ := List.mem_map.mp hr
    have := (h.cyc u hu).1
    intro z
    exact this (List.map_eq_nil_iff.mp z)
  n1 := D.n1
  n8 := D.n8
  pm := by
    rw [dual_flat]
    exact (h.pm.map _).trans (by rw [map_letter]; exact D.pm)
theorem dual_other {F : End → End} {ch : Chart} {n : Nat} {us : List (List End)} (D : Draw ch n) (h : DecF F ch us) : ∀ y, Val (dualC ch us) y → otherEnd ch (atE us y) = atE us (otherEnd (dualC ch us) y) :=
  bij_other (dual_draw D h) D (dual_bij h) fun x y hx hy e => by rw [← dual_letter hx, ← dual_letter hy, e]
theorem dual_phi {ch : Chart} {n : Nat} {us : List (List End)} (D : Draw ch n) (h : Dec ch us) : ∀ y, Val (dualC ch us) y → nextA ch (atE us y) = atE us (phi (dualC ch us) y) := fun y hy => by
  have D' := dual_draw D h.f
  have e : phi (dualC ch us) y = nextA (dualC ch us) (otherEnd (dualC ch us) y) := rfl
  rw [e, dual_next h.f (D'.other hy).val, ← dual_other D h.f y hy]
  show _ = nextA ch (otherEnd ch (otherEnd ch (atE us y)))
  rw [D.other_other ((dual_bij h.f).val y hy)]
/-- the rounds of the dual -/
noncomputable def backRows (ch : Chart) (us : List (List End)) : List (List End) := (rowEnds ch).map (List.map (invE (dualC ch us) (atE us)))
theorem dual_dec {ch : Chart} {n : Nat} {us : List (List End)} (D : Draw ch n) (h : Dec ch us) : Dec (dualC ch us) (backRows ch us) := by
  have b := dual_bij h.f
  exact ((row_dec D.ne).push b.symm (b.back (fun y hy => phi_val hy) (dual_phi D h))).d
theorem backRows_word {ch : Chart} {n : Nat} {us : List (List End)} (D : Draw ch n) (h : Dec ch us) : (backRows ch us).map (word (dualC ch us)) = ch := by
  have b := dual_bij h.f
  unfold backRows
  rw [List.map_map]
  refine Eq.trans (List.map_congr_left (g := List.map (letterAt ch)) fun w hw => ?_) (rowEnds_word ch)
  show word _ (List.map _ w) = _
  unfold word
  rw [List.map_map]
  refine List.map_congr_left fun x hx => ?_
  have hv := (row_dec D.ne).val hw hx
  obtain ⟨h1, h2⟩ := b.inv_spec hv
  show letterAt _ (invE _ _ x) = _
  rw [dual_letter h1, h2]
theorem dual_isM {ch : Chart} {n : Nat} {us : List (List End)} (M : IsM ch n) (h : Dec ch us) : IsM (dualC ch us) n := by
  have D' := dual_draw M.dr h.f
  have b := dual_bij h.f
  refine IsM.mk' D' (D'.conn.mp ?_) (dual_dec M.dr h) ?_
  · refine conn_push (a := phi ch) (o := otherEnd ch) b.symm (fun P h0 h1 h2 => M.conn P h0 (fun x hx hp => ?_) h2) (fun x hx => ?_) (fun x hx => ?_)
    · have := h1 _ (M.dr.other hx).val (h2 x hx hp)
      unfold phi at this
      rwa [M.dr.other_other hx] at this
    · exact b.back (fun y hy => nextA_val hy) (fun y hy => (dual_next h.f hy).symm) x hx
    · exact b.back (fun y hy => (D'.other hy).val) (dual_other M.dr h.f) x hx
  · unfold backRows dualC
    rw [List.length_map, List.length_map, rowEnds_len, h.len M.dr.dec]
    have := M.eu
    omega
end Bm
end
section
set_option Elab.async false
set_option linter.all false
set_option maxRecDepth 100000
set_option maxHeartbeats 1000000
/-! the strings of the lands, in order -/
namespace Bm
open PySem
def leL (a b : List Nat) : Bool := !decide (b < a)
theorem leL_iff (a b : List Nat) : leL a b = true ↔ a ≤ b := by unfold leL; simp
theorem leL_tot (a b : List Nat) : leL a b = true ∨ leL b a = true := by rw [leL_iff, leL_iff]; exact List.le_total a b
theorem leL_tr (a b c : List Nat) (h : leL a b = true) (h' : leL b c = true) : leL a c = true := by rw [leL_iff] at *; exact List.le_trans h h'
theorem leL_asy (a b : List Nat) (h : leL a b = true) (h' : leL b a = true) : a = b := by rw [leL_iff] at *; exact List.le_antisymm h h'
theorem leL_refl (a : List Nat) : leL a a = true := (leL_tot a a).elim id id
theorem dle_leL (a b : List Nat) : dle (dS a) (dS b) = leL a b := dle_str a b
/-- sorted by what the order sees first -/
theorem insT_key {α β : Type} {le : α → α → Bool} {kl : β → β → Bool} {κ : α → β} (tr : ∀ a b c, kl a b = true → kl b c = true → kl a c = true) (h1 : ∀ a b, le a b = true → kl (κ a) (κ b) = true) (h2 : ∀ a b, le a b = false → kl (κ b) (κ a) = true) (x : α) : ∀ l : List α, (l.map κ).Pairwise (fun a b => kl a b = true) → ((insT le x l).map κ).Pairwise (fun a b => kl a b = true)
  | [], _ => by simp [insT]
  | y :: r, h => by
    rw [List.map_cons] at h
    have hy := List.pairwise_cons.mp h
    simp only [insT]
    cases hxy : le x y with
    | true =>
      rw [if_pos rfl, List.map_cons, List.map_cons]
      refine List.pairwise_cons.mpr ⟨fun z hz => ?_, h⟩
      rcases List.mem_cons.mp hz with rfl | hz
      · exact h1 _ _ hxy
      · exact tr _ _ _ (h1 _ _ hxy) (hy.1 z hz)
    | false =>
      rw [if_neg (by simp), List.map_cons]
      refine List.pairwise_cons.mpr ⟨fun z hz => ?_, insT_key tr h1 h2 x r hy.2⟩
      have hz := ((insT_perm (le := le) x r).map κ).subset hz
      rw [List.map_cons] at hz
      rcases List.mem_cons.mp hz with rfl | hz
      · exact h2 _ _ hxy
      · exact hy.1 z hz
theorem isortT_key {α β : Type} {le : α → α → Bool} {kl : β → β → Bool} {κ : α → β} (tr : ∀ a b c, kl a b = true → kl b c = true → kl a c = true) (h1 : ∀ a b, le a b = true → kl (κ a) (κ b) = true) (h2 : ∀ a b, le a b = false → kl (κ b) (κ a) = true) : ∀ l : List α, ((isortT le l).map κ).Pairwise (fun a b => kl a b = true)
  | [] => List.Pairwise.nil
  | x :: r => insT_key tr h1 h2 x _ (isortT_key tr h1 h2 r)
theorem lt_round (ch : Chart) (a b : List End) : PySem.W.dataLt (roundV ch a) (roundV ch b) = true → leL (landT ch a) (landT ch b) = true := by
  unfold roundV
  rw [PySem.W.dataLt_tuple]
  intro h
  have e : leL (landT ch a) (landT ch b) = dle (dS (landT ch a)) (dS (landT ch b)) := (dle_leL _ _).symm
  rw [e]
  unfold dle
  show (!PySem.W.dataLt (dS (landT ch b)) (dS (landT ch a))) = true
  have h : PyProof.Rows.lexLt PyProof.Rows.itemOrd (PySem.W.keyToksAll [dS (landT ch a), dE (leastOf a), .tuple (a.map dE)]) (PySem.W.keyToksAll [dS (landT ch b), dE (leastOf b), .tuple (b.map dE)]) = true := h
  generalize landT ch a = u at *
  generalize landT ch b = v at *
  unfold PySem.W.dataLt
  simp only [PySem.W.keyToksAll, PySem.W.keyToks, List.cons_append, List.nil_append] at h ⊢
  rw [PyProof.Rows.lex_self] at h
  by_cases huv : u = v
  · subst huv
    rw [PyProof.Rows.lex_self]; rfl
  · have hne : (Sum.inr (st u).cps.toList : Int ⊕ List Nat) ≠ Sum.inr (st v).cps.toList := fun z => huv (st_inj (PySem.W.str_of_cps (Sum.inr.inj z)))
    rw [PySem.W.lex_atom hne] at h
    have h' : PySem.W.dataLt (dS u) (dS v) = true := h
    have g := PySem.W.dataLt_str (st v) (st u)
    unfold PySem.W.dataLt at g
    simp only [PySem.W.keyToks] at g
    rw [PySem.W.dataLt_str, decide_eq_true_eq] at h'
    rw [g, Bool.not_eq_true', decide_eq_false_iff_not]
    exact fun z => List.lt_irrefl _ (List.lt_trans h' z)
theorem lt_round' (ch : Chart) (a b : List End) (h : landT ch a < landT ch b) : PySem.W.dataLt (roundV ch a) (roundV ch b) = true := by
  unfold roundV
  rw [PySem.W.dataLt_tuple]
  show PyProof.Rows.lexLt PyProof.Rows.itemOrd (PySem.W.keyToksAll [dS (landT ch a), dE (leastOf a), .tuple (a.map dE)]) (PySem.W.keyToksAll [dS (landT ch b), dE (leastOf b), .tuple (b.map dE)]) = true
  generalize landT ch a = u at *
  generalize landT ch b = v at *
  have huv : u ≠ v := fun z => by rw [z] at h; exact List.lt_irrefl _ h
  have hne : (Sum.inr (st u).cps.toList : Int ⊕ List Nat) ≠ Sum.inr (st v).cps.toList := fun z => huv (st_inj (PySem.W.str_of_cps (Sum.inr.inj z)))
  have g := PySem.W.dataLt_str (st u) (st v)
  unfold PySem.W.dataLt at g
  simp only [PySem.W.keyToks] at g
  simp only [PySem.W.keyToksAll, PySem.W.keyToks, List.cons_append, List.nil_append]
  rw [PyProof.Rows.lex_self, PySem.W.lex_atom hne, g, decide_eq_true_eq]
  show toL (st u) < toL (st v)
  rw [toL_st, toL_st]
  exact h
def landStr (ch : Chart) : Chart := (rnds ch).map (landT ch)
theorem landStr_pw (ch : Chart) : (landStr ch).Pairwise (fun a b => leL a b = true) := by
  refine isortT_key leL_tr (fun a b h => ?_) (fun a b h => ?_) (walks ch)
  · unfold dle at h
    have h : PySem.W.dataLt (roundV ch b) (roundV ch a) = false := by simpa using h
    cases z : leL (landT ch a) (landT ch b) with
    | true => rfl
    | false =>
      have := lt_round' ch b a (by unfold leL at z; simpa using z)
      rw [h] at this; cases this
  · refine lt_round ch b a ?_
    unfold dle at h
    simpa using h
/-! turned strings -/
def IsTurn {α : Type} (l t : List α) : Prop := ∃ a b, l = a ++ b ∧ t = b ++ a
theorem IsTurn.symm {α : Type} {l t : List α} : IsTurn l t → IsTurn t l := fun ⟨a, b, h1, h2⟩ => ⟨b, a, h2, h1⟩
theorem IsTurn.refl {α : Type} (l : List α) : IsTurn l l := ⟨[], l, rfl, by simp⟩
theorem IsTurn.trans {α : Type} {l t s : List α} : IsTurn l t → IsTurn t s → IsTurn l s := fun ⟨a, b, h1, h2⟩ ⟨c, d, h3, h4⟩ => by
  subst h1 h4
  rw [h2] at h3
  rcases List.append_eq_append_iff.mp h3 with ⟨e, e1, e2⟩ | ⟨e, e1, e2⟩
  · exact ⟨e, d ++ b, by rw [e2, List.append_assoc], by rw [e1, List.append_assoc]⟩
  · exact ⟨a ++ c, e, by rw [e1, List.append_assoc], by rw [e2, List.append_assoc]⟩
theorem mem_turns {l t : List Nat} (h : l ≠ []) : t ∈ turns l ↔ IsTurn l t := by
  unfold turns
  constructor
  · intro ht
    obtain ⟨k, _, rfl⟩ := List.mem_map.mp ht
    exact ⟨l.take k, l.drop k, (List.take_append_drop k l).symm, rfl⟩
  · rintro ⟨a, b, rfl, rfl⟩
    cases b with
    | nil =>
      refine List.mem_map.mpr ⟨0, List.mem_range.mpr (List.length_pos_iff.mpr h), ?_⟩
      simp [turnAt]
    | cons x b =>
      refine List.mem_map.mpr ⟨a.length, List.mem_range.mpr (by simp), ?_⟩
      simp [turnAt]
theorem minL_spec : ∀ (r : List (List Nat)) (x : List Nat), minL x r ∈ x :: r ∧ ∀ t ∈ x :: r, leL (minL x r) t = true
  | [], x => ⟨List.mem_cons_self, fun t ht => by rw [List.mem_singleton.mp ht]; exact leL_refl x⟩
  | y :: r, x => by
    have e : minL x (y :: r) = minL (if PySem.W.dataLt (dS y) (dS x) then y else x) r := rfl
    have d : PySem.W.dataLt (dS y) (dS x) = !leL x y := by rw [← dle_leL]; unfold dle; rw [Bool.not_not]
    rw [e, d]
    cases hxy : leL x y with
    | true =>
      simp only [Bool.not_true, Bool.false_eq_true, if_false]
      obtain ⟨h1, h2⟩ := minL_spec r x
      refine ⟨?_, fun t ht => ?_⟩
      · rcases List.mem_cons.mp h1 with z | z
        · rw [z]; exact List.mem_cons_self
        · exact List.mem_cons_of_mem _ (List.mem_cons_of_mem _ z)
      · rcases List.mem_cons.mp ht with rfl | ht
        · exact h2 _ List.mem_cons_self
        · rcases List.mem_cons.mp ht with rfl | ht
          · exact leL_tr _ _ _ (h2 _ List.mem_cons_self) hxy
          · exact h2 _ (List.mem_cons_of_mem _ ht)
    | false =>
      simp only [Bool.not_false, if_true]
      obtain ⟨h1, h2⟩ := minL_spec r y
      refine ⟨List.mem_cons_of_mem _ h1, fun t ht => ?_⟩
      rcases List.mem_cons.mp ht with rfl | ht
      · exact leL_tr _ _ _ (h2 _ List.mem_cons_self) ((leL_tot t y).resolve_left (by rw [hxy]; simp))
      · exact h2 _ ht
theorem leastTurn_spec {l : List Nat} (h : l ≠ []) : IsTurn l (leastTurn l) ∧ ∀ t, IsTurn l t → leL (leastTurn l) t = true := by
  have hm := @mem_turns l
  unfold leastTurn
  cases ht : turns l with
  | nil =>
    have : l ∈ turns l := (mem_turns h).mpr (.refl l)
    rw [ht] at this; cases this
  | cons x r =>
    obtain ⟨h1, h2⟩ := minL_spec r x
    rw [← ht] at h1 h2
    exact ⟨(hm h).mp h1, fun t hl => h2 t ((hm h).mpr hl)⟩
theorem leastTurn_turn {l t : List Nat} (h : IsTurn l t) : leastTurn l = leastTurn t := by
  by_cases hl : l = []
  · obtain ⟨a, b, h1, h2⟩ := h
    subst hl
    obtain ⟨rfl, rfl⟩ := List.append_eq_nil_iff.mp h1.symm
    rw [h2]; rfl
  · have ht : t ≠ [] := fun z => by
      obtain ⟨a, b, h1, h2⟩ := h
      rw [z] at h2
      obtain ⟨rfl, rfl⟩ := List.append_eq_nil_iff.mp h2.symm
      exact hl h1
    obtain ⟨a1, a2⟩ := leastTurn_spec hl
    obtain ⟨b1, b2⟩ := leastTurn_spec ht
    exact leL_asy _ _ (a2 _ (h.trans b1)) (b2 _ (h.symm.trans a1))
theorem leastTurn_idem (l : List Nat) : leastTurn (leastTurn l) = leastTurn l := by
  by_cases hl : l = []
  · subst hl; rfl
  · exact (leastTurn_turn (leastTurn_spec hl).1).symm
theorem leastTurn_len (l : List Nat) : (leastTurn l).length = l.length := by
  by_cases hl : l = []
  · subst hl; rfl
  · obtain ⟨a, b, h1, h2⟩ := (leastTurn_spec hl).1
    rw [h2, List.length_append, Nat.add_comm, ← List.length_append, ← h1]
theorem leastTurn_perm (l : List Nat) : (leastTurn l).Perm l := by
  by_cases hl : l = []
  · subst hl; exact .refl _
  · obtain ⟨a, b, h1, h2⟩ := (leastTurn_spec hl).1
    rw [h2]
    conv => rhs; rw [h1]
    exact List.perm_append_comm
theorem land_rot (ch : Chart) (a b : List End) : landT ch (a ++ b) = landT ch (b ++ a) := by
  unfold landT word
  rw [List.map_append, List.map_append]
  exact leastTurn_turn ⟨_, _, rfl, rfl⟩
theorem landStr_eq {ch : Chart} {n : Nat} (D : Draw ch n) {vs : List (List End)} (h : Dec ch vs) : landStr ch = isortT leL (vs.map (landT ch)) := by
  have p1 : (landStr ch).Perm ((walks ch).map (landT ch)) := (rnds_perm ch).map _
  have p2 : ((walks ch).map (landT ch)).Perm (vs.map (landT ch)) := dec_map (f := phi ch) (land_rot ch) D.dec.nd (D.dec.pm.trans h.pm.symm) D.dec.cyc h.cyc
  exact List.Perm.eq_of_pairwise (fun a b _ _ => leL_asy a b) (landStr_pw ch) (isortT_pw leL_tot leL_tr _) ((p1.trans p2).trans (isortT_perm _).symm)
/-- a round begun where its string is least -/
theorem turnTo_ex (ch : Chart) (w : List End) (h : w ≠ []) : ∃ u, IsTurn w u ∧ word ch u = landT ch w := by
  obtain ⟨a, b, h1, h2⟩ := (leastTurn_spec (l := word ch w) (fun z => h (List.map_eq_nil_iff.mp z))).1
  obtain ⟨wa, wb, rfl, ea, eb⟩ := List.map_eq_append_iff.mp h1
  refine ⟨wb ++ wa, ⟨wa, wb, rfl, rfl⟩, ?_⟩
  unfold landT
  rw [h2, ← ea, ← eb]
  exact List.map_append
theorem turns_ex (ch : Chart) : ∀ ws : List (List End), (∀ w ∈ ws, w ≠ []) → ∃ us : List (List End), us.map (word ch) = ws.map (landT ch) ∧ us.flatten.Perm ws.flatten ∧ ∀ u ∈ us, ∃ w ∈ ws, IsTurn w u
  | [], _ => ⟨[], rfl, .refl _, fun u hu => by cases hu⟩
  | w :: ws, h => by
    obtain ⟨us, e1, e2, e3⟩ := turns_ex ch ws fun v hv => h v (List.mem_cons_of_mem _ hv)
    obtain ⟨u, t, e⟩ := turnTo_ex ch w (h w List.mem_cons_self)
    refine ⟨u :: us, by rw [List.map_cons, List.map_cons, e, e1], ?_, fun v hv => ?_⟩
    · rw [List.flatten_cons, List.flatten_cons]
      obtain ⟨a, b, rfl, rfl⟩ := t
      exact (List.perm_append_comm).append e2
    · rcases List.mem_cons.mp hv with rfl | hv
      · exact ⟨w, List.mem_cons_self, t⟩
      · obtain ⟨x, hx, tx⟩ := e3 v hv
        exact ⟨x, List.mem_cons_of_mem _ hx, tx⟩
theorem Draw.rdec {ch : Chart} {n : Nat} (D : Draw ch n) : Dec ch (rnds ch) := ⟨(rnds_perm ch).flatten.trans D.dec.pm, fun w hw => D.dec.cyc w ((rnds_perm ch).subset hw)⟩
theorem Draw.us {ch : Chart} {n : Nat} (D : Draw ch n) : ∃ us, Dec ch us ∧ dualC ch us = landStr ch := by
  have R := D.rdec
  obtain ⟨us, e1, e2, e3⟩ := turns_ex ch (rnds ch) fun w hw => (R.cyc w hw).1
  refine ⟨us, ⟨e2.trans R.pm, fun u hu => ?_⟩, e1⟩
  obtain ⟨w, hw, a, b, rfl, rfl⟩ := e3 u hu
  exact (R.cyc _ hw).rot
theorem partner_isM {ch : Chart} {n : Nat} (M : IsM ch n) : IsM (landStr ch) n := by
  obtain ⟨us, d, e⟩ := M.dr.us
  rw [← e]
  exact dual_isM M d
theorem partner_lands {ch : Chart} {n : Nat} (M : IsM ch n) : landStr (landStr ch) = isortT leL (ch.map leastTurn) := by
  obtain ⟨us, d, e⟩ := M.dr.us
  rw [← e, landStr_eq (dual_isM M d).dr (dual_dec M.dr d)]
  congr 1
  have := backRows_word M.dr d
  conv => rhs; rw [← this]
  rw [List.map_map]
  rfl
/-- copies with the same letters have the same lands -/
theorem Cop.lands {A B : Chart} {g : End → End} {n : Nat} (c : Cop A B g) (DA : Draw A n) (DB : Draw B n) (hl : ∀ x, Val A x → letterAt B (g x) = letterAt A x) : landStr B = landStr A := by
  have d := (DA.dec.f.push c.bij (c.phi DA DB)).d
  rw [landStr_eq DB d, landStr_eq DA DA.dec]
  congr 1
  rw [List.map_map]
  refine List.map_congr_left fun w hw => ?_
  show leastTurn (word B (w.map g)) = leastTurn (word A w)
  congr 1
  unfold word
  rw [List.map_map]
  exact List.map_congr_left fun x hx => hl x (DA.dec.f.val hw hx)
theorem Cop.sizes {A B : Chart} {g : End → End} {n m : Nat} (c : Cop A B g) (DA : Draw A n) (DB : Draw B m) : ((landStr B).map List.length).Perm ((landStr A).map List.length) := by
  have d := (DA.dec.f.push c.bij (c.phi DA DB)).d
  rw [landStr_eq DB d, landStr_eq DA DA.dec]
  refine ((isortT_perm _).map _).trans (List.Perm.trans ?_ ((isortT_perm _).map _).symm)
  rw [List.map_map, List.map_map, List.map_map]
  refine List.Perm.of_eq (List.map_congr_left fun w hw => ?_)
  show (leastTurn (word B (w.map g))).length = (leastTurn (word A w)).length
  rw [leastTurn_len, leastTurn_len]
  simp [word]
end Bm
end
section
set_option Elab.async false
set_option linter.all false
set_option maxRecDepth 100000
set_option maxHeartbeats 1000000
/-! mirrors: lands -/
namespace Bm
open PySem
def fst2 : D → D
  | .tuple [a, _] => a
  | _ => .none
theorem m_land_strings {n : Nat} {ch : Chart} (hs : Small ch) (hE : (ends ch).length ≤ 100) : run T (n + 5) 14 none [dC ch] = .ok (dC (landStr ch), []) := by
  rw [run_fn T_land_strings rfl rfl]
  unfold b_land_strings
  have hm := m_rounds (n := n) hs hE
  have hl : (rnds ch).length ≤ 100 := by rw [(rnds_perm ch).length_eq]; exact walks_len hE
  have src : den (run T (n + 4)) (.it .seq (.cons (.call 7 (.cons (.var 0) .nil)) .nil)) [.sh (dC ch), .un, .un] = .ok (.list ((rnds ch).map fun w => .tuple [dS (landT ch w), .tuple (w.map dE)]), [.sh (dC ch), .un, .un]) := by
    simp [e_it, e_call, e_cons, e_nil, e_var, getS, hm, itD]
  have hq := den_mapG (call := run T (n + 4)) (tg := .tup [1, 2]) (is := [1, 2]) (elt := .var 1) (fun x => match x with | .tuple [a, b] => [.sh (dC ch), .sh a, .sh b] | _ => []) fst2 src
    (by rw [List.length_map]; exact Nat.le_trans hl (by decide)) (fun x hx => by
      obtain ⟨w, _, rfl⟩ := List.mem_map.mp hx
      refine ⟨rfl, rfl, rfl, ?_, rfl⟩
      simp [e_var, getS, nd, fst2])
  have em : ((rnds ch).map fun w => PyData.tuple [dS (landT ch w), .tuple (w.map dE)]).map fst2 = (landStr ch).map dS := by
    unfold landStr
    rw [List.map_map, List.map_map]
    rfl
  rw [em] at hq
  generalize landStr ch = L at *
  simp [denS, e_op, e_cons, e_nil, hq, opD, dop_tuple, endOf, dC]
theorem m_turned {n : Nat} {l : List Nat} (hl : l.length ≤ 1000) (h0 : l ≠ []) : run T (n + 1) 30 none [dS l] = .ok (dS (leastTurn l), []) := by
  have e := m_least_turn (n := n) hl h0
  rw [run_fn T_least_turn rfl rfl] at e
  rw [run_fn T__law_turned rfl rfl]
  exact e
end Bm
namespace Bm
open PySem
theorem Draw.flat16 {ch : Chart} {n : Nat} (D : Draw ch n) : ch.flatten.length ≤ 16 := by
  have := D.pm.length_eq
  rw [twice_len D.n8] at this
  have := D.n8
  omega
theorem len_flat {ch : Chart} (h : ∀ r ∈ ch, r ≠ []) : ch.length ≤ ch.flatten.length := by
  induction ch with
  | nil => simp
  | cons r ch ih =>
    have := ih fun x hx => h x (List.mem_cons_of_mem _ hx)
    have : 0 < r.length := List.length_pos_iff.mpr (h r List.mem_cons_self)
    simp only [List.length_cons, List.flatten_cons, List.length_append]
    omega
theorem Draw.len16 {ch : Chart} {n : Nat} (D : Draw ch n) : ch.length ≤ 16 := Nat.le_trans (len_flat D.ne) D.flat16
theorem Draw.ends100 {ch : Chart} {n : Nat} (D : Draw ch n) : (Bm.ends ch).length ≤ 100 := by rw [D.ends]; have := D.n8; omega
theorem m_lands {n k : Nat} {ch : Chart} (M : IsM ch k) : run T (n + 7) 15 none [dC ch] = .ok (dC (landStr ch), []) := by
  have h1 := m_need_map (n := n) (ch := ch) (Nat.le_trans M.dr.flat16 (by decide)) (Nat.le_trans M.dr.len16 (by decide))
  rw [M.b, if_pos rfl] at h1
  have h2 := m_land_strings (n := n + 1) (ch := ch) M.dr.small M.dr.ends100
  rw [run_fn T_lands rfl rfl]
  unfold b_lands
  generalize landStr ch = L at *
  simp [denS, e_call, e_cons, e_nil, e_var, getS, h1, h2, endOf]
theorem m_partner {n k : Nat} {ch : Chart} (M : IsM ch k) : run T (n + 7) 33 none [dC ch] = .ok (dC (landStr ch), []) := by
  have h1 := m_need_map (n := n) (ch := ch) (Nat.le_trans M.dr.flat16 (by decide)) (Nat.le_trans M.dr.len16 (by decide))
  rw [M.b, if_pos rfl] at h1
  have h2 := m_land_strings (n := n + 1) (ch := ch) M.dr.small M.dr.ends100
  rw [run_fn T_partner rfl rfl]
  unfold b_partner
  generalize landStr ch = L at *
  simp [denS, e_call, e_cons, e_nil, e_var, getS, h1, h2, endOf]
end Bm
end
section
set_option Elab.async false
set_option linter.all false
set_option maxRecDepth 100000
set_option maxHeartbeats 1000000
/-! operations on typed data -/
namespace Bm
open PySem
theorem mem_le_sum : ∀ {l : List Nat} {x : Nat}, x ∈ l → x ≤ l.sum
  | a :: l, x, h => by
    rcases List.mem_cons.mp h with rfl | h
    · simp
    · have := mem_le_sum h
      simp only [List.sum_cons]; omega
theorem allInt_map {α : Type} (f : α → Int) : ∀ l : List α, allInt (l.map fun a => .int (f a)) = some (l.map f)
  | [] => rfl
  | x :: r => by simp [allInt, allInt_map f r]
theorem sum_nat {α : Type} (f : α → Nat) : ∀ l : List α, (l.map fun a => (f a : Int)).sum = ((l.map f).sum : Nat)
  | [] => rfl
  | x :: r => by simp [sum_nat f r]
theorem op_sum {α : Type} {f : α → Nat} {l : List α} : dop_sum [.list (l.map fun a => dI (f a))] = some (dI (l.map f).sum) := by
  simp only [dop_sum, allInt_map (fun a => (f a : Int)) l, Option.map_some, sum_nat]
theorem allBool_mapf {α : Type} (f : α → Bool) (l : List α) : allBool (l.map fun a => .bool (f a)) = some (l.map f) := by
  rw [← allBool_map, List.map_map]; rfl
theorem op_all {α : Type} {f : α → Bool} {l : List α} : dop_all [.list (l.map fun a => .bool (f a))] = some (.bool (l.all f)) := by
  simp only [dop_all, allBool_mapf, Option.map_some]
  rw [List.all_map]; rfl
theorem op_any {α : Type} {f : α → Bool} {l : List α} : dop_any [.list (l.map fun a => .bool (f a))] = some (.bool (l.any f)) := by
  simp only [dop_any, allBool_mapf, Option.map_some]
  rw [List.any_map]; rfl
theorem sortable_nt {α : Type} {emb : α → D} {l : List α} (h : ∀ a, (match emb a with | .none => false | .tuple _ => false | .dict _ => false | _ => true) = true) : sortable (l.map emb) = true := by
  unfold sortable
  rw [Bool.or_eq_true]
  right
  rw [List.all_eq_true]
  intro d hd
  obtain ⟨w, _, rfl⟩ := List.mem_map.mp hd
  exact h w
theorem op_sorted {α : Type} {emb : α → D} {le : α → α → Bool} {l : List α} (ha : ∀ a b, PySem.W.alike (emb a) (emb b) = true) (hs : sortable (l.map emb) = true) (hd : ∀ a, (emb a).depth ≤ 60) (hle : ∀ a b, dle (emb a) (emb b) = le a b) (hl : l.length ≤ 1000) : dop_sorted [.list (l.map emb)] = some (.list ((isortT le l).map emb)) := by
  have h1 := allAlike_map (emb := emb) ha l
  have h3 : PyData.depthAll (l.map emb) ≤ 60 := depthAll_map hd l
  have h4 : (l.map emb).length ≤ lim := by rw [List.length_map]; exact Nat.le_trans hl (by decide)
  have e : (fun a b => dle (emb a) (emb b)) = le := by funext a b; exact hle a b
  simp only [dop_sorted, guardO, h1, hs, decide_eq_true h3, decide_eq_true h4, Bool.and_self, if_true, isort_map, e]
theorem op_sorted_strs {l : List (List Nat)} (hl : l.length ≤ 1000) : dop_sorted [.list (l.map dS)] = some (.list ((isortT leL l).map dS)) :=
  op_sorted (fun _ _ => rfl) (sortable_nt fun _ => rfl) (fun _ => by simp [PyData.depth]) dle_leL hl
def leN (a b : Nat) : Bool := decide (a ≤ b)
theorem leN_tot (a b : Nat) : leN a b = true ∨ leN b a = true := by unfold leN; simp; omega
theorem leN_tr (a b c : Nat) (h : leN a b = true) (h' : leN b c = true) : leN a c = true := by unfold leN at *; simp at *; omega
theorem leN_asy (a b : Nat) (h : leN a b = true) (h' : leN b a = true) : a = b := by unfold leN at *; simp at *; omega
theorem dle_int (a b : Int) : dle (.int a) (.int b) = decide (a ≤ b) := by
  unfold dle
  have : PySem.W.dataLt (.int b) (.int a) = decide (b < a) := PySem.W.dataLt_int b a
  rw [this]
  by_cases h : a ≤ b
  · rw [decide_eq_true h, decide_eq_false (by omega)]; rfl
  · rw [decide_eq_false h, decide_eq_true (by omega)]; rfl
theorem op_sorted_nats {l : List Nat} (hl : l.length ≤ 1000) : dop_sorted [.list (l.map fun a => dI a)] = some (.list ((isortT leN l).map fun a => dI a)) :=
  op_sorted (emb := fun a : Nat => dI a) (fun _ _ => rfl) (sortable_nt fun _ => rfl) (fun _ => by simp [PyData.depth]) (fun a b => by rw [dle_int]; unfold leN; rw [decide_eq_decide]; omega) hl
theorem op_sorted_text {l : List Nat} (hl : l.length ≤ 1000) : dop_sorted [dS l] = some (.list (chars (isortT leC l))) := by
  have : l.length ≤ 1000000 := by omega
  simp [dop_sorted, guardO, lim, this, isort_chars]
theorem op_join {l : List (List Nat)} {s : List Nat} (h : l.flatten.length + l.length * s.length ≤ 1000) : dop_join [dS s, .list (l.map dS)] = some (dS (joinL s l)) := by
  have : l.flatten.length + l.length * s.length ≤ lim := Nat.le_trans h (by decide)
  simp only [dop_join, allStr_dS, Option.bind_some, guardO, toL_st, sum_len, decide_eq_true this, if_true]
theorem op_join0 {l : List (List Nat)} (h : l.flatten.length ≤ 1000) : dop_join [dS [], .list (l.map dS)] = some (dS l.flatten) := by
  rw [op_join (by simpa using h), joinL_nil]
theorem op_join0t {l : List (List Nat)} (h : l.flatten.length ≤ 1000) : dop_join [dS [], dC l] = some (dS l.flatten) := join_nil h
theorem op_joinC {α : Type} {f : α → Nat} {l : List α} (h : l.length ≤ 1000) : dop_join [dS [], .list (l.map fun a => dS [f a])] = some (dS (l.map f)) := by
  have e : (l.map fun a => dS [f a]) = ((l.map f).map fun c => [c]).map dS := by simp [List.map_map, Function.comp_def]
  have : ((l.map f).map fun c => [c]).flatten = l.map f := flatten_one _
  rw [e, op_join0 (by rw [this]; simpa using h), this]
theorem depthAll_le {α : Type} {emb : α → D} {k : Nat} (h : ∀ a, (emb a).depth ≤ k) (l : List α) : PyData.depthAll (l.map emb) ≤ k := depthAll_map h l
/-- a value that is asked for sameness -/
structure EqD {α : Type} [DecidableEq α] (emb : α → D) : Prop where
  pl : ∀ a, (emb a).plain = true
  dp : ∀ a, (emb a).depth ≤ 20
  eq : ∀ a b, PyData.eqv (emb a) (emb b) = decide (a = b)
theorem eqD_str : EqD dS := ⟨fun _ => rfl, fun _ => by simp [PyData.depth], eqv_str⟩
theorem eqD_nat : EqD (fun n : Nat => dI n) := ⟨fun _ => rfl, fun _ => by simp [PyData.depth], fun a b => by rw [eqv_int]; rw [decide_eq_decide]; omega⟩
theorem eqD_int : EqD (fun n : Int => .int n) := ⟨fun _ => rfl, fun _ => by simp [PyData.depth], eqv_int⟩
theorem eqD_bool : EqD (fun n : Bool => .bool n) := ⟨fun _ => rfl, fun _ => by simp [PyData.depth], fun a b => by cases a <;> cases b <;> rfl⟩
theorem eqD_end : EqD dE := ⟨fun _ => rfl, fun e => by simp [PyData.depth, PyData.depthAll], eqv_dE⟩
section
variable {α : Type} [DecidableEq α] {emb : α → D}
theorem EqD.ne (h : EqD emb) (a b : α) : dop_ne [emb a, emb b] = some (.bool (decide (a ≠ b))) := by
  rw [dop_ne_of (h.pl a) (h.pl b) (Nat.le_trans (h.dp a) (by decide)), h.eq]; simp
theorem EqD.is (h : EqD emb) (a b : α) : dop_eq [emb a, emb b] = some (.bool (decide (a = b))) := by
  rw [dop_eq_of (h.pl a) (h.pl b) (Nat.le_trans (h.dp a) (by decide)), h.eq]
theorem EqD.listP (h : EqD emb) (l : List α) : (PyData.list (l.map emb)).plain = true ∧ (PyData.tuple (l.map emb)).plain = true ∧ (PyData.list (l.map emb)).depth ≤ 60 ∧ (PyData.tuple (l.map emb)).depth ≤ 60 := by
  have h1 := plainAll_map h.pl l
  have h2 := depthAll_map h.dp l
  refine ⟨by simpa [PyData.plain] using h1, by simpa [PyData.plain] using h1, ?_, ?_⟩
  · simp only [PyData.depth]; omega
  · simp only [PyData.depth]; omega
theorem EqD.neL (h : EqD emb) (a b : List α) : dop_ne [.list (a.map emb), .list (b.map emb)] = some (.bool (decide (a ≠ b))) := by
  rw [dop_ne_of (h.listP a).1 (h.listP b).1 (h.listP a).2.2.1, eqv_lst h.eq]; simp
theorem EqD.isL (h : EqD emb) (a b : List α) : dop_eq [.list (a.map emb), .list (b.map emb)] = some (.bool (decide (a = b))) := by
  rw [dop_eq_of (h.listP a).1 (h.listP b).1 (h.listP a).2.2.1, eqv_lst h.eq]
theorem EqD.neT (h : EqD emb) (a b : List α) : dop_ne [.tuple (a.map emb), .tuple (b.map emb)] = some (.bool (decide (a ≠ b))) := by
  rw [dop_ne_of (h.listP a).2.1 (h.listP b).2.1 (h.listP a).2.2.2, eqv_tup h.eq]; simp
theorem EqD.isT (h : EqD emb) (a b : List α) : dop_eq [.tuple (a.map emb), .tuple (b.map emb)] = some (.bool (decide (a = b))) := by
  rw [dop_eq_of (h.listP a).2.1 (h.listP b).2.1 (h.listP a).2.2.2, eqv_tup h.eq]
theorem EqD.anyIn (h : EqD emb) (a : α) (l : List α) : ((l.map emb).any fun d => PyData.eqv d (emb a)) = decide (a ∈ l) := by
  induction l with
  | nil => simp
  | cons x l ih =>
    simp only [List.map_cons, List.any_cons, h.eq, ih, List.mem_cons]
    by_cases e : x = a
    · subst e; simp
    · have : ¬ a = x := fun z => e z.symm
      simp [e, this]
theorem EqD.inL (h : EqD emb) (hs : ∀ a, (emb a).isStr = false ∨ True) (a : α) (l : List α) : dop_isin [emb a, .list (l.map emb)] = some (.bool (decide (a ∈ l))) := by
  have h1 := plainAll_map h.pl l
  have h2 : (emb a).depth ≤ 60 := Nat.le_trans (h.dp a) (by decide)
  have : dop_isin [emb a, .list (l.map emb)] = guardO ((emb a).plain && PyData.plainAll (l.map emb) && decide ((emb a).depth ≤ 60)) (some (.bool ((l.map emb).any fun d => PyData.eqv d (emb a)))) := by
    unfold dop_isin
    split <;> simp_all
  rw [this, h.pl a, h1, decide_eq_true h2, h.anyIn]; rfl
theorem EqD.notinL (h : EqD emb) (a : α) (l : List α) : dop_notin [emb a, .list (l.map emb)] = some (.bool (!decide (a ∈ l))) := by
  have h1 := plainAll_map h.pl l
  have h2 : (emb a).depth ≤ 60 := Nat.le_trans (h.dp a) (by decide)
  have : dop_notin [emb a, .list (l.map emb)] = guardO ((emb a).plain && PyData.plainAll (l.map emb) && decide ((emb a).depth ≤ 60)) (some (.bool (!((l.map emb).any fun d => PyData.eqv d (emb a))))) := by
    unfold dop_notin
    split <;> simp_all
  rw [this, h.pl a, h1, decide_eq_true h2, h.anyIn]; rfl
end
theorem isin_sign (c : Nat) (l : List Nat) : dop_isin [dS [c], dS l] = some (.bool (decide (c ∈ l))) := by simp [dop_isin, sign1]
theorem notin_sign (c : Nat) (l : List Nat) : dop_notin [dS [c], dS l] = some (.bool (!decide (c ∈ l))) := by simp [dop_notin, sign1]
theorem op_range1 {n : Nat} (h : n ≤ 1000) : itD .range1 [dI n] = some ((List.range n).map fun q => dI q) := by
  have g1 : (-1000000 : Int) ≤ n := by omega
  have g2 : (n : Int) ≤ 1000000 := by omega
  simp [itD, guardO, lim, g1, g2, range0_eq]
theorem it_list {l : List D} : itD .seq [.list l] = some l := rfl
theorem it_tup {l : List D} : itD .seq [.tuple l] = some l := rfl
theorem it_str {l : List Nat} : itD .seq [dS l] = some (l.map fun c => dS [c]) := by simp [itD, chars]
theorem enum_eq {α : Type} (emb : α → D) : ∀ (l : List α) (k : Nat), enumFrom k (l.map emb) = (l.zipIdx k).map fun p => .tuple [dI p.2, emb p.1]
  | [], k => rfl
  | x :: l, k => by simp [enumFrom, enum_eq emb l (k + 1)]
theorem it_enumL {α : Type} {emb : α → D} {l : List α} : itD .enum [.list (l.map emb)] = some (l.zipIdx.map fun p => .tuple [dI p.2, emb p.1]) := by
  simp only [itD]; rw [enum_eq]
theorem it_enumT {α : Type} {emb : α → D} {l : List α} : itD .enum [.tuple (l.map emb)] = some (l.zipIdx.map fun p => .tuple [dI p.2, emb p.1]) := by
  simp only [itD]; rw [enum_eq]
theorem list_tup {l : List D} : dop_list [.tuple l] = some (.list l) := rfl
theorem list_list {l : List D} : dop_list [.list l] = some (.list l) := rfl
theorem list_str {l : List Nat} (h : l.length ≤ 1000) : dop_list [dS l] = some (.list (l.map fun c => dS [c])) := by
  have : l.length ≤ 1000000 := by omega
  simp [dop_list, guardO, lim, this, chars]
theorem tup_list {l : List D} : dop_tuple [.list l] = some (.tuple l) := rfl
theorem add_list {a b : List D} (h : a.length + b.length ≤ 1000) : dop_add [.list a, .list b] = some (.list (a ++ b)) := by
  have : a.length + b.length ≤ 1000000 := by omega
  simp [dop_add, guardO, lim, this]
theorem lslice_hi {l : List D} {k : Nat} : dop_slice [.list l, .none, dI k] = some (.list (l.take k)) := by
  simp only [dop_slice, clamp, Option.bind_some, Option.map_some]
  rw [if_pos (by omega), Int.toNat_natCast, cut, List.drop_zero]
  congr 2
  rcases Nat.le_total k l.length with h | h
  · rw [Nat.min_eq_left h]
  · rw [Nat.min_eq_right h, List.take_of_length_le (Nat.le_refl _), List.take_of_length_le h]
theorem lslice_lo {l : List D} {k : Nat} : dop_slice [.list l, dI k, .none] = some (.list (l.drop k)) := by
  simp only [dop_slice, clamp, Option.bind_some, Option.map_some]
  rw [if_pos (by omega), Int.toNat_natCast, cut, List.take_of_length_le (Nat.le_refl _)]
  congr 2
  rcases Nat.le_total k l.length with h | h
  · rw [Nat.min_eq_left h]
  · rw [Nat.min_eq_right h, List.drop_of_length_le (Nat.le_refl _), List.drop_of_length_le h]
theorem op_not (b : Bool) : dop_not [.bool b] = some (.bool (!b)) := rfl
theorem op_addI (a b : Int) : dop_add [.int a, .int b] = some (.int (a + b)) := rfl
theorem op_subI (a b : Int) : dop_sub [.int a, .int b] = some (.int (a - b)) := rfl
theorem op_addN (a b : Nat) : dop_add [dI a, dI b] = some (dI (a + b)) := by simp [dop_add]
theorem mkl_all {l : List D} (h : l.length ≤ 1000) (hn : l.all nd = true) : dop_mkl l = some (.list l) := by
  have : l.length ≤ lim := Nat.le_trans h (by decide)
  simp only [dop_mkl, guardO, decide_eq_true this, hn, Bool.and_self, if_true]
theorem mkt_all {l : List D} (h : l.length ≤ 1000) (hn : l.all nd = true) : dop_mkt l = some (.tuple l) := by
  have : l.length ≤ lim := Nat.le_trans h (by decide)
  simp only [dop_mkt, guardO, decide_eq_true this, hn, Bool.and_self, if_true]
end Bm
end
section
set_option Elab.async false
set_option linter.all false
set_option maxRecDepth 100000
set_option maxHeartbeats 1000000
/-! mirrors: the law's letters, lands -/
namespace Bm
open PySem
theorem m_law_letters {n : Nat} {ch : Chart} (h : ch.flatten.length ≤ 1000) (h2 : ch.length ≤ 1000) : run T (n + 1) 23 none [dC ch] = .ok (dS (lettersOf ch), []) := by
  have hm : den (run T n) lc__law_letters_1 [.sh (dC ch), .un] = .ok (.list (ch.map fun r => dI r.length), [.sh (dC ch), .un]) :=
    v_map dS (fun r => [.sh (dC ch), .sh (dS r)]) (fun r => dI r.length) (v_it (a_cons (v_sh rfl) e_nil) it_tup) h2 fun r hr => ⟨rfl, rfl, rfl, v_op (a_cons (v_sh rfl) e_nil) (len_str (Nat.le_trans (row_le hr) h)), rfl⟩
  have hs : dop_sum [.list (ch.map fun r => dI r.length)] = some (dI ch.flatten.length) := by
    rw [op_sum, sum_len]
  exact run_wp T__law_letters rfl rfl (w_ret (v_slcH e_lit (v_op (a_cons (v_op (a_cons hm e_nil) hs) (a_cons e_lit e_nil)) (fdiv_2 _)) (slice_hiA (l := NM) (by decide))) rfl)
theorem walk_word {ch : Chart} {n : Nat} (D : Draw ch n) {w : List End} (h : w ∈ walks ch) : (∀ e ∈ w, Val ch e) ∧ w ≠ [] ∧ w.length ≤ 16 :=
  ⟨fun e he => D.dec.f.val h he, (D.dec.cyc w h).1, ((walks_pos D).2.2 w h).2⟩
theorem m_law_lands {n m : Nat} {ch : Chart} (D : Draw ch m) : run T (n + 4) 31 none [dC ch] = .ok (.list ((landStr ch).map dS), []) := by
  refine run_wp T__law_lands rfl rfl ?_
  refine w_seq (w_asgM (v_op e_nil (mkl_all (l := []) (by decide) rfl)) rfl ?_)
  refine w_seq (w_for (fun w : List End => .list (w.map dE)) (walks ch) (fun pre r => ∃ s2, r = [.sh (dC ch), .own ((pre.map (landT ch)).map dS), s2, .un, .un]) (v_it (a_cons (v_call (a_cons (v_sh rfl) e_nil) (m_law_walks (n := n) D)) e_nil) it_list) ⟨_, rfl⟩ ?_ ?_)
  · rintro pre w suf r e ⟨s2, rfl⟩
    have hw : w ∈ walks ch := by rw [e]; simp
    obtain ⟨h1, h2, h3⟩ := walk_word D hw
    have hlc : den (run T (n + 3)) lc__law_lands_1 [.sh (dC ch), .own ((pre.map (landT ch)).map dS), .sh (.list (w.map dE)), .un, .un] = .ok (.list (w.map fun e => dS [letterAt ch e]), [.sh (dC ch), .own ((pre.map (landT ch)).map dS), .sh (.list (w.map dE)), .un, .un]) :=
      v_map dE (fun e => [.sh (dC ch), .own ((pre.map (landT ch)).map dS), .sh (.list (w.map dE)), .sh (dI e.1), .sh (dI e.2)]) _ (v_it (a_cons (v_sh rfl) e_nil) it_list) (by omega) fun e he => by
        obtain ⟨row, g1, g2, g3⟩ := val_small D (h1 e he)
        exact ⟨rfl, rfl, rfl, v_op (a_cons (v_op (a_cons (v_sh rfl) (a_cons (v_sh rfl) e_nil)) (item_row g1)) (a_cons (v_sh rfl) e_nil)) (item_sign g2 g3), rfl⟩
    have hj : dop_join [dS [], .list (w.map fun e => dS [letterAt ch e])] = some (dS (word ch w)) := op_joinC (by omega)
    have hne : word ch w ≠ [] := fun z => h2 (List.map_eq_nil_iff.mp z)
    have ht := m_turned (n := n + 2) (l := word ch w) (by unfold word; rw [List.length_map]; omega) hne
    have hpl : pre.length ≤ 16 := by
      have h4 := (walks_pos D).2.1
      rw [e, List.length_append] at h4; omega
    refine ⟨_, rfl, w_append rfl (v_call (a_cons (v_meth e_lit (a_cons hlc e_nil) hj) e_nil) ht) rfl (by simp only [List.length_map]; omega) rfl ⟨.sh (.list (w.map dE)), ?_⟩⟩
    rw [List.map_append, List.map_append]; rfl
  · rintro r ⟨s2, rfl⟩
    refine w_ret (v_op (a_cons (v_own rfl) e_nil) (op_sorted_strs (by rw [List.length_map]; have := (walks_pos D).2.1; omega))) ?_
    rw [landStr_eq D D.dec]
/-! copies -/
inductive All2 {α β : Type} (R : α → β → Prop) : List α → List β → Prop
  | nil : All2 R [] []
  | cons {a b l m} : R a b → All2 R l m → All2 R (a :: l) (b :: m)
theorem All2.length_eq {α β : Type} {R : α → β → Prop} {l : List α} {m : List β} (h : All2 R l m) : l.length = m.length := by
  induction h with
  | nil => rfl
  | cons _ _ ih => simp [ih]
structure Ren (A B : Chart) (ρ : Nat → Nat) (g : End → End) : Prop where
  bij : Bij A B g
  nx : ∀ x, Val A x → nextA B (g x) = g (nextA A x)
  lt : ∀ x, Val A x → letterAt B (g x) = ρ (letterAt A x)
theorem Ren.cop {A B : Chart} {ρ : Nat → Nat} {g : End → End} (h : Ren A B ρ g) : Cop A B g := ⟨h.bij, h.nx, fun x y hx hy e => by rw [h.lt x hx, h.lt y hy, e]⟩
theorem Ren.trans {A B C : Chart} {ρ σ : Nat → Nat} {g k : End → End} (h : Ren A B ρ g) (h' : Ren B C σ k) : Ren A C (fun c => σ (ρ c)) (fun x => k (g x)) where
  bij := ⟨fun x hx => h'.bij.val _ (h.bij.val x hx), fun x y hx hy e => h.bij.inj x y hx hy (h'.bij.inj _ _ (h.bij.val x hx) (h.bij.val y hy) e), fun z hz => by
    obtain ⟨y, hy, rfl⟩ := h'.bij.sur z hz
    obtain ⟨x, hx, rfl⟩ := h.bij.sur y hy
    exact ⟨x, hx, rfl⟩⟩
  nx := fun x hx => by rw [h'.nx _ (h.bij.val x hx), h.nx x hx]
  lt := fun x hx => by rw [h'.lt _ (h.bij.val x hx), h.lt x hx]
theorem Ren.symm {A B : Chart} {ρ σ : Nat → Nat} {g : End → End} (h : Ren A B ρ g) (hs : ∀ x, Val A x → σ (ρ (letterAt A x)) = letterAt A x) : Ren B A σ (invE A g) where
  bij := h.bij.symm
  nx := fun y hy => by
    obtain ⟨h1, h2⟩ := h.bij.inv_spec hy
    have e := h.nx _ h1
    rw [h2] at e
    rw [e, h.bij.inv_left (nextA_val h1)]
  lt := fun y hy => by
    obtain ⟨h1, h2⟩ := h.bij.inv_spec hy
    have e := h.lt _ h1
    rw [h2] at e
    rw [e, hs _ h1]
/-- the second one of two lists of rows: turned -/
def Turned (A B : Chart) : Prop := All2 IsTurn A B
def SameR (ρ : Nat → Nat) (A B : Chart) : Prop := ∃ B', B'.Perm B ∧ Turned (A.map (List.map ρ)) B'
theorem perm_map_ex {α β : Type} {f : α → β} {m B : List β} (h : m.Perm B) : ∀ l : List α, l.map f = m → ∃ l', l.Perm l' ∧ l'.map f = B := by
  induction h with
  | nil => intro l e; exact ⟨l, .refl _, e⟩
  | cons x _ ih =>
    intro l e
    cases l with
    | nil => cases e
    | cons a l =>
      simp only [List.map_cons, List.cons.injEq] at e
      obtain ⟨l', p, e'⟩ := ih l e.2
      exact ⟨a :: l', p.cons a, by rw [List.map_cons, e', e.1]⟩
  | swap x y l0 =>
    intro l e
    match l, e with
    | a :: b :: l, e =>
      simp only [List.map_cons, List.cons.injEq] at e
      exact ⟨b :: a :: l, .swap b a l, by simp only [List.map_cons, e.1, e.2.1, e.2.2]⟩
  | trans _ _ ih1 ih2 =>
    intro l e
    obtain ⟨l1, p1, e1⟩ := ih1 l e
    obtain ⟨l2, p2, e2⟩ := ih2 l1 e1
    exact ⟨l2, p1.trans p2, e2⟩
theorem turned_us {A : Chart} : ∀ {ws : List (List End)} {B' : Chart}, All2 IsTurn (ws.map (word A)) B' → ∃ us : List (List End), us.map (word A) = B' ∧ All2 IsTurn ws us
  | [], _, h => by cases h; exact ⟨[], rfl, .nil⟩
  | w :: ws, _, h => by
    cases h with
    | cons h1 h2 =>
      obtain ⟨us, e, f⟩ := turned_us h2
      obtain ⟨a, b, e1, e2⟩ := h1
      obtain ⟨wa, wb, rfl, ea, eb⟩ := List.map_eq_append_iff.mp e1
      exact ⟨(wb ++ wa) :: us, by rw [List.map_cons, e, e2, ← ea, ← eb]; congr 1; exact List.map_append, .cons ⟨wa, wb, rfl, rfl⟩ f⟩
theorem turn_flat {α : Type} {ws us : List (List α)} (h : All2 IsTurn ws us) : us.flatten.Perm ws.flatten := by
  induction h with
  | nil => exact .refl _
  | cons h1 _ ih =>
    obtain ⟨a, b, rfl, rfl⟩ := h1
    rw [List.flatten_cons, List.flatten_cons]
    exact (List.perm_append_comm).append ih
theorem turn_mem {α : Type} {ws us : List (List α)} (h : All2 IsTurn ws us) : ∀ u ∈ us, ∃ w ∈ ws, IsTurn w u := by
  induction h with
  | nil => intro u hu; cases hu
  | cons h1 _ ih =>
    intro u hu
    rcases List.mem_cons.mp hu with rfl | hu
    · exact ⟨_, List.mem_cons_self, h1⟩
    · obtain ⟨w, hw, t⟩ := ih u hu
      exact ⟨w, List.mem_cons_of_mem _ hw, t⟩
theorem same_id {A B : Chart} (hne : ∀ r ∈ A, r ≠ []) {B' : Chart} (hp : B'.Perm B) (ht : Turned A B') : ∃ us, DecF (nextA A) A us ∧ dualC A us = B := by
  have hw : (rowEnds A).map (word A) = A := rowEnds_word A
  unfold Turned at ht
  rw [← hw] at ht
  obtain ⟨us', e, f⟩ := turned_us ht
  obtain ⟨us, p, e'⟩ := perm_map_ex (f := word A) hp us' e
  have rd := row_dec hne
  refine ⟨us, ⟨(p.symm.flatten).trans ((turn_flat f).trans rd.pm), fun u hu => ?_⟩, e'⟩
  obtain ⟨w, hw, a, b, rfl, rfl⟩ := turn_mem f u (p.symm.subset hu)
  exact (rd.cyc _ hw).rot
theorem val_map {A : Chart} {ρ : Nat → Nat} (x : End) : Val (A.map (List.map ρ)) x ↔ Val A x := by
  unfold Val
  simp only [List.getElem?_map]
  constructor
  · rintro ⟨row, h1, h2⟩
    cases h : A[x.1]? with
    | none => rw [h] at h1; cases h1
    | some r => rw [h] at h1; cases h1; exact ⟨r, rfl, by simpa using h2⟩
  · rintro ⟨row, h1, h2⟩
    exact ⟨row.map ρ, by rw [h1]; rfl, by simpa using h2⟩
theorem ren_map (A : Chart) (ρ : Nat → Nat) : Ren A (A.map (List.map ρ)) ρ id where
  bij := ⟨fun x hx => (val_map x).mpr hx, fun x y _ _ e => e, fun y hy => ⟨y, (val_map y).mp hy, rfl⟩⟩
  nx := fun x hx => by
    obtain ⟨row, h1, h2⟩ := hx
    have h3 : (A.map (List.map ρ))[x.1]? = some (row.map ρ) := by rw [List.getElem?_map, h1]; rfl
    show nextA _ x = nextA A x
    rw [nextA_at h1, nextA_at h3, List.length_map]
  lt := fun x hx => by
    obtain ⟨row, h1, h2⟩ := val_letter hx
    have h3 : (A.map (List.map ρ))[x.1]? = some (row.map ρ) := by rw [List.getElem?_map, h1]; rfl
    exact (letter_of (e := x) h3 (by rw [List.getElem?_map, h2]; rfl)).2
theorem SameR.ren {ρ : Nat → Nat} {A B : Chart} (h : SameR ρ A B) (hne : ∀ r ∈ A, r ≠ []) : ∃ g, Ren A B ρ g := by
  obtain ⟨B', hp, ht⟩ := h
  have hne' : ∀ r ∈ A.map (List.map ρ), r ≠ [] := fun r hr z => by
    obtain ⟨a, ha, rfl⟩ := List.mem_map.mp hr
    exact hne a ha (List.map_eq_nil_iff.mp z)
  obtain ⟨us, d, e⟩ := same_id hne' hp ht
  have R : Ren B (A.map (List.map ρ)) id (atE us) := by
    rw [← e]
    exact ⟨dual_bij d, fun y hy => (dual_next d hy).symm, fun y hy => (dual_letter hy).symm⟩
  have S := (ren_map A ρ).trans (R.symm (σ := id) fun _ _ => rfl)
  exact ⟨_, S⟩
theorem SameR.flat {ρ : Nat → Nat} {A B : Chart} (h : SameR ρ A B) : B.flatten.Perm (A.flatten.map ρ) := by
  obtain ⟨B', hp, ht⟩ := h
  refine hp.symm.flatten.trans ((turn_flat ht).trans (List.Perm.of_eq ?_))
  rw [List.map_flatten]
theorem SameR.len {ρ : Nat → Nat} {A B : Chart} (h : SameR ρ A B) : B.length = A.length := by
  obtain ⟨B', hp, ht⟩ := h
  rw [← hp.length_eq]
  have := All2.length_eq ht
  rw [← this, List.length_map]
theorem SameR.ne {ρ : Nat → Nat} {A B : Chart} (h : SameR ρ A B) (hne : ∀ r ∈ A, r ≠ []) : ∀ r ∈ B, r ≠ [] := by
  obtain ⟨B', hp, ht⟩ := h
  intro r hr
  obtain ⟨w, hw, a, b, e1, e2⟩ := turn_mem ht r (hp.symm.subset hr)
  obtain ⟨x, hx, rfl⟩ := List.mem_map.mp hw
  have hx := hne x hx
  have : (x.map ρ).length = r.length := by rw [e1, e2]; simp; omega
  intro z
  rw [z, List.length_map] at this
  exact hx (List.eq_nil_of_length_eq_zero this)
/-- a renaming of the first n letters -/
def IsRen (n : Nat) (ρ : Nat → Nat) : Prop := ((NM.take n).map ρ).Perm (NM.take n)
theorem SameR.draw {ρ : Nat → Nat} {A B : Chart} {n : Nat} (h : SameR ρ A B) (D : Draw A n) (hρ : IsRen n ρ) : Draw B n where
  ne := h.ne D.ne
  n1 := D.n1
  n8 := D.n8
  pm := by
    refine h.flat.trans ((D.pm.map ρ).trans ?_)
    unfold twice
    rw [List.map_append]
    exact List.Perm.append hρ hρ
theorem SameR.isM {ρ : Nat → Nat} {A B : Chart} {n : Nat} (h : SameR ρ A B) (M : IsM A n) (hρ : IsRen n ρ) : IsM B n := by
  obtain ⟨g, R⟩ := h.ren M.dr.ne
  exact R.cop.isM M (h.draw M.dr hρ) h.len
theorem isRen_id (n : Nat) : IsRen n id := by unfold IsRen; rw [List.map_id]
end Bm
end
section
set_option Elab.async false
set_option linter.all false
set_option maxRecDepth 100000
set_option maxHeartbeats 1000000
/-! mirrors: a copy -/
namespace Bm
open PySem
theorem swap_perm {l : List Nat} {i j a b : Nat} (hi : l[i]? = some a) (hj : l[j]? = some b) : ((l.set i b).set j a).Perm l := by
  obtain ⟨h1, rfl⟩ := List.getElem?_eq_some_iff.mp hi
  obtain ⟨h2, rfl⟩ := List.getElem?_eq_some_iff.mp hj
  rw [List.perm_iff_count]
  intro x
  have h3 : j < (l.set i l[j]).length := by rw [List.length_set]; exact h2
  rw [List.count_set h3, List.count_set h1]
  have e : (l.set i l[j])[j] = l[j] := by
    rw [List.getElem_set]; split <;> rfl
  rw [e]
  have p1 : l[i] = x → 0 < l.count x := fun z => List.count_pos_iff.mpr (z ▸ List.getElem_mem h1)
  by_cases c1 : l[i] = x
  · by_cases c2 : l[j] = x
    · simp [c1, c2]; have := p1 c1; omega
    · simp [c1, c2]; have := p1 c1; omega
  · by_cases c2 : l[j] = x
    · simp [c1, c2]
    · simp [c1, c2]
theorem swap_dmap {l : List Nat} {i j a b : Nat} : ((l.map fun c => dS [c]).set i (dS [b])).set j (dS [a]) = ((l.set i b).set j a).map fun c => dS [c] := by
  rw [List.map_set, List.map_set]
theorem v_len_own {call : CallS} {r : Env} {i : Nat} {l : List D} (h0 : noDic r = true) (h : getS (frzE r) i = .sh (.list l)) : den call (.peek (.op .len (.cons (.var i) .nil))) r = .ok (dI l.length, r) :=
  v_peek h0 (v_op (a_cons (v_sh h) e_nil) (len_list l)) rfl
def renBy (names : List Nat) (c : Nat) : Nat := names.getD ((posOf c NM).getD 0) 0
theorem posOf_NM : ∀ i, i < 8 → posOf (NM.getD i 0) NM = some i := by decide
theorem ren_map_names {m : Nat} (h8 : m ≤ 8) {names : List Nat} (hl : names.length = m) : (NM.take m).map (renBy names) = names := by
  refine List.ext_getElem ?_ fun i h1 h2 => ?_
  · rw [List.length_map, List.length_take, hl]
    have : NM.length = 8 := rfl
    omega
  · have hi : i < m := by omega
    have e1 : ((NM.take m).map (renBy names))[i] = renBy names (NM.getD i 0) := by
      rw [List.getElem_map, List.getElem_take]
      congr 1
      rw [List.getD_eq_getElem?_getD, List.getElem?_eq_getElem (by show i < 8; omega)]; rfl
    rw [e1]
    unfold renBy
    rw [posOf_NM i (by omega)]
    simp [List.getD_eq_getElem?_getD, List.getElem?_eq_getElem h2]
theorem isRen_names {m : Nat} (h8 : m ≤ 8) {names : List Nat} (hp : names.Perm (NM.take m)) : IsRen m (renBy names) := by
  unfold IsRen
  have hl : names.length = m := by rw [hp.length_eq, List.length_take]; have : NM.length = 8 := rfl; omega
  rw [ren_map_names h8 hl]
  exact hp
theorem mem_NM {m c : Nat} (h8 : m ≤ 8) (h : c ∈ NM.take m) : ∃ i, i < m ∧ c = NM.getD i 0 ∧ posOf c NM = some i := by
  obtain ⟨i, hi, e⟩ := List.mem_iff_getElem.mp h
  rw [List.length_take] at hi
  refine ⟨i, by omega, ?_⟩
  rw [List.getElem_take] at e
  have : c = NM.getD i 0 := by
    rw [← e, List.getD_eq_getElem?_getD, List.getElem?_eq_getElem (by omega)]; rfl
  exact ⟨this, by rw [this]; exact posOf_NM i (by omega)⟩
theorem all2_snoc {α β : Type} {R : α → β → Prop} {l : List α} {m : List β} (h : All2 R l m) {a : α} {b : β} (hab : R a b) : All2 R (l ++ [a]) (m ++ [b]) := by
  induction h with
  | nil => exact .cons hab .nil
  | cons h1 _ ih => exact .cons h1 ih
theorem m_copy {n m : Nat} {ch : Chart} (D : Draw ch m) (c k : Int) : ∃ ch' ρ c' k', IsRen m ρ ∧ SameR ρ ch ch' ∧ run T (n + 3) 32 (some [.int c, .int k]) [dC ch] = .ok (dC ch', [.int c', .int k']) := by
  suffices h : ∃ d m', (∃ ch' ρ c' k', IsRen m ρ ∧ SameR ρ ch ch' ∧ d = dC ch' ∧ m' = [.int c', .int k']) ∧ run T (n + 3) 32 (some [.int c, .int k]) [dC ch] = .ok (d, m') by
    obtain ⟨d, m', ⟨ch', ρ, c', k', h1, h2, rfl, rfl⟩, h3⟩ := h
    exact ⟨ch', ρ, c', k', h1, h2, h3⟩
  have hf := D.flat16
  have hln := D.len16
  have hl := m_law_letters (n := n + 1) (ch := ch) (by omega) (by omega)
  rw [D.letters] at hl
  have hnl : (NM.take m).length = m := by rw [List.length_take]; have : NM.length = 8 := rfl; have := D.n8; omega
  have h1m := D.n1
  have h8 := D.n8
  refine run_wpIO T__law_copy rfl rfl ?_
  refine w_seq (w_par (a_cons (v_op (a_cons (v_call (a_cons (v_sh rfl) e_nil) hl) e_nil) (list_str (by omega))) (a_cons (v_op e_nil (mkl_all (l := []) (by decide) rfl)) e_nil)) rfl ?_)
  -- the names are mixed
  refine w_seq (w_for (fun q : Nat => dI q) (List.range m) (fun _ r => ∃ (c k : Int) (names : List Nat) (s4 s5 : Slot), names.Perm (NM.take m) ∧ nD1 s4 = true ∧ nD1 s5 = true ∧ r = [dDice c k, .sh (dC ch), .own (names.map fun c => dS [c]), .own [], s4, s5, .un, .un, .un]) (v_it (a_cons (v_len_own (l := (NM.take m).map fun c => dS [c]) rfl rfl) e_nil) (by rw [List.length_map, hnl]; exact op_range1 (by omega))) ⟨_, _, _, _, _, .refl _, rfl, rfl, rfl⟩ ?_ ?_)
  · rintro pre at_ suf r e ⟨c, k, names, s4, s5, hp, n4, n5, rfl⟩
    have hat : at_ < m := by
      have : at_ ∈ List.range m := by rw [e]; simp
      exact List.mem_range.mp this
    have hn : names.length = m := by rw [hp.length_eq, hnl]
    obtain ⟨v, c', k', hv, hr⟩ := m_roll (n := n) c k (m := m) (by omega) (by omega)
    obtain ⟨a, ha⟩ : ∃ a, names[at_]? = some a := ⟨_, List.getElem?_eq_getElem (by omega)⟩
    obtain ⟨b, hb⟩ : ∃ b, names[v]? = some b := ⟨_, List.getElem?_eq_getElem (by omega)⟩
    have e1 : den (run T (n + 2)) (.callIO 18 0 (.cons (.peek (.op .len (.cons (.var 2) .nil))) .nil)) [dDice c k, .sh (dC ch), .own (names.map fun c => dS [c]), .own [], .sh (dI at_), s5, .un, .un, .un] = .ok (dI v, [dDice c' k', .sh (dC ch), .own (names.map fun c => dS [c]), .own [], .sh (dI at_), s5, .un, .un, .un]) := by
      have := v_len_own (call := run T (n + 2)) (r := [dDice c k, .sh (dC ch), .own (names.map fun c => dS [c]), .own [], .sh (dI at_), s5, .un, .un, .un]) (i := 2) (l := names.map fun c => dS [c]) (by simp [noDic_cons, nD1, noDic_nil] at n5 ⊢; exact n5) rfl
      rw [List.length_map, hn] at this
      exact v_callIO (m := [.int c, .int k]) rfl (a_cons this e_nil) rfl hr
    have gb : (names.map fun c => dS [c])[v]? = some (dS [b]) := by rw [List.getElem?_map, hb]; rfl
    have ga : (names.map fun c => dS [c])[at_]? = some (dS [a]) := by rw [List.getElem?_map, ha]; rfl
    refine ⟨_, rfl, w_seq (w_asg e1 rfl (w_sto2 (j1 := at_) (j2 := v) (v_op (a_cons (v_oitem rfl (v_sh rfl) rfl gb) (a_cons (v_oitem rfl (v_sh rfl) rfl ga) e_nil)) (mkt_all (by simp) rfl)) rfl rfl rfl (by simp [putS]) rfl rfl (by decide) (by rw [List.length_map]; omega) (by rw [List.length_map]; omega) ?_))⟩
    refine ⟨c', k', (names.set at_ b).set v a, .sh (dI at_), .sh (dI v), (swap_perm ha hb).trans hp, rfl, rfl, ?_⟩
    rw [swap_dmap]; rfl
  · rintro r ⟨c, k, names, s4, s5, hp, n4, n5, rfl⟩
    have hn : names.length = m := by rw [hp.length_eq, hnl]
    have hren := isRen_names h8 hp
    -- the rows
    refine w_seq (w_for dS ch (fun pre r => ∃ (c k : Int) (R : List (List Nat)) (s4 s5 s6 s7 : Slot), All2 IsTurn (pre.map (List.map (renBy names))) R ∧ nD1 s4 = true ∧ nD1 s5 = true ∧ nD1 s6 = true ∧ nD1 s7 = true ∧ r = [dDice c k, .sh (dC ch), .own (names.map fun c => dS [c]), .own (R.map dS), s4, s5, s6, s7, .un]) (v_it (a_cons (v_sh rfl) e_nil) it_tup) ⟨_, _, [], _, _, _, _, .nil, n4, n5, rfl, rfl, rfl⟩ ?_ ?_)
    · rintro pre row suf r e ⟨c, k, R, s4, s5, s6, s7, h2, n4, n5, n6, n7, rfl⟩
      have hrow : row ∈ ch := by rw [e]; simp
      have hrl : row.length ≤ 16 := Nat.le_trans (row_le hrow) hf
      have hr0 : 0 < row.length := List.length_pos_iff.mpr (D.ne row hrow)
      have hlc : den (run T (n + 2)) lc__law_copy_1 [dDice c k, .sh (dC ch), .own (names.map fun c => dS [c]), .own (R.map dS), s4, s5, .sh (dS row), s7, .un] = .ok (.list (row.map fun x => dS [renBy names x]), [dDice c k, .sh (dC ch), .own (names.map fun c => dS [c]), .own (R.map dS), s4, s5, .sh (dS row), s7, .un]) :=
        v_map (fun c => dS [c]) (fun x => [dDice c k, .sh (dC ch), .own (names.map fun c => dS [c]), .own (R.map dS), s4, s5, .sh (dS row), s7, .sh (dS [x])]) _ (v_it (a_cons (v_sh rfl) e_nil) it_str) (by omega) fun x hx => by
          have hx' : x ∈ NM.take m := twice_mem (D.pm.subset (List.mem_flatten.mpr ⟨row, hrow, hx⟩))
          obtain ⟨i, hi, _, hpos⟩ := mem_NM h8 hx'
          have g : (names.map fun c => dS [c])[i]? = some (dS [renBy names x]) := by
            rw [List.getElem?_map, List.getElem?_eq_getElem (by omega)]
            unfold renBy
            rw [hpos]
            simp [List.getD_eq_getElem?_getD, List.getElem?_eq_getElem (show i < names.length by omega)]
          have hsx : dop_sindex [dS [97, 98, 99, 100, 101, 102, 103, 104], dS [x]] = some (dI i) := by
            have : posOf x [97, 98, 99, 100, 101, 102, 103, 104] = some i := hpos
            simp [dop_sindex, sign1, this]
          exact ⟨rfl, rfl, rfl, v_oitem rfl (v_meth e_lit (a_cons (v_sh rfl) e_nil) hsx) rfl g, rfl⟩
      have hj : dop_join [dS [], .list (row.map fun x => dS [renBy names x])] = some (dS (row.map (renBy names))) := op_joinC (by omega)
      obtain ⟨v, c', k', hv, hr⟩ := m_roll (n := n) c k (m := row.length) (by omega) (by omega)
      generalize hT : row.map (renBy names) = tx at *
      have htl : tx.length = row.length := by rw [← hT, List.length_map]
      have hRl : R.length < 1000 := by
        have h3 := h2.length_eq
        rw [List.length_map] at h3
        have : ch.length = pre.length + (suf.length + 1) := by rw [e]; simp
        omega
      refine ⟨_, rfl, w_seq (w_asg (v_meth e_lit (a_cons hlc e_nil) hj) rfl (w_seq (w_asg (v_callIO (m := [.int c, .int k]) rfl (a_cons (v_op (a_cons (v_sh rfl) e_nil) (len_str (l := tx) (by omega))) e_nil) rfl (by rw [htl]; exact hr)) rfl (w_append rfl (v_op (a_cons (v_slcL (v_sh rfl) (v_sh rfl) (slice_loA (l := tx) (k := v) (by omega))) (a_cons (v_slcH (v_sh rfl) (v_sh rfl) (slice_hiA (l := tx) (k := v) (by omega))) e_nil)) (add_str (by rw [List.length_drop, List.length_take]; omega))) rfl (by rw [List.length_map]; exact hRl) rfl ?_))))⟩
      refine ⟨c', k', R ++ [tx.drop v ++ tx.take v], .sh (dI v), s5, .sh (dS row), .sh (dS tx), ?_, rfl, n5, rfl, rfl, ?_⟩
      · rw [List.map_append]
        exact all2_snoc h2 ⟨tx.take v, tx.drop v, by rw [hT, List.take_append_drop], rfl⟩
      · rw [List.map_append]; rfl
    · rintro r ⟨c, k, R, s4, s5, s6, s7, h2, n4, n5, n6, n7, rfl⟩
      have hRl : R.length = ch.length := by rw [← h2.length_eq, List.length_map]
      have hc0 : 0 < ch.length := by
        cases ch with
        | nil => have := D.len; simp at this; omega
        | cons _ _ => simp
      obtain ⟨v, c', k', hv, hr⟩ := m_roll (n := n) c k (m := R.length) (by omega) (by omega)
      have e1 : den (run T (n + 2)) (.callIO 18 0 (.cons (.peek (.op .len (.cons (.var 3) .nil))) .nil)) [dDice c k, .sh (dC ch), .own (names.map fun c => dS [c]), .own (R.map dS), s4, s5, s6, s7, .un] = .ok (dI v, [dDice c' k', .sh (dC ch), .own (names.map fun c => dS [c]), .own (R.map dS), s4, s5, s6, s7, .un]) := by
        have := v_len_own (call := run T (n + 2)) (r := [dDice c k, .sh (dC ch), .own (names.map fun c => dS [c]), .own (R.map dS), s4, s5, s6, s7, .un]) (i := 3) (l := R.map dS) (by simp [noDic_cons, nD1, noDic_nil] at n4 n5 n6 n7 ⊢; exact ⟨n4, n5, n6, n7⟩) rfl
        rw [List.length_map] at this
        exact v_callIO (m := [.int c, .int k]) rfl (a_cons this e_nil) rfl hr
      refine w_seq (w_asg e1 rfl (w_ret (v_op (a_cons (v_op (a_cons (v_slcL (v_own rfl) (v_sh rfl) (lslice_lo (k := v))) (a_cons (v_slcH (v_sh rfl) (v_sh rfl) (lslice_hi (k := v))) e_nil)) (add_list (by simp only [List.length_drop, List.length_take, List.length_map]; omega))) e_nil) tup_list) ?_))
      refine ⟨[.int c', .int k'], rfl, R.drop v ++ R.take v, renBy names, c', k', hren, ⟨R, ?_, h2⟩, ?_, rfl⟩
      · refine List.Perm.trans (List.Perm.of_eq (List.take_append_drop v R).symm) List.perm_append_comm
      · rw [← List.map_drop, ← List.map_take, ← List.map_append]
end Bm
end
section
set_option Elab.async false
set_option linter.all false
set_option maxRecDepth 100000
set_option maxHeartbeats 1000000
namespace Bm
open PySem
theorem ob_len_tup (l : List D) : opD .len [.tuple l] = some (dI l.length) := len_tup l
theorem ob_len_list (l : List D) : opD .len [.list l] = some (dI l.length) := len_list l
theorem ob_list_tup (l : List D) : opD .list [.tuple l] = some (.list l) := rfl
theorem ob_list_list (l : List D) : opD .list [.list l] = some (.list l) := rfl
theorem ob_tup_list (l : List D) : opD .tuple [.list l] = some (.tuple l) := rfl
theorem ob_not (b : Bool) : opD .not [.bool b] = some (.bool (!b)) := rfl
theorem ob_e0 (e : End) : opD .item [dE e, .int 0] = some (dI e.1) := item_e0 e
theorem ob_e1 (e : End) : opD .item [dE e, .int 1] = some (dI e.2) := item_e1 e
theorem ob_str_ne (a b : List Nat) : opD .ne [(dS a), (dS b)] = some (.bool (decide (a ≠ b))) := eqD_str.ne a b
theorem ob_str_neL (a b : List (List Nat)) : opD .ne [.list (a.map dS), .list (b.map dS)] = some (.bool (decide (a ≠ b))) := eqD_str.neL a b
theorem ob_str_neT (a b : List (List Nat)) : opD .ne [.tuple (a.map dS), .tuple (b.map dS)] = some (.bool (decide (a ≠ b))) := eqD_str.neT a b
theorem ob_str_is (a b : List Nat) : opD .eq [(dS a), (dS b)] = some (.bool (decide (a = b))) := eqD_str.is a b
theorem ob_str_isL (a b : List (List Nat)) : opD .eq [.list (a.map dS), .list (b.map dS)] = some (.bool (decide (a = b))) := eqD_str.isL a b
theorem ob_str_isT (a b : List (List Nat)) : opD .eq [.tuple (a.map dS), .tuple (b.map dS)] = some (.bool (decide (a = b))) := eqD_str.isT a b
theorem ob_end_ne (a b : End) : opD .ne [(dE a), (dE b)] = some (.bool (decide (a ≠ b))) := eqD_end.ne a b
theorem ob_end_neL (a b : List (End)) : opD .ne [.list (a.map dE), .list (b.map dE)] = some (.bool (decide (a ≠ b))) := eqD_end.neL a b
theorem ob_end_neT (a b : List (End)) : opD .ne [.tuple (a.map dE), .tuple (b.map dE)] = some (.bool (decide (a ≠ b))) := eqD_end.neT a b
theorem ob_end_is (a b : End) : opD .eq [(dE a), (dE b)] = some (.bool (decide (a = b))) := eqD_end.is a b
theorem ob_end_isL (a b : List (End)) : opD .eq [.list (a.map dE), .list (b.map dE)] = some (.bool (decide (a = b))) := eqD_end.isL a b
theorem ob_end_isT (a b : List (End)) : opD .eq [.tuple (a.map dE), .tuple (b.map dE)] = some (.bool (decide (a = b))) := eqD_end.isT a b
theorem ob_bool_ne (a b : Bool) : opD .ne [(.bool a), (.bool b)] = some (.bool (decide (a ≠ b))) := eqD_bool.ne a b
theorem ob_bool_neL (a b : List (Bool)) : opD .ne [.list (a.map (fun b : Bool => PyData.bool b)), .list (b.map (fun b : Bool => PyData.bool b))] = some (.bool (decide (a ≠ b))) := eqD_bool.neL a b
theorem ob_bool_neT (a b : List (Bool)) : opD .ne [.tuple (a.map (fun b : Bool => PyData.bool b)), .tuple (b.map (fun b : Bool => PyData.bool b))] = some (.bool (decide (a ≠ b))) := eqD_bool.neT a b
theorem ob_bool_is (a b : Bool) : opD .eq [(.bool a), (.bool b)] = some (.bool (decide (a = b))) := eqD_bool.is a b
theorem ob_bool_isL (a b : List (Bool)) : opD .eq [.list (a.map (fun b : Bool => PyData.bool b)), .list (b.map (fun b : Bool => PyData.bool b))] = some (.bool (decide (a = b))) := eqD_bool.isL a b
theorem ob_bool_isT (a b : List (Bool)) : opD .eq [.tuple (a.map (fun b : Bool => PyData.bool b)), .tuple (b.map (fun b : Bool => PyData.bool b))] = some (.bool (decide (a = b))) := eqD_bool.isT a b
theorem ob_int_ne (a b : Int) : opD .ne [.int a, .int b] = some (.bool (!decide (a = b))) := dop_ne_int a b
theorem ob_int_is (a b : Int) : opD .eq [.int a, .int b] = some (.bool (decide (a = b))) := dop_eq_int a b
theorem ob_int_lt (a b : Int) : opD .lt [.int a, .int b] = some (.bool (decide (a < b))) := rfl
theorem ob_int_le (a b : Int) : opD .le [.int a, .int b] = some (.bool (decide (a ≤ b))) := rfl
theorem ob_int_gt (a b : Int) : opD .gt [.int a, .int b] = some (.bool (decide (b < a))) := rfl
theorem ob_int_ge (a b : Int) : opD .ge [.int a, .int b] = some (.bool (decide (b ≤ a))) := rfl
theorem ob_addN (a b : Nat) : opD .add [dI a, dI b] = some (dI (a + b)) := op_addN a b
theorem ob_addI (a b : Int) : opD .add [.int a, .int b] = some (.int (a + b)) := rfl
theorem ob_subI (a b : Int) : opD .sub [.int a, .int b] = some (.int (a - b)) := rfl
theorem ob_in_sign (c : Nat) (l : List Nat) : opD .isin [dS [c], dS l] = some (.bool (decide (c ∈ l))) := isin_sign c l
theorem ob_notin_sign (c : Nat) (l : List Nat) : opD .notin [dS [c], dS l] = some (.bool (!decide (c ∈ l))) := notin_sign c l
theorem ob_in_nat (c : Nat) (l : List Nat) : opD .isin [dI c, .list (l.map fun p => dI p)] = some (.bool (decide (c ∈ l))) := isin_dI c l
theorem ob_notin_nat (c : Nat) (l : List Nat) : opD .notin [dI c, .list (l.map fun p => dI p)] = some (.bool (!decide (c ∈ l))) := notin_dI c l
theorem ob_in_end (c : End) (l : List End) : opD .isin [dE c, .list (l.map dE)] = some (.bool (decide (c ∈ l))) := by have h := eqD_end.inL (fun _ => .inr trivial) c l; rw [show ∀ l, opD .isin l = dop_isin l from fun _ => rfl, h]; congr
theorem ob_in_str (c : List Nat) (l : List (List Nat)) : opD .isin [dS c, .list (l.map dS)] = some (.bool (decide (c ∈ l))) := by have h := eqD_str.inL (fun _ => .inr trivial) c l; rw [show ∀ l, opD .isin l = dop_isin l from fun _ => rfl, h]; congr
theorem ob_notin_str (c : List Nat) (l : List (List Nat)) : opD .notin [dS c, .list (l.map dS)] = some (.bool (!decide (c ∈ l))) := by have h := eqD_str.notinL c l; rw [show ∀ l, opD .notin l = dop_notin l from fun _ => rfl, h]; congr
theorem ob_neChars (a b : List Nat) : opD .ne [.list (chars a), .list (chars b)] = some (.bool (decide (a ≠ b))) := by rw [show ∀ l, opD .ne l = dop_ne l from fun _ => rfl]; rw [dop_ne_of (plain_chars _) (plain_chars _) (depth_chars _), eqv_chars]; simp
theorem ob_eqChars (a b : List Nat) : opD .eq [.list (chars a), .list (chars b)] = some (.bool (decide (a = b))) := by rw [show ∀ l, opD .eq l = dop_eq l from fun _ => rfl]; rw [dop_eq_of (plain_chars _) (plain_chars _) (depth_chars _), eqv_chars]
theorem ob_isN (d : D) : opD .isN [d] = some (.bool (!notNone d)) := rfl
theorem ob_notN (d : D) : opD .notN [d] = some (.bool (notNone d)) := rfl
theorem ob_int (b : Bool) : opD .int [.bool b] = some (.int (if b then 1 else 0)) := rfl
theorem ob_all {α : Type} {f : α → Bool} {l : List α} : opD .all [.list (l.map fun a => .bool (f a))] = some (.bool (l.all f)) := op_all
theorem ob_any {α : Type} {f : α → Bool} {l : List α} : opD .any [.list (l.map fun a => .bool (f a))] = some (.bool (l.any f)) := op_any
theorem ob_mkl {l : List D} (h : l.length ≤ 1000) (hn : l.all nd = true) : opD .mkl l = some (.list l) := mkl_all h hn
theorem ob_mkt {l : List D} (h : l.length ≤ 1000) (hn : l.all nd = true) : opD .mkt l = some (.tuple l) := mkt_all h hn
theorem ob_len_str {l : List Nat} (h : l.length ≤ 1000) : opD .len [dS l] = some (dI l.length) := len_str h
theorem ob_list_str {l : List Nat} (h : l.length ≤ 1000) : opD .list [dS l] = some (.list (l.map fun c => dS [c])) := list_str h
theorem ob_sorted_text {l : List Nat} (h : l.length ≤ 1000) : opD .sorted [dS l] = some (.list (chars (isortT leC l))) := op_sorted_text h
theorem ob_sorted_strs {l : List (List Nat)} (h : l.length ≤ 1000) : opD .sorted [.list (l.map dS)] = some (.list ((isortT leL l).map dS)) := op_sorted_strs h
theorem ob_join0 {l : List (List Nat)} (h : l.flatten.length ≤ 1000) : opD .join [dS [], .list (l.map dS)] = some (dS l.flatten) := op_join0 h
theorem ob_join0t {l : List (List Nat)} (h : l.flatten.length ≤ 1000) : opD .join [dS [], .tuple (l.map dS)] = some (dS l.flatten) := join_nil h
theorem put_wipe {r : Env} {i : Nat} {d : D} : bindT (.name i) d (wipeE r [i]) = some (putS r i (.sh d)) := by simp [bindT, wipeE, putS]
theorem wipe_put {r : Env} {i : Nat} {s : Slot} : wipeE (putS r i s) [i] = wipeE r [i] := by simp [wipeE, putS]
theorem get_put {r : Env} {i : Nat} {s : Slot} (h : i < r.length) : getS (putS r i s) i = s := by simp [getS, putS, h]
theorem get_put_ne {r : Env} {i j : Nat} {s : Slot} (h : i ≠ j) : getS (putS r i s) j = getS r j := by simp [getS, putS, List.getD_eq_getElem?_getD, List.getElem?_set, h]
section
variable {call : CallS}
theorem v_map1 {α : Type} {i : Nat} {src elt : E} {r0 r : Env} (emb : α → D) {xs : List α} (f : α → D) (hs : den call src r0 = .ok (.list (xs.map emb), r)) (hl : xs.length ≤ 1000)
    (h : ∀ a ∈ xs, den call elt (putS r i (.sh (emb a))) = .ok (f a, putS r i (.sh (emb a))) ∧ nd (f a) = true) : den call (.lc [i] (.name i) src (.lit (.bool true)) elt) r0 = .ok (.list (xs.map f), r) :=
  v_map emb (fun a => putS r i (.sh (emb a))) f hs hl fun a ha => ⟨put_wipe, wipe_put, putS_len _ _ _, (h a ha).1, (h a ha).2⟩
theorem v_lc1 {α : Type} {i : Nat} {src cond elt : E} {r0 r : Env} (emb : α → D) {xs : List α} (p : α → Bool) (f : α → D) (hs : den call src r0 = .ok (.list (xs.map emb), r)) (hl : xs.length ≤ 1000)
    (h : ∀ a ∈ xs, den call cond (putS r i (.sh (emb a))) = .ok (.bool (p a), putS r i (.sh (emb a))) ∧ (p a = true → den call elt (putS r i (.sh (emb a))) = .ok (f a, putS r i (.sh (emb a))) ∧ nd (f a) = true)) : den call (.lc [i] (.name i) src cond elt) r0 = .ok (.list ((xs.filter p).map f), r) :=
  v_lc emb (fun a => putS r i (.sh (emb a))) p f hs hl fun a ha => ⟨put_wipe, wipe_put, putS_len _ _ _, (h a ha).1, (h a ha).2⟩
end
theorem op_mul2 {l : List Nat} (h : l.length ≤ 1000) : opD .mul [dS l, .int 2] = some (dS (l ++ l)) := by
  rw [show ∀ l, opD .mul l = dop_mul l from fun _ => rfl]
  simp only [dop_mul, guardO]
  rw [if_pos (by simp only [decide_eq_true_eq]; exact ⟨by decide, by decide, by rw [toL_st]; exact h⟩)]
  simp [List.replicate]

end Bm
end
local macro_rules | `(tactic| array_get_dec) => `(tactic| first
  | with_reducible exact Bm.ob_len_tup _
  | with_reducible exact Bm.ob_len_list _
  | with_reducible exact Bm.ob_list_tup _
  | with_reducible exact Bm.ob_list_list _
  | with_reducible exact Bm.ob_tup_list _
  | with_reducible exact Bm.ob_not _
  | with_reducible exact Bm.ob_e0 _
  | with_reducible exact Bm.ob_e1 _
  | with_reducible exact Bm.ob_str_ne _ _
  | with_reducible exact Bm.ob_str_neL _ _
  | with_reducible exact Bm.ob_str_neT _ _
  | with_reducible exact Bm.ob_str_is _ _
  | with_reducible exact Bm.ob_str_isL _ _
  | with_reducible exact Bm.ob_str_isT _ _
  | with_reducible exact Bm.ob_end_ne _ _
  | with_reducible exact Bm.ob_end_neL _ _
  | with_reducible exact Bm.ob_end_neT _ _
  | with_reducible exact Bm.ob_end_is _ _
  | with_reducible exact Bm.ob_end_isL _ _
  | with_reducible exact Bm.ob_end_isT _ _
  | with_reducible exact Bm.ob_bool_ne _ _
  | with_reducible exact Bm.ob_bool_neL _ _
  | with_reducible exact Bm.ob_bool_neT _ _
  | with_reducible exact Bm.ob_bool_is _ _
  | with_reducible exact Bm.ob_bool_isL _ _
  | with_reducible exact Bm.ob_bool_isT _ _
  | with_reducible exact Bm.ob_int_ne _ _
  | with_reducible exact Bm.ob_int_is _ _
  | with_reducible exact Bm.ob_int_lt _ _
  | with_reducible exact Bm.ob_int_le _ _
  | with_reducible exact Bm.ob_int_gt _ _
  | with_reducible exact Bm.ob_int_ge _ _
  | with_reducible exact Bm.ob_addN _ _
  | with_reducible exact Bm.ob_addI _ _
  | with_reducible exact Bm.ob_subI _ _
  | with_reducible exact Bm.ob_in_sign _ _
  | with_reducible exact Bm.ob_notin_sign _ _
  | with_reducible exact Bm.ob_in_nat _ _
  | with_reducible exact Bm.ob_notin_nat _ _
  | with_reducible exact Bm.ob_in_end _ _
  | with_reducible exact Bm.ob_in_str _ _
  | with_reducible exact Bm.ob_notin_str _ _
  | with_reducible exact Bm.ob_neChars _ _
  | with_reducible exact Bm.ob_eqChars _ _
  | with_reducible exact Bm.ob_isN _
  | with_reducible exact Bm.ob_notN _
  | with_reducible exact Bm.ob_int _
  | with_reducible exact Bm.ob_all
  | with_reducible exact Bm.ob_any
  | with_reducible exact Bm.it_list
  | with_reducible exact Bm.it_tup
  | with_reducible exact Bm.it_str
  | ((with_reducible apply Bm.ob_mkl) <;> first | rfl | simp)
  | ((with_reducible apply Bm.ob_mkt) <;> first | rfl | simp)
  | ((with_reducible apply Bm.ob_len_str); omega)
  | ((with_reducible apply Bm.ob_list_str); omega)
  | ((with_reducible apply Bm.ob_sorted_text); omega)
  | ((with_reducible apply Bm.ob_join0); omega)
  | ((with_reducible apply Bm.ob_join0t); omega)
  | ((with_reducible apply Bm.op_mul2); first | omega | simp)
  | exact Bm.mkt_all (by simp) rfl
  | exact Bm.mkl_all (by simp) rfl)
local macro_rules | `(tactic| array_mem_dec) => `(tactic| repeat' (first
  | with_reducible assumption
  | with_reducible exact Bm.e_lit
  | with_reducible exact Bm.e_nil
  | ((with_reducible apply Bm.v_sh); rfl)
  | ((with_reducible apply Bm.v_own); rfl)
  | with_reducible apply Bm.a_cons
  | with_reducible apply Bm.v_op
  | with_reducible apply Bm.v_call
  | with_reducible apply Bm.v_meth
  | with_reducible apply Bm.v_it
  | with_reducible apply Bm.v_slcL
  | with_reducible apply Bm.v_slcH
  | with_reducible apply Bm.v_slcB
  | array_get_dec
  | assumption))
section
set_option Elab.async false
set_option linter.all false
set_option maxRecDepth 100000
set_option maxHeartbeats 1000000
namespace Bm
open PySem
theorem turn1_same (A : Chart) : SameR id A (A.map fun r => r.drop 1 ++ r.take 1) := by
  refine ⟨_, .refl _, ?_⟩
  unfold Turned
  induction A with
  | nil => exact .nil
  | cons r A ih => exact .cons ⟨r.take 1, r.drop 1, by rw [List.map_id, List.take_append_drop], rfl⟩ ih
theorem lands_closed {n : Nat} (A L : Chart) (h : isMapB A = true) (hl : landStr A = L) : run T (n + 7) 15 none [dC A] = .ok (dC L, []) := by
  rw [m_lands (isM_of h), hl]
theorem chars_perm {a b : List Nat} (h : a.Perm b) : decide (isortT leC a ≠ isortT leC b) = false := by
  rw [decide_eq_false_iff_not, Classical.not_not]
  exact (isortT_eq_iff leC_tot leC_tr leC_asy _ _).mpr h
theorem neChars (a b : List Nat) : dop_ne [.list (chars a), .list (chars b)] = some (.bool (decide (a ≠ b))) := by
  rw [dop_ne_of (plain_chars _) (plain_chars _) (depth_chars _), eqv_chars]; simp
theorem k02_good : Good (run T 20) n_law_k02 b_law_k02 := by
  intro c
  obtain ⟨ch, nb, c1, k1, M, hnb, hmap⟩ := m_any_map (n := 15) c 0 (most := 8) (by decide) (by decide)
  have hmap : run T 20 27 (some [.int c, .int 0]) [.int 8] = .ok (dC ch, [.int c1, .int k1]) := hmap
  have D := M.dr
  have hf := D.flat16
  have hcl := D.len16
  have P := partner_isM M
  have hLf := P.dr.flat16
  have hLl := P.dr.len16
  have hl := m_lands (n := 13) M
  have hll := m_law_lands (n := 16) D
  have hle := m_law_letters (n := 19) (ch := ch) (by omega) (by omega)
  have hln : (lettersOf ch).length = nb := letters_n D
  have h8 := D.n8
  have hj1 := join_nil (ch := ch) (by omega)
  have hj2 := join_nil (ch := landStr ch) (by omega)
  obtain ⟨ch', ρ, c2, k2, hρ, S, hcp⟩ := m_copy (n := 17) D c1 k1
  have M' := S.isM M hρ
  have hl' := m_lands (n := 13) M'
  have S1 := turn1_same ch
  have M1 := S1.isM M (isRen_id nb)
  have hl1 := m_lands (n := 13) M1
  obtain ⟨g1, R1⟩ := S1.ren D.ne
  have e1 : landStr (ch.map fun r => r.drop 1 ++ r.take 1) = landStr ch := R1.cop.lands D M1.dr R1.lt
  rw [e1] at hl1
  have l1 := lands_closed (n := 13) [[97, 97]] [[97], [97]] (by decide +kernel) (by decide +kernel)
  have l2 := lands_closed (n := 13) [[97], [97]] [[97, 97]] (by decide +kernel) (by decide +kernel)
  have l3 := lands_closed (n := 13) [[97, 98, 99], [97, 99, 98]] [[97, 98], [97, 99], [98, 99]] (by decide +kernel) (by decide +kernel)
  have l4 := lands_closed (n := 13) [[97], [97, 98], [98]] [[97, 97, 98, 98]] (by decide +kernel) (by decide +kernel)
  have heu : ch.length + (landStr ch).length = nb + 2 := by
    unfold landStr
    rw [List.length_map, (rnds_perm ch).length_eq]
    exact M.eu
  refine good_wp ?_
  refine w_seq (w_asg (v_callIO (m := [.int c, .int 0]) rfl (a_cons e_lit e_nil) rfl hmap) rfl ?_)
  refine w_seq (w_asg (v_call (a_cons (v_sh rfl) e_nil) hl) rfl ?_)
  refine w_seq (w_if (v_or (by array_mem_dec) fun _ => by array_mem_dec) (fun z => ?_) fun _ => w_skip ?_)
  · exfalso
    simp [hln] at z
    omega
  -- each border twice
  refine w_seq (w_if (by array_mem_dec) (fun z => ?_) fun _ => w_skip ?_)
  · exfalso
    rw [chars_perm (P.dr.pm.trans D.pm.symm)] at z
    cases z
  -- each string is the least one
  refine w_seq (w_if (v_op (a_cons (v_op (a_cons (v_map1 dS (xs := landStr ch) (fun t => .bool (decide (leastTurn t = t))) (by array_mem_dec) (by omega) fun t ht => ?_) e_nil) ob_all) e_nil) (ob_not _)) (fun z => ?_) fun _ => w_skip ?_)
  · exact ⟨v_op (a_cons (v_call (a_cons (v_sh rfl) e_nil) (m_turned (n := 19) (Nat.le_trans (row_le ht) (by omega)) (P.dr.ne t ht))) (a_cons (v_sh rfl) e_nil)) (ob_str_is _ _), rfl⟩
  · exfalso
    simp only [Bool.not_eq_true', List.all_eq_false] at z
    obtain ⟨t, ht, h⟩ := z
    refine h ?_
    rw [decide_eq_true_eq]
    unfold landStr at ht
    obtain ⟨w, _, rfl⟩ := List.mem_map.mp ht
    exact leastTurn_idem _
  refine w_seq (w_asg (by array_mem_dec) rfl ?_)
  -- two small maps
  refine w_seq (w_if (v_or (v_op (a_cons (v_call (a_cons (by array_mem_dec) e_nil) l1) (a_cons (by array_mem_dec) e_nil)) (ob_str_neT [[97], [97]] [[97], [97]])) fun _ => v_op (a_cons (v_call (a_cons (by array_mem_dec) e_nil) l2) (a_cons (by array_mem_dec) e_nil)) (ob_str_neT [[97, 97]] [[97, 97]])) (fun z => by simp at z) fun _ => w_skip ?_)
  -- turned
  refine w_seq (w_asg (v_op (a_cons (v_map1 dS (xs := ch) (fun r => dS (r.drop 1 ++ r.take 1)) (by array_mem_dec) (by omega) fun r hr => ?_) e_nil) (ob_tup_list _)) rfl ?_)
  · have hr16 : r.length ≤ 16 := Nat.le_trans (row_le hr) hf
    exact ⟨v_op (a_cons (v_slcL (v_sh rfl) e_lit (slice_loA (l := r) (k := 1) (by omega))) (a_cons (v_slcH (v_sh rfl) e_lit (slice_hiA (l := r) (k := 1) (by omega))) e_nil)) (add_str (by rw [List.length_drop, List.length_take]; omega)), rfl⟩
  have e2 : (ch.map fun r => dS (r.drop 1 ++ r.take 1)) = (ch.map fun r => r.drop 1 ++ r.take 1).map dS := by rw [List.map_map]; rfl
  rw [e2]
  refine w_seq (w_if (v_and (by array_mem_dec) fun _ => by array_mem_dec) (fun z => by simp at z) fun _ => w_skip ?_)
  refine w_seq (w_if (v_or (v_op (a_cons (v_call (a_cons (by array_mem_dec) e_nil) l3) (a_cons (by array_mem_dec) e_nil)) (ob_str_neT [[97, 98], [97, 99], [98, 99]] [[97, 98], [97, 99], [98, 99]])) fun _ => v_op (a_cons (v_call (a_cons (by array_mem_dec) e_nil) l4) (a_cons (by array_mem_dec) e_nil)) (ob_str_neT [[97, 97, 98, 98]] [[97, 97, 98, 98]])) (fun z => by simp at z) fun _ => w_skip ?_)
  -- a copy
  refine w_seq (w_asg (v_callIO (m := [.int c1, .int k1]) rfl (a_cons (v_sh rfl) e_nil) rfl hcp) rfl ?_)
  have hL' := (partner_isM M').dr.len16
  have hLf' := (partner_isM M').dr.flat16
  refine w_if (v_op (a_cons (v_op (a_cons (v_map1 dS (xs := landStr ch') (fun t => dI t.length) (by array_mem_dec) (by omega) fun t ht => ?_) e_nil) (l := [.list ((landStr ch').map fun t => dI t.length)]) (d := .list ((isortT leN ((landStr ch').map List.length)).map fun a => dI a)) ?_) (a_cons (v_op (a_cons (v_map1 dS (xs := landStr ch) (fun t => dI t.length) (by array_mem_dec) (by omega) fun t ht => ?_) e_nil) (l := [.list ((landStr ch).map fun t => dI t.length)]) (d := .list ((isortT leN ((landStr ch).map List.length)).map fun a => dI a)) ?_) e_nil)) (eqD_nat.neL _ _)) (fun z => ?_) fun _ => w_skip ?_
  · exact ⟨v_op (a_cons (v_sh rfl) e_nil) (len_str (Nat.le_trans (row_le ht) (by omega))), rfl⟩
  · have := op_sorted_nats (l := (landStr ch').map List.length) (by rw [List.length_map]; omega)
    rw [List.map_map] at this
    exact this
  · exact ⟨v_op (a_cons (v_sh rfl) e_nil) (len_str (Nat.le_trans (row_le ht) (by omega))), rfl⟩
  · have := op_sorted_nats (l := (landStr ch).map List.length) (by rw [List.length_map]; omega)
    rw [List.map_map] at this
    exact this
  · exfalso
    obtain ⟨g, R⟩ := S.ren D.ne
    rw [decide_eq_true_eq] at z
    exact z ((isortT_eq_iff leN_tot leN_tr leN_asy _ _).mpr (R.cop.sizes D M'.dr))
  · rfl
end Bm
end
set_option maxRecDepth 100000 in
set_option maxHeartbeats 0 in
theorem PySem.Challenge.cw_ballmaps_k02_whole_lands_holds : PySem.Challenge.rw_ballmaps_k02_whole_lands.Holds := by
  exact Bm.Lk02.holds_of Bm.k02_good
