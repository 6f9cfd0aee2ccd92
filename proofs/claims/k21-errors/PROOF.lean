import PyProof.Rows.All
import Wide.All
import OpenK.AllK
import Wide.FinOn
import HandS.ForMost
import HandS.ForExc
import HandS.Wide
import HandS.NoneIn
import HandS.ExcValue
import HandS.ExcCtx
import HandS.HotCalls
import HandS.Lambda
import HandS.ExcIs
import HandS.Style
import KE.DataMinMax
import KE.SortData
import KE.DataFind
import KE.DataIsa
import KE.GoesMore
import HandS.TupAny
import HandS.TupMul
import HandS.StrMore
import PyProof.CollectStr
import HandS.Head0
import HandS.Head1
import HandS.Head2
import HandS.HeadEnd
import HandS.HeadHook1
import HandS.HeadHook2
import HandS.HeadHook3
import HandS.HeadHook4
import HandS.HeadWalk
import HandS.NestedK
import HandS.More
import HandS.DictComp
import HandS.Dict
import KE.KRevSl
import PyProof.Rows.StrStep
import HandS.Conv
import HandS.SetFor
import HandS.Deep
import HandS.Strs
import HandS.Zip
import PySem.Challenge.RW_ballmaps_k21_errors_apart
section
set_option Elab.async false
set_option linter.all false
set_option maxRecDepth 100000
namespace Bm
open PySem
abbrev D := PyData
/-- a text by its code points -/
def st (l : List Nat) : Str := ⟨l.toArray⟩
def toL (s : Str) : List Nat := s.cps.toList
@[simp] theorem toL_st (l : List Nat) : toL (st l) = l := by simp [toL, st]
@[simp] theorem st_toL (s : Str) : st (toL s) = s := by cases s; simp [toL, st]
abbrev dS (l : List Nat) : D := .str (st l)
abbrev dI (n : Nat) : D := .int (n : Int)
/-- what a name's place holds -/
inductive Slot where
  | un
  | sh (d : D)
  | own (l : List D)
  | dicT (kvs : List (D × D))
  | dicK (kvs : List (D × D))
  | ins (l : List D)
  | lck (l : List D)
  | exs (l : List Nat)
abbrev Env := List Slot
inductive R (α : Type) where
  | ok (a : α)
  | exc (c : Nat)
  | stuck
@[inline] def R.bind {α β : Type} (x : R α) (f : α → R β) : R β :=
  match x with
  | .ok a => f a
  | .exc c => .exc c
  | .stuck => .stuck
@[simp] theorem R.ok_bind {α β : Type} (a : α) (f : α → R β) : R.bind (.ok a) f = f a := rfl
@[simp] theorem R.exc_bind {α β : Type} (c : Nat) (f : α → R β) : R.bind (.exc c) f = .exc c := rfl
@[simp] theorem R.stuck_bind {α β : Type} (f : α → R β) : R.bind .stuck f = .stuck := rfl
def R.opt {α : Type} : Option α → R α
  | some a => .ok a
  | none => .stuck
@[simp] theorem R.opt_some {α : Type} (a : α) : R.opt (some a) = .ok a := rfl
@[simp] theorem R.opt_none {α : Type} : R.opt (none : Option α) = .stuck := rfl
inductive Op where
  | add | sub | mul | fdiv | mod | pow | neg | not
  | eq | ne | lt | le | gt | ge | isN | notN | isin | notin
  | item | slice | rev
  | len | sorted | min1 | max2 | min2 | sum | all | any
  | isint | isbool | isstr | istup
  | tuple | list | int
  | join | find | find2 | count | sindex | lindex | replace | split
  | mkt | mkl
  | dget | step3 | lrange | mulL | lcount
  | ssetI | ssetS | lsetS | ssetC | max1 | iadd | lcountD
inductive ItK where
  | seq | range1 | range2 | enum
inductive Tg where
  | name (i : Nat)
  | tup (is : List Nat)
  | lst (is : List Nat)
inductive E where
  | var (i : Nat)
  | lit (d : D)
  | nil
  | cons (a b : E)
  | op (o : Op) (a : E)
  | call (f : Nat) (a : E)
  | callIO (f i : Nat) (a : E)
  | and (a b : E)
  | or (a b : E)
  | ife (c a b : E)
  | chain (o1 o2 : Op) (a b c : E)
  | it (k : ItK) (a : E)
  | lc (own : List Nat) (tg : Tg) (src cond elt : E)
  | dc (own : List Nat) (tg : Tg) (src key elt : E)
  | dkeys (i : Nat)
  | peek (a : E)
  | oitem (i : Nat) (a : E)
  | dIn (i : Nat) (a : E)
  | told (a : E)
  | meth (o : Op) (a b : E)
  | lmeth (o : Op) (a b : E)
  | slcL (a lo : E)
  | slcH (a hi : E)
  | slcB (a lo hi : E)
  | fld (i k : Nat)
  | newI (f : Nat) (a : E)
  | insC (f i : Nat) (a : E)
  | two (f i j : Nat) (a : E)
  | toldM (f i : Nat) (a : E)
  | tmpM (f0 f : Nat) (a b : E)
  | metAll (i : Nat)
inductive S where
  | skip
  | seq (a b : S)
  | asg (tg : Tg) (e : E)
  | asgM (i mode : Nat) (e : E)
  | par (is : List (Nat × Nat)) (e : E)
  | append (i : Nat) (e : E)
  | store (i : Nat) (k e : E)
  | sto2 (i k1 k2 : Nat) (e : E)
  | dput (i : Nat) (k e : E)
  | expr (e : E)
  | ret (e : E)
  | ifs (c : E) (a b : S)
  | for_ (tg : Tg) (src : E) (b : S)
  | forO (i : Nat) (tg : Tg) (b : S)
  | while_ (n : Nat) (c : E) (b : S)
  | raise (c : Nat)
  | fset (i k : Nat) (e : E)
  | fin (a : S)
  | metN (i : Nat) (e : E)
  | metA (i : Nat) (e : E)
def lim : Nat := 1000000
/-- an index, negative ones from the end -/
def ixOf (n : Nat) (i : Int) : Option Nat :=
  if 0 ≤ i then (if i.toNat < n then some i.toNat else none) else (if (-i).toNat ≤ n then some (n - (-i).toNat) else none)
/-- a slice's bound, clamped -/
def clamp (n : Nat) (dflt : Nat) : D → Option Nat
  | .none => some dflt
  | .int i => some (if 0 ≤ i then min i.toNat n else n - (-i).toNat)
  | _ => none
def cut {α : Type} (l : List α) (lo hi : Nat) : List α := (l.take hi).drop lo
def allBool : List D → Option (List Bool)
  | [] => some []
  | .bool b :: r => (allBool r).map (b :: ·)
  | _ :: _ => none
def allInt : List D → Option (List Int)
  | [] => some []
  | .int b :: r => (allInt r).map (b :: ·)
  | _ :: _ => none
def allStr : List D → Option (List (List Nat))
  | [] => some []
  | .str b :: r => (allStr r).map (toL b :: ·)
  | _ :: _ => none
/-- the first place of a sign -/
def posOf (c : Nat) : List Nat → Option Nat
  | [] => none
  | a :: r => if a = c then some 0 else (posOf c r).map (· + 1)
def posFrom (c : Nat) (l : List Nat) (k : Nat) : Option Nat := (posOf c (l.drop k)).map (· + k)
def posInt : Option Nat → Int
  | some k => k
  | none => -1
/-- a text of one sign -/
def sign1 (s : Str) : Option Nat := match toL s with
  | [c] => some c
  | _ => none
def joinL (sep : List Nat) : List (List Nat) → List Nat
  | [] => []
  | [x] => x
  | x :: r => x ++ sep ++ joinL sep r
def chars (l : List Nat) : List D := l.map fun c => dS [c]
def ins (le : D → D → Bool) (x : D) : List D → List D
  | [] => [x]
  | y :: r => if le x y then x :: y :: r else y :: ins le x r
def isort (le : D → D → Bool) : List D → List D
  | [] => []
  | x :: r => ins le x (isort le r)
/-- x <= y for alike data -/
def dle (x y : D) : Bool := !PySem.W.dataLt y x
def alikeAs (x : D) : List D → Bool
  | [] => true
  | y :: r => PySem.W.alike x y && PySem.W.alike y x && alikeAs x r
def allAlike : List D → Bool
  | [] => true
  | x :: r => PySem.W.alike x x && alikeAs x r && allAlike r
def sortable (l : List D) : Bool := (l.all fun d => match d with | .tuple (_ :: _) => true | _ => false) || l.all fun d => match d with | .none => false | .tuple _ => false | .dict _ => false | _ => true
def enumFrom : Nat → List D → List D
  | _, [] => []
  | n, x :: r => .tuple [.int n, x] :: enumFrom (n + 1) r
def rangeFrom (i : Int) : Nat → List D
  | 0 => []
  | n + 1 => .int i :: rangeFrom (i + 1) n
/-- split by one sign -/
def splitBy (c : Nat) : List Nat → List (List Nat)
  | [] => [[]]
  | a :: r => if a = c then [] :: splitBy c r else match splitBy c r with
    | [] => [[a]]
    | x :: t => (a :: x) :: t
/-- no dict itself -/
def isI : D → Bool
  | .int _ => true
  | _ => false
def nd : D → Bool
  | .dict _ => false
  | _ => true
def notNone : D → Bool
  | .none => false
  | _ => true
def guardO {α : Type} (b : Bool) (x : Option α) : Option α := if b then x else none
def dop_add : List D → Option D
  | [.int a, .int b] => some (.int (a + b))
  | [.str a, .str b] => guardO (decide ((toL a).length + (toL b).length ≤ lim)) (some (dS (toL a ++ toL b)))
  | [.tuple a, .tuple b] => guardO (decide (a.length + b.length ≤ lim)) (some (.tuple (a ++ b)))
  | [.list a, .list b] => guardO (decide (a.length + b.length ≤ lim)) (some (.list (a ++ b)))
  | _ => none
def dop_sub : List D → Option D
  | [.int a, .int b] => some (.int (a - b))
  | _ => none
def dop_mul : List D → Option D
  | [.int a, .int b] => guardO (decide (a.natAbs < 2 ^ 400 ∧ b.natAbs < 2 ^ 400) || decide (-(2 ^ 64) < b ∧ b < 2 ^ 64)) (some (.int (a * b)))
  | [.str a, .int b] => guardO (decide (0 ≤ b ∧ b ≤ 1000 ∧ (toL a).length ≤ 1000)) (some (dS (List.replicate b.toNat (toL a)).flatten))
  | [.list a, .int b] => guardO (decide (0 ≤ b ∧ b ≤ 1000 ∧ a.length ≤ 1000)) (some (.list (List.replicate b.toNat a).flatten))
  | [.tuple a, .int b] => guardO (decide (1 ≤ b ∧ b ≤ 1000 ∧ a.length ≤ 1000) && !a.isEmpty) (some (.tuple (List.replicate b.toNat a).flatten))
  | _ => none
def dop_fdiv : List D → Option D
  | [.int a, .int b] => guardO (decide (0 < b ∧ b.natAbs < 2 ^ 400)) (some (.int (a / b)))
  | _ => none
def dop_mod : List D → Option D
  | [.int a, .int b] => guardO (decide (0 < b)) (some (.int (a % b)))
  | _ => none
def dop_pow : List D → Option D
  | [.int a, .int b] => guardO (decide (0 ≤ b ∧ b ≤ 1000 ∧ a.natAbs < 1000)) (some (.int (a ^ b.toNat)))
  | _ => none
def dop_neg : List D → Option D
  | [.int a] => some (.int (-a))
  | _ => none
def dop_not : List D → Option D
  | [.bool b] => some (.bool (!b))
  | _ => none
def dop_eq : List D → Option D
  | [a, b] => guardO (a.plain && b.plain && decide (a.depth ≤ 60)) (some (.bool (PyData.eqv a b)))
  | _ => none
def dop_ne : List D → Option D
  | [a, b] => guardO (a.plain && b.plain && decide (a.depth ≤ 60)) (some (.bool (!PyData.eqv a b)))
  | _ => none
def dop_lt : List D → Option D
  | [.int a, .int b] => some (.bool (decide (a < b)))
  | [.str a, .str b] => some (.bool (decide (toL a < toL b)))
  | _ => none
def dop_le : List D → Option D
  | [.int a, .int b] => some (.bool (decide (a ≤ b)))
  | _ => none
def dop_gt : List D → Option D
  | [.int a, .int b] => some (.bool (decide (b < a)))
  | _ => none
def dop_ge : List D → Option D
  | [.int a, .int b] => some (.bool (decide (b ≤ a)))
  | _ => none
def dop_isN : List D → Option D
  | [a] => some (.bool (!notNone a))
  | _ => none
def dop_notN : List D → Option D
  | [a] => some (.bool (notNone a))
  | _ => none
def dop_isin : List D → Option D
  | [.str a, .str b] => (sign1 a).map fun c => .bool (decide (c ∈ toL b))
  | [a, .list l] => guardO (a.plain && PyData.plainAll l && decide (a.depth ≤ 60)) (some (.bool (l.any fun d => PyData.eqv d a)))
  | [a, .tuple l] => guardO (a.plain && PyData.plainAll l && decide (a.depth ≤ 60)) (some (.bool (l.any fun d => PyData.eqv d a)))
  | _ => none
def dop_notin : List D → Option D
  | [.str a, .str b] => (sign1 a).map fun c => .bool (!decide (c ∈ toL b))
  | [a, .list l] => guardO (a.plain && PyData.plainAll l && decide (a.depth ≤ 60)) (some (.bool (!(l.any fun d => PyData.eqv d a))))
  | [a, .tuple l] => guardO (a.plain && PyData.plainAll l && decide (a.depth ≤ 60)) (some (.bool (!(l.any fun d => PyData.eqv d a))))
  | _ => none
def dop_item : List D → Option D
  | [.list l, .int i] => (ixOf l.length i).bind fun k => l[k]?
  | [.tuple l, .int i] => (ixOf l.length i).bind fun k => l[k]?
  | [.str s, .int i] => guardO (decide ((toL s).length ≤ lim)) ((ixOf (toL s).length i).bind fun k => (toL s)[k]?.map fun c => dS [c])
  | _ => none
def dop_slice : List D → Option D
  | [.list l, lo, hi] => (clamp l.length 0 lo).bind fun a => (clamp l.length l.length hi).map fun b => .list (cut l a b)
  | [.tuple l, lo, hi] => (clamp l.length 0 lo).bind fun a => (clamp l.length l.length hi).map fun b => .tuple (cut l a b)
  | [.str s, lo, hi] => guardO (decide ((toL s).length ≤ lim)) ((clamp (toL s).length 0 lo).bind fun a => (clamp (toL s).length (toL s).length hi).map fun b => dS (cut (toL s) a b))
  | _ => none
def dop_rev : List D → Option D
  | [.str s] => guardO (decide ((toL s).length ≤ lim)) (some (dS (toL s).reverse))
  | _ => none
def dop_len : List D → Option D
  | [.str s] => guardO (decide ((toL s).length ≤ lim)) (some (.int (toL s).length))
  | [.list l] => some (.int l.length)
  | [.tuple l] => some (.int l.length)
  | _ => none
def dop_sorted : List D → Option D
  | [.list l] => guardO (allAlike l && sortable l && decide (l.length ≤ lim) && decide (PyData.depthAll l ≤ 60)) (some (.list (isort dle l)))
  | [.str s] => guardO (decide ((toL s).length ≤ lim)) (some (.list (isort dle (chars (toL s)))))
  | _ => none
def dop_min1 : List D → Option D
  | [.list (x :: r)] => guardO (allAlike (x :: r) && (x :: r).all notNone && decide (PyData.depthAll (x :: r) ≤ 60)) (some (PySem.W.minD x r))
  | _ => none
def dop_max2 : List D → Option D
  | [.int a, .int b] => some (.int (if b > a then b else a))
  | _ => none
def dop_min2 : List D → Option D
  | [.int a, .int b] => some (.int (if b < a then b else a))
  | _ => none
def dop_sum : List D → Option D
  | [.list l] => (allInt l).map fun ns => .int ns.sum
  | _ => none
def dop_all : List D → Option D
  | [.list l] => (allBool l).map fun bs => .bool (bs.all id)
  | _ => none
def dop_any : List D → Option D
  | [.list l] => (allBool l).map fun bs => .bool (bs.any id)
  | _ => none
def dop_isint : List D → Option D
  | [d] => guardO (nd d) (some (.bool d.isInt))
  | _ => none
def dop_isbool : List D → Option D
  | [d] => guardO (nd d) (some (.bool d.isBool))
  | _ => none
def dop_isstr : List D → Option D
  | [d] => guardO (nd d) (some (.bool d.isStr))
  | _ => none
def dop_istup : List D → Option D
  | [d] => guardO (nd d) (some (.bool d.isTuple))
  | _ => none
def dop_tuple : List D → Option D
  | [.list l] => some (.tuple l)
  | _ => none
def dop_list : List D → Option D
  | [.list l] => some (.list l)
  | [.tuple l] => some (.list l)
  | [.str s] => guardO (decide ((toL s).length ≤ lim)) (some (.list (chars (toL s))))
  | _ => none
def dop_int : List D → Option D
  | [.bool b] => some (.int (if b then 1 else 0))
  | _ => none
def dop_join : List D → Option D
  | [.str sep, .list l] => (allStr l).bind fun ss => guardO (decide ((ss.map List.length).sum + ss.length * (toL sep).length ≤ lim)) (some (dS (joinL (toL sep) ss)))
  | [.str sep, .tuple l] => (allStr l).bind fun ss => guardO (decide ((ss.map List.length).sum + ss.length * (toL sep).length ≤ lim)) (some (dS (joinL (toL sep) ss)))
  | _ => none
def dop_find : List D → Option D
  | [.str s, .str t] => (sign1 t).map fun c => .int (posInt (posOf c (toL s)))
  | _ => none
def dop_find2 : List D → Option D
  | [.str s, .str t, .int i] => guardO (decide (0 ≤ i ∧ i.toNat ≤ (toL s).length)) ((sign1 t).map fun c => .int (posInt (posFrom c (toL s) i.toNat)))
  | _ => none
def dop_count : List D → Option D
  | [.str s, .str t] => (sign1 t).map fun c => .int (((toL s).filter fun x => x == c).length : Nat)
  | _ => none
def dop_sindex : List D → Option D
  | [.str s, .str t] => (sign1 t).bind fun c => (posOf c (toL s)).map fun k => .int k
  | _ => none
def dop_lindex : List D → Option D
  | [.list l, x] => guardO (x.plain && PyData.plainAll l && decide (x.depth ≤ 60)) ((l.findIdx? fun d => PyData.eqv d x).map fun k => .int k)
  | _ => none
def dop_replace : List D → Option D
  | [.str s, .str t, .str u] => guardO (decide ((toL s).length ≤ lim) && decide (toL u = [])) ((sign1 t).map fun c => dS ((toL s).filter fun x => x != c))
  | _ => none
def dop_split : List D → Option D
  | [.str s, .str t] => guardO (decide ((toL s).length ≤ lim)) (match toL t with | [c] => guardO (decide (c < 128)) (some (.list ((splitBy c (toL s)).map dS))) | _ => none)
  | _ => none
def dop_mkt : List D → Option D
  | l => guardO (decide (l.length ≤ lim) && l.all nd) (some (.tuple l))
def dop_mkl : List D → Option D
  | l => guardO (decide (l.length ≤ lim) && l.all nd) (some (.list l))
/-- a dict's key: an int or a text; a tuple of such -/
def keyK : D → Option (Sum Int Str)
  | .int i => some (.inl i)
  | .str s => some (.inr s)
  | _ => none
def lookD (kvs : List (D × D)) (k : D) : Option D :=
  match kvs with
  | [] => none
  | (a, b) :: r => if PyData.eqv a k then some b else lookD r k
def putD (kvs : List (D × D)) (k v : D) : List (D × D) :=
  match kvs with
  | [] => [(k, v)]
  | (a, b) :: r => if PyData.eqv a k then (a, v) :: r else (a, b) :: putD r k v
def every3 {α : Type} : Nat → List α → List α
  | _, [] => []
  | 0, x :: r => x :: every3 2 r
  | k + 1, _ :: r => every3 k r
def dop_dget : List D → Option D
  | [.dict kvs, k] => guardO (keyK k).isSome (lookD kvs k)
  | _ => none
def dop_step3 : List D → Option D
  | [.list l] => some (.list (every3 0 l))
  | _ => none
def dop_lrange : List D → Option D
  | [.int n] => guardO (decide (0 ≤ n ∧ n ≤ 1000)) (some (.list (rangeFrom 0 n.toNat)))
  | _ => none
def dop_mulL : List D → Option D
  | [.list a, .int b] => guardO (decide (0 ≤ b ∧ b ≤ 1000 ∧ a.length ≤ 1000)) (some (.list (List.replicate b.toNat a).flatten))
  | _ => none
def dop_lcount : List D → Option D
  | [.list l, .int k] => (allInt l).map fun ns => .int (ns.count k : Nat)
  | _ => none
/-- each but once -/
def nub {α : Type} [DecidableEq α] : List α → List α
  | [] => []
  | x :: r => if x ∈ r then nub r else x :: nub r
def maxI : Int → List Int → Int
  | x, [] => x
  | x, y :: r => maxI (if y > x then y else x) r
def dop_ssetI : List D → Option D
  | [.list l] => (allInt l).bind fun ns => guardO (decide (ns.length < 64)) (some (.list (isort dle ((nub ns).map .int))))
  | _ => none
def dop_ssetS : List D → Option D
  | [.list l] => (allStr l).bind fun ss => guardO (decide ((nub ss).length ≤ 2000)) (some (.list (isort dle ((nub ss).map dS))))
  | _ => none
def dop_lsetS : List D → Option D
  | [.list l] => (allStr l).bind fun ss => guardO (decide ((nub ss).length ≤ 2000)) (some (.int ((nub ss).length : Nat)))
  | _ => none
def dop_ssetC : List D → Option D
  | [.str s] => guardO (decide ((toL s).length ≤ 1000)) (some (.list (isort dle ((nub (toL s)).map fun c => dS [c]))))
  | _ => none
def dop_max1 : List D → Option D
  | [.tuple l] => (allInt l).bind fun ns => match ns with
    | [] => none
    | x :: r => some (.int (maxI x r))
  | _ => none
def dop_iadd : List D → Option D
  | [.int a, .int b] => some (.int (a + b))
  | _ => none
def dop_lcountD : List D → Option D
  | [.list l, x] => guardO (x.plain && PyData.plainAll l && decide (x.depth ≤ 60)) (some (.int ((l.filter fun d => PyData.eqv d x).length : Nat)))
  | _ => none
def opD : Op → List D → Option D
  | .add => dop_add
  | .sub => dop_sub
  | .mul => dop_mul
  | .fdiv => dop_fdiv
  | .mod => dop_mod
  | .pow => dop_pow
  | .neg => dop_neg
  | .not => dop_not
  | .eq => dop_eq
  | .ne => dop_ne
  | .lt => dop_lt
  | .le => dop_le
  | .gt => dop_gt
  | .ge => dop_ge
  | .isN => dop_isN
  | .notN => dop_notN
  | .isin => dop_isin
  | .notin => dop_notin
  | .item => dop_item
  | .slice => dop_slice
  | .rev => dop_rev
  | .len => dop_len
  | .sorted => dop_sorted
  | .min1 => dop_min1
  | .max2 => dop_max2
  | .min2 => dop_min2
  | .sum => dop_sum
  | .all => dop_all
  | .any => dop_any
  | .isint => dop_isint
  | .isbool => dop_isbool
  | .isstr => dop_isstr
  | .istup => dop_istup
  | .tuple => dop_tuple
  | .list => dop_list
  | .int => dop_int
  | .join => dop_join
  | .find => dop_find
  | .find2 => dop_find2
  | .count => dop_count
  | .sindex => dop_sindex
  | .lindex => dop_lindex
  | .replace => dop_replace
  | .split => dop_split
  | .mkt => dop_mkt
  | .mkl => dop_mkl
  | .dget => dop_dget
  | .step3 => dop_step3
  | .lrange => dop_lrange
  | .mulL => dop_mulL
  | .lcount => dop_lcount
  | .ssetI => dop_ssetI
  | .ssetS => dop_ssetS
  | .lsetS => dop_lsetS
  | .ssetC => dop_ssetC
  | .max1 => dop_max1
  | .iadd => dop_iadd
  | .lcountD => dop_lcountD
/-- what is walked, as items -/
def itD : ItK → List D → Option (List D)
  | .seq, [.list l] => some l
  | .seq, [.tuple l] => some l
  | .seq, [.str s] => some (chars (toL s))
  | .range1, [.int n] => guardO (decide (-lim ≤ n ∧ n ≤ lim)) (some (rangeFrom 0 n.toNat))
  | .range2, [.int a, .int b] => guardO (decide (-lim ≤ a ∧ a ≤ lim ∧ -lim ≤ b ∧ b ≤ lim)) (some (rangeFrom a (b - a).toNat))
  | .enum, [.list l] => some (enumFrom 0 l)
  | .enum, [.tuple l] => some (enumFrom 0 l)
  | _, _ => none
def excName (c : Nat) : Str := Str.ofString (["InvalidMap", "InvalidBorder", "InvalidPoint", "InvalidPlace", "InvalidLand", "InvalidCount", "InvalidText", "Bridge", "Loop", "LastBorder", "TooLarge", "OtherLand", "NothingToUndo"].getD c "other")
def getS (r : Env) (i : Nat) : Slot := r.getD i .un
def putS (r : Env) (i : Nat) (s : Slot) : Env := r.set i s
def putAll (r : Env) : List Nat → List D → Option Env
  | [], [] => some r
  | i :: is, d :: ds => putAll (putS r i (.sh d)) is ds
  | _, _ => none
def bindT (tg : Tg) (d : D) (r : Env) : Option Env :=
  match tg with
  | .name i => some (putS r i (.sh d))
  | .tup is => match d with
    | .tuple ds => putAll r is ds
    | _ => none
  | .lst is => match d with
    | .list ds => putAll r is ds
    | _ => none
/-- a list's item, by a name's whole number -/
def sto (i k : Nat) (d : D) (r : Env) : Option Env := match getS r i, getS r k with
  | .own l, .sh (.int j) => (ixOf l.length j).map fun p => putS r i (.own (l.set p d))
  | _, _ => none
def wipeE (r : Env) : List Nat → Env
  | [] => r
  | i :: is => putS (wipeE r is) i .un
/-- the places in own as they stood in r, the others as in r' -/
def backE (r' r : Env) : List Nat → Env
  | [] => r'
  | i :: is => putS (backE r' r is) i (getS r i)
/-- all owned lists frozen, for a look -/
def frzE (r : Env) : Env := r.map fun s => match s with
  | .own l => .sh (.list l)
  | s => s
/-- what is owned is out of sight -/
def hidE (r : Env) : Env := r.map fun s => match s with
  | .own _ => .un
  | .dicT _ => .un
  | .dicK _ => .un
  | .exs _ => .un
  | .ins _ => .un
  | s => s
def isOwnL : Slot → Bool
  | .own _ => true
  | _ => false
/-- no other place holds a locked instance -/
def oneLck (r : Env) : Bool := (r.drop 1).all fun s => match s with
  | .lck _ => false
  | _ => true
def isDic : Slot → Bool
  | .dicT _ => true
  | .dicK _ => true
  | _ => false
def keysK : List D → Option (List (Sum Int Str))
  | [] => some []
  | d :: r => (keyK d).bind fun k => (keysK r).map (k :: ·)
def keyT : D → Option (List (Sum Int Str))
  | .tuple l => keysK l
  | _ => none
def noDic : Env → Bool
  | [] => true
  | .dicT _ :: _ => false
  | .dicK _ :: _ => false
  | .ins _ :: _ => false
  | .exs _ :: _ => false
  | _ :: r => noDic r
mutual
/-- no list, no dict within -/
def noList : D → Bool
  | .list _ => false
  | .dict _ => false
  | .tuple l => noLists l
  | _ => true
def noLists : List D → Bool
  | [] => true
  | d :: r => noList d && noLists r
end
abbrev CallS := Nat → Option (List D) → List D → R (D × List D)
def lcLoop (bind : D → Env → Option Env) (cond elt : Env → R (D × Env)) : List D → Env → List D → R (List D × Env)
  | [], r, acc => .ok (acc.reverse, r)
  | x :: xs, r, acc =>
    match bind x r with
    | none => .stuck
    | some r1 =>
      match cond r1 with
      | .ok (.bool true, r2) =>
        match elt r2 with
        | .ok (d, r3) => if nd d then lcLoop bind cond elt xs r3 (d :: acc) else .stuck
        | _ => .stuck
      | .ok (.bool false, r2) => lcLoop bind cond elt xs r2 acc
      | _ => .stuck
def dcLoop (bind : D → Env → Option Env) (key elt : Env → R (D × Env)) : List D → Env → List (D × D) → R (List (D × D) × Env)
  | [], r, acc => .ok (acc, r)
  | x :: xs, r, acc =>
    match bind x r with
    | none => .stuck
    | some r1 =>
      match key r1 with
      | .ok (k, r2) =>
        match elt r2 with
        | .ok (d, r3) => if nd d && (keyK k).isSome && decide (acc.length < lim) then dcLoop bind key elt xs r3 (putD acc k d) else .stuck
        | _ => .stuck
      | _ => .stuck
section
variable (call : CallS)
def den : E → Env → R (D × Env)
  | .var i, r => match getS r i with
    | .sh d => .ok (d, r)
    | .own l => .ok (.list l, putS r i (.sh (.list l)))
    | _ => .stuck
  | .lit d, r => .ok (d, r)
  | .nil, r => .ok (.list [], r)
  | .cons a b, r => (den a r).bind fun (x, r1) => (den b r1).bind fun (y, r2) => match y with
    | .list l => .ok (.list (x :: l), r2)
    | _ => .stuck
  | .op o a, r => (den a r).bind fun (x, r1) => match x with
    | .list l => (R.opt (opD o l)).bind fun d => .ok (d, r1)
    | _ => .stuck
  | .call f a, r => (den a r).bind fun (x, r1) => match x with
    | .list l => (call f none l).bind fun (d, _) => .ok (d, r1)
    | _ => .stuck
  | .callIO f i a, r => if isOwnL (getS r i) then (den a r).bind fun (x, r1) => match x, getS r1 i with
    | .list l, .own m => match call f (some m) l with
      | .ok (d, m') => .ok (d, putS r1 i (.own m'))
      | _ => .stuck
    | _, _ => .stuck
    else .stuck
  | .and a b, r => (den a r).bind fun (x, r1) => match x with
    | .bool true => den b r1
    | .bool false => .ok (.bool false, r1)
    | _ => .stuck
  | .or a b, r => (den a r).bind fun (x, r1) => match x with
    | .bool true => .ok (.bool true, r1)
    | .bool false => den b r1
    | _ => .stuck
  | .ife c a b, r => (den c r).bind fun (x, r1) => match x with
    | .bool true => den a r1
    | .bool false => den b r1
    | _ => .stuck
  | .chain o1 o2 a b c, r => (den a r).bind fun (x, r1) => (den b r1).bind fun (y, r2) => match opD o1 [x, y] with
    | some (.bool true) => (den c r2).bind fun (z, r3) => (R.opt (opD o2 [y, z])).bind fun d => .ok (d, r3)
    | some (.bool false) => .ok (.bool false, r2)
    | _ => .stuck
  | .it k a, r => (den a r).bind fun (x, r1) => match x with
    | .list l => (R.opt (itD k l)).bind fun d => .ok (.list d, r1)
    | _ => .stuck
  | .lc own tg src cond elt, r => (den src r).bind fun (x, r1) => match x with
    | .list l => (lcLoop (fun d r => bindT tg d (wipeE r own)) (den cond) (den elt) l r1 []).bind fun (ys, r2) => if ys.length ≤ lim then .ok (.list ys, backE r2 r1 own) else .stuck
    | _ => .stuck
  | .dc own tg src key elt, r => (den src r).bind fun (x, r1) => match x with
    | .list l => (dcLoop (fun d r => bindT tg d (wipeE r own)) (den key) (den elt) l r1 []).bind fun (ys, r2) => .ok (.dict ys, backE r2 r1 own)
    | _ => .stuck
  | .dkeys i, r => match getS r i with
    | .dicK kvs => if kvs.length ≤ lim then .ok (.list (kvs.map (·.1)), r) else .stuck
    | _ => .stuck
  | .peek a, r => if noDic r then match den a (frzE r) with
    | .ok (d, _) => if noList d then .ok (d, r) else .stuck
    | _ => .stuck
    else .stuck
  | .oitem i a, r => if isOwnL (getS r i) then (den a r).bind fun (x, r1) => match x, getS r1 i with
    | .int k, .own l => (R.opt ((ixOf l.length k).bind fun j => l[j]?)).bind fun d => .ok (d, r1)
    | _, _ => .stuck
    else .stuck
  | .dIn i a, r => (den a r).bind fun (x, r1) => match getS r1 i with
    | .dicT kvs => if (keyT x).isSome then .ok (.bool (lookD kvs x).isSome, r1) else .stuck
    | .dicK kvs => if (keyK x).isSome then .ok (.bool (lookD kvs x).isSome, r1) else .stuck
    | _ => .stuck
  | .meth o a b, r => (den a r).bind fun (x, r1) => match x with
    | .str z => (den b r1).bind fun (y, r2) => match y with
      | .list l => (R.opt (opD o (.str z :: l))).bind fun d => .ok (d, r2)
      | _ => .stuck
    | _ => .stuck
  | .lmeth o a b, r => (den a r).bind fun (x, r1) => match x with
    | .list z => (den b r1).bind fun (y, r2) => match y with
      | .list l => (R.opt (opD o (.list z :: l))).bind fun d => .ok (d, r2)
      | _ => .stuck
    | _ => .stuck
  | .slcL a lo, r => (den a r).bind fun (x, r1) => (den lo r1).bind fun (y, r2) => if isI y then (R.opt (opD .slice [x, y, .none])).bind fun d => .ok (d, r2) else .stuck
  | .slcH a hi, r => (den a r).bind fun (x, r1) => (den hi r1).bind fun (y, r2) => if isI y then (R.opt (opD .slice [x, .none, y])).bind fun d => .ok (d, r2) else .stuck
  | .slcB a lo hi, r => (den a r).bind fun (x, r1) => (den lo r1).bind fun (y, r2) => if isI y then (den hi r2).bind fun (z, r3) => if isI z then (R.opt (opD .slice [x, y, z])).bind fun d => .ok (d, r3) else .stuck else .stuck
  | .told a, r => match den a (hidE r) with
    | .ok (d, _) => .ok (d, r)
    | .exc c => if c < 13 then .ok (.tuple [.str (Str.ofString "error"), .str (excName c)], r) else .stuck
    | .stuck => .stuck
  | .fld i k, r => match getS r i with
    | .ins l => (R.opt l[k]?).bind fun d => .ok (d, r)
    | .lck l => (R.opt l[k]?).bind fun d => .ok (d, r)
    | _ => .stuck
  | .newI f a, r => (den a r).bind fun (x, r1) => match x with
    | .list l => match call f (some []) l with
      | .ok (_, m) => .ok (.list m, r1)
      | .exc c => .exc c
      | .stuck => .stuck
    | _ => .stuck
  | .insC f i a, r => (den a r).bind fun (x, r1) => match x, getS r1 i with
    | .list l, .ins m => match call f (some m) l with
      | .ok (d, m') => .ok (d, putS r1 i (.ins m'))
      | _ => .stuck
    | _, _ => .stuck
  | .two f i j a, r => if isOwnL (getS r i) then (den a r).bind fun (x, r1) => match x, getS r1 i, getS r1 j with
    | .list l, .own m, .ins k => match call f (some [.list m, .list k]) l with
      | .ok (d, [.list m', .list k']) => .ok (d, putS (putS r1 i (.own m')) j (.ins k'))
      | _ => .stuck
    | _, _, _ => .stuck
    else .stuck
  | .toldM f i a, r => match den a (hidE r), getS r i with
    | .ok (.list l, _), .ins m => match call f (some m) l with
      | .ok (d, m') => .ok (d, putS r i (.ins m'))
      | .exc c => if c < 13 then .ok (.tuple [.str (Str.ofString "error"), .str (excName c)], r) else .stuck
      | .stuck => .stuck
    | _, _ => .stuck
  | .tmpM f0 f a b, r => (den a r).bind fun (x, r1) => match x with
    | .list l => match call f0 (some []) l with
      | .ok (_, m) => (den b r1).bind fun (y, r2) => match y with
        | .list k => match call f (some m) k with
          | .ok (d, _) => .ok (d, r2)
          | .exc c => .exc c
          | .stuck => .stuck
        | _ => .stuck
      | .exc c => .exc c
      | .stuck => .stuck
    | _ => .stuck
  | .metAll i, r => match getS r i with
    | .exs l => if l.length ≤ 13 then .ok (.bool (decide (l = List.range l.length)), r) else .stuck
    | _ => .stuck
inductive RS where
  | nxt (r : Env)
  | ret (d : D) (r : Env)
  | exc (c : Nat)
  | stuck
def forLoop (bind : D → Env → Option Env) (body : Env → RS) : List D → Env → RS
  | [], r => .nxt r
  | x :: xs, r => match bind x r with
    | none => .stuck
    | some r1 => match body r1 with
      | .nxt r2 => forLoop bind body xs r2
      | o => o
def whileLoop (cond : Env → R (D × Env)) (body : Env → RS) : Nat → Env → RS
  | 0, _ => .stuck
  | n + 1, r => match cond r with
    | .ok (.bool true, r1) => match body r1 with
      | .nxt r2 => whileLoop cond body n r2
      | o => o
    | .ok (.bool false, r1) => .nxt r1
    | .exc c => .exc c
    | _ => .stuck
/-- how a value is held: 0 shared, 1 an owned list, 2 and 3 an owned dict (keys tuples; keys texts, ints) -/
def slotM : Nat → D → Option Slot
  | 0, d => some (.sh d)
  | 1, .list l => some (.own l)
  | 2, .dict [] => some (.dicT [])
  | 3, .dict [] => some (.dicK [])
  | 4, .list l => some (.ins l)
  | _, _ => none
/-- the values to their places -/
def putPar : List (Nat × Nat) → List D → Env → Option Env
  | [], [], r => some r
  | (i, m) :: is, d :: ds, r => match slotM m d with
    | some s => putPar is ds (putS r i s)
    | none => none
  | _, _, _ => none
def denS : S → Env → RS
  | .skip, r => .nxt r
  | .seq a b, r => match denS a r with
    | .nxt r1 => denS b r1
    | o => o
  | .asg tg e, r => match den call e r with
    | .ok (d, r1) => match bindT tg d r1 with
      | some r2 => .nxt r2
      | none => .stuck
    | .exc c => .exc c
    | .stuck => .stuck
  | .asgM i m e, r => match den call e r with
    | .ok (d, r1) => match slotM m d with
      | some s => .nxt (putS r1 i s)
      | none => .stuck
    | .exc c => .exc c
    | .stuck => .stuck
  | .par is e, r => match den call e r with
    | .ok (.list ds, r1) => match putPar is ds r1 with
      | some r2 => .nxt r2
      | none => .stuck
    | .exc c => .exc c
    | _ => .stuck
  | .append i e, r => if isOwnL (getS r i) then match den call e r with
      | .ok (d, r1) => match getS r1 i with
        | .own l => if l.length < lim ∧ nd d = true then .nxt (putS r1 i (.own (l ++ [d]))) else .stuck
        | _ => .stuck
      | .exc c => .exc c
      | .stuck => .stuck
    else .stuck
  | .store i k e, r => if isOwnL (getS r i) then match den call e r with
      | .ok (d, r1) => match den call k r1 with
        | .ok (.int j, r2) => match getS r2 i with
          | .own l => if nd d then match ixOf l.length j with
              | some p => .nxt (putS r2 i (.own (l.set p d)))
              | none => .stuck
            else .stuck
          | _ => .stuck
        | .exc c => .exc c
        | _ => .stuck
      | .exc c => .exc c
      | .stuck => .stuck
    else .stuck
  | .sto2 i k1 k2 e, r => match den call e r with
    | .ok (.tuple [d1, d2], r1) => if nd d1 && nd d2 then match (sto i k1 d1 r1).bind (sto i k2 d2) with
        | some r3 => .nxt r3
        | none => .stuck
      else .stuck
    | .exc c => .exc c
    | _ => .stuck
  | .dput i k e, r => if isDic (getS r i) then match den call e r with
      | .ok (d, r1) => match den call k r1 with
        | .ok (x, r2) => match getS r2 i with
          | .dicT kvs => if kvs.length < lim ∧ nd d = true ∧ (keyT x).isSome = true then .nxt (putS r2 i (.dicT (putD kvs x d))) else .stuck
          | .dicK kvs => if kvs.length < lim ∧ nd d = true ∧ (keyK x).isSome = true then .nxt (putS r2 i (.dicK (putD kvs x d))) else .stuck
          | _ => .stuck
        | .exc c => .exc c
        | .stuck => .stuck
      | .exc c => .exc c
      | .stuck => .stuck
    else .stuck
  | .expr e, r => match den call e r with
    | .ok (_, r1) => .nxt r1
    | .exc c => .exc c
    | .stuck => .stuck
  | .ret e, r => match den call e r with
    | .ok (d, r1) => .ret d r1
    | .exc c => .exc c
    | .stuck => .stuck
  | .ifs c a b, r => match den call c r with
    | .ok (.bool true, r1) => denS a r1
    | .ok (.bool false, r1) => denS b r1
    | .exc c => .exc c
    | _ => .stuck
  | .for_ tg src b, r => match den call src r with
    | .ok (.list l, r1) => forLoop (bindT tg) (denS b) l r1
    | .exc c => .exc c
    | _ => .stuck
  | .forO i tg b, r => match getS r i with
    | .own l => match forLoop (bindT tg) (denS b) l (putS r i .un) with
      | .nxt r1 => .nxt (putS r1 i (.own l))
      | _ => .stuck
    | _ => .stuck
  | .while_ n c b, r => whileLoop (den call c) (denS b) n r
  | .raise c, _ => .exc c
  | .fset i k e, r => match den call e r with
    | .ok (d, r1) => match getS r1 i with
      | .ins l => if nd d then (if k < l.length then .nxt (putS r1 i (.ins (l.set k d))) else if k = l.length ∧ k < 3 then .nxt (putS r1 i (.ins (l ++ [d]))) else .stuck) else .stuck
      | _ => .stuck
    | .exc c => .exc c
    | .stuck => .stuck
  | .fin a, r => match getS r 0 with
    | .lck l => if oneLck r then match denS a (putS r 0 (.ins l)) with
      | .exc _ => .stuck
      | o => o
      else .stuck
    | _ => .stuck
  | .metN i e, r => match den call e (hidE r) with
    | .exc c => if c < 13 then .nxt (putS r i (.exs [c])) else .stuck
    | _ => .stuck
  | .metA i e, r => match getS r i, den call e (hidE r) with
    | .exs l, .exc c => if c < 13 ∧ l.length < 1000 then .nxt (putS r i (.exs (l ++ [c]))) else .stuck
    | _, _ => .stuck
end
/-- a def: how many parameters, how many places, whether its first parameter is a list that it changes -/
structure FDef where
  np : Nat
  ns : Nat
  io : Bool
  body : S
/-- np + 100: the first parameter is an instance that is locked at first; + 200: one that may change; + 300: a list and an instance -/
def entry (fd : FDef) (own : Option (List D)) (args : List D) : Option (Env × Nat) :=
  match own with
  | none => if fd.io = false ∧ args.length = fd.np then some (args.map .sh ++ List.replicate (fd.ns - fd.np) .un, 0) else none
  | some m => if fd.io = true ∧ args.length + 1 = fd.np then some (.own m :: args.map .sh ++ List.replicate (fd.ns - fd.np) .un, 0) else
    if fd.io = true ∧ args.length + 101 = fd.np then some (.lck m :: args.map .sh ++ List.replicate (fd.ns - (fd.np - 100)) .un, 1) else
    if fd.io = true ∧ args.length + 201 = fd.np then some (.ins m :: args.map .sh ++ List.replicate (fd.ns - (fd.np - 200)) .un, 1) else
    if fd.io = true ∧ args.length + 302 = fd.np then match m with
      | [.list a, .list b] => some (.own a :: .ins b :: args.map .sh ++ List.replicate (fd.ns - (fd.np - 300)) .un, 2)
      | _ => none
    else none
/-- the owned parameters behind it -/
@[simp] def behind (kind : Nat) (r : Env) (d : D) : R (D × List D) := match kind with
  | 0 => match getS r 0 with
    | .own m => .ok (d, m)
    | _ => .stuck
  | 1 => match getS r 0 with
    | .ins m => .ok (d, m)
    | .lck m => .ok (d, m)
    | _ => .stuck
  | _ => match getS r 0, getS r 1 with
    | .own m, .ins k => .ok (d, [.list m, .list k])
    | _, _ => .stuck
def endOf (two : Nat) (own : Option (List D)) : RS → R (D × List D)
  | .nxt r => match own with
    | none => .ok (.none, [])
    | some _ => behind two r .none
  | .ret d r => match own with
    | none => .ok (d, [])
    | some _ => behind two r d
  | .exc c => .exc c
  | .stuck => .stuck
/-- the meaning of the defs, to a depth of n calls -/
def run (T : Nat → Option FDef) : Nat → CallS
  | 0 => fun _ _ _ => .stuck
  | n + 1 => fun f own args => match T f with
    | none => .stuck
    | some fd => match entry fd own args with
      | none => .stuck
      | some (r, two) => endOf two own (denS (run T n) fd.body r)
end Bm
end
section
set_option Elab.async false
set_option linter.all false
set_option maxRecDepth 100000
set_option maxHeartbeats 1000000
namespace Bm
open PySem PySem.Spec L2
mutual
/-- v is the datum d, by what stands in F -/
inductive Dp (K : PySem.W.Frag) (F : Hp) : V → PyData → Prop
  | non : Dp K F .non .none
  | bl (b : Bool) : Dp K F (.bl b) (.bool b)
  | int (i : Int) : Dp K F (.int i) (.int i)
  | str (x : Str) : Dp K F (.str x) (.str x)
  | lst {a : Addr} {xs : List V} {ds : List PyData} : F a = some (.lst xs) → DpAll K F xs ds → Dp K F (.ref a) (.list ds)
  | tup {a : Addr} {xs : List V} {ds : List PyData} : F a = some (.tup xs) → DpAll K F xs ds → Dp K F (.ref a) (.tuple ds)
inductive DpAll (K : PySem.W.Frag) (F : Hp) : List V → List PyData → Prop
  | nil : DpAll K F [] []
  | cons {v : V} {vs : List V} {d : PyData} {ds : List PyData} : Dp K F v d → DpAll K F vs ds → DpAll K F (v :: vs) (d :: ds)
end
def keyD : Key → D
  | .inl i => .int i
  | .inr s => .str s
def DictAt (K : PySem.W.Frag) (F : Hp) (v : V) (kvs : List (D × D)) : Prop :=
  ∃ (a : Addr) (kv : List (Key × V)), v = .ref a ∧ F a = some (.dK kv) ∧ Paired (fun (p : Key × V) (q : D × D) => keyD p.1 = q.1 ∧ Dp K F p.2 q.2) kv kvs
def Dn (K : PySem.W.Frag) (F : Hp) (v : V) : D → Prop
  | .dict kvs => DictAt K F v kvs
  | d => Dp K F v d
mutual
theorem dp_same {K : PySem.W.Frag} {F F' : Hp} (e : Same F F') : ∀ (d : D) (v : V), Dp K F v d → Dp K F' v d
  | .none, _, h => by cases h; exact .non
  | .bool _, _, h => by cases h; exact .bl _
  | .int _, _, h => by cases h; exact .int _
  | .str _, _, h => by cases h; exact .str _
  | .list ds, _, h => by cases h with | lst h1 h2 => exact .lst (e _ _ h1) (dpa_same e ds _ h2)
  | .tuple ds, _, h => by cases h with | tup h1 h2 => exact .tup (e _ _ h1) (dpa_same e ds _ h2)
  | .dict _, _, h => by cases h
theorem dpa_same {K : PySem.W.Frag} {F F' : Hp} (e : Same F F') : ∀ (ds : List D) (vs : List V), DpAll K F vs ds → DpAll K F' vs ds
  | [], _, h => by cases h; exact .nil
  | d :: ds, _, h => by cases h with | cons h1 h2 => exact .cons (dp_same e d _ h1) (dpa_same e ds _ h2)
end
mutual
theorem Dp.l2 {K : PySem.W.Frag} {F H : Hp} (e : Same F H) : ∀ (d : D) (v : V), Dp K F v d → L2.Dp K H v d
  | .none, _, h => by cases h; exact .non
  | .bool _, _, h => by cases h; exact .bl _
  | .int _, _, h => by cases h; exact .int _
  | .str _, _, h => by cases h; exact .str _
  | .list ds, _, h => by cases h with | lst h1 h2 => exact .lst (.inl (.inl (e _ _ h1))) (DpAll.l2 e ds _ h2)
  | .tuple ds, _, h => by cases h with | tup h1 h2 => exact .tup (.inl (.inl (e _ _ h1))) (DpAll.l2 e ds _ h2)
  | .dict _, _, h => by cases h
theorem DpAll.l2 {K : PySem.W.Frag} {F H : Hp} (e : Same F H) : ∀ (ds : List D) (vs : List V), DpAll K F vs ds → L2.DpAll K H vs ds
  | [], _, h => by cases h; exact .nil
  | d :: ds, _, h => by cases h with | cons h1 h2 => exact .cons (Dp.l2 e d _ h1) (DpAll.l2 e ds _ h2)
end
theorem paired_imp {α β : Type} {P Q : α → β → Prop} (f : ∀ a b, P a b → Q a b) : ∀ {l : List α} {m : List β}, Paired P l m → Paired Q l m
  | _, _, .nil => .nil
  | _, _, .cons h t => .cons (f _ _ h) (paired_imp f t)
theorem dn_same {K : PySem.W.Frag} {F F' : Hp} (e : Same F F') {d : D} {v : V} (h : Dn K F v d) : Dn K F' v d := by
  cases d with
  | dict kvs =>
    obtain ⟨a, kv, hv, ha, p⟩ := h
    exact ⟨a, kv, hv, e _ _ ha, paired_imp (fun _ _ q => ⟨q.1, dp_same e _ _ q.2⟩) p⟩
  | none => exact dp_same e _ _ h
  | bool b => exact dp_same e _ _ h
  | int b => exact dp_same e _ _ h
  | str b => exact dp_same e _ _ h
  | list b => exact dp_same e _ _ h
  | tuple b => exact dp_same e _ _ h
theorem Dn.of {K : PySem.W.Frag} {F : Hp} {d : D} {v : V} (h : Dp K F v d) : Dn K F v d := by
  cases d with
  | dict kvs => cases h
  | none => exact h
  | bool b => exact h
  | int b => exact h
  | str b => exact h
  | list b => exact h
  | tuple b => exact h
theorem Dn.dp {K : PySem.W.Frag} {F : Hp} {d : D} {v : V} (h : Dn K F v d) (n : ∀ kvs, d ≠ .dict kvs) : Dp K F v d := by
  cases d with
  | dict kvs => exact absurd rfl (n kvs)
  | none => exact h
  | bool b => exact h
  | int b => exact h
  | str b => exact h
  | list b => exact h
  | tuple b => exact h
theorem dpa_len {K : PySem.W.Frag} {F : Hp} : ∀ {ds : List D} {vs : List V}, DpAll K F vs ds → vs.length = ds.length
  | _, _, .nil => rfl
  | _, _, .cons _ t => congrArg (· + 1) (dpa_len t)
theorem dpa_get {K : PySem.W.Frag} {F : Hp} : ∀ {ds : List D} {vs : List V} {i : Nat} {d : D}, DpAll K F vs ds → ds[i]? = some d → ∃ v, vs[i]? = some v ∧ Dp K F v d
  | _, _, _, _, .nil, e => by simp at e
  | _, _, 0, _, .cons h _, e => by simp at e; subst e; exact ⟨_, rfl, h⟩
  | _, _, i + 1, d, .cons _ t, e => by
    obtain ⟨v, h1, h2⟩ := dpa_get (i := i) (d := d) t (by simpa using e)
    exact ⟨v, by simpa using h1, h2⟩
theorem dpa_app {K : PySem.W.Frag} {F : Hp} : ∀ {ds es : List D} {vs us : List V}, DpAll K F vs ds → DpAll K F us es → DpAll K F (vs ++ us) (ds ++ es)
  | _, _, _, _, .nil, h => h
  | _, _, _, _, .cons h t, q => .cons h (dpa_app t q)
theorem dpa_set {K : PySem.W.Frag} {F : Hp} {d : D} {v : V} (q : Dp K F v d) : ∀ {ds : List D} {vs : List V} (i : Nat), DpAll K F vs ds → DpAll K F (vs.set i v) (ds.set i d)
  | _, _, _, .nil => .nil
  | _, _, 0, .cons _ t => .cons q t
  | _, _, i + 1, .cons h t => .cons h (dpa_set q i t)
theorem dpa_take {K : PySem.W.Frag} {F : Hp} : ∀ {ds : List D} {vs : List V} (n : Nat), DpAll K F vs ds → DpAll K F (vs.take n) (ds.take n)
  | _, _, 0, _ => .nil
  | _, _, _ + 1, .nil => .nil
  | _, _, n + 1, .cons h t => .cons h (dpa_take n t)
theorem dpa_drop {K : PySem.W.Frag} {F : Hp} : ∀ {ds : List D} {vs : List V} (n : Nat), DpAll K F vs ds → DpAll K F (vs.drop n) (ds.drop n)
  | _, _, 0, h => h
  | _, _, _ + 1, .nil => .nil
  | _, _, n + 1, .cons _ t => dpa_drop n t
def isMut : HO → Prop
  | .lst _ => True
  | .dK _ => True
  | .dT _ => True
  | .ins _ _ _ => True
  | _ => False
/-- kept: as it is, or a table still -/
def KO (o : HO) (x : Option HO) : Prop := x = some o ∨ ((∃ ps, o = .tbl ps) ∧ ∃ ps, x = some (.tbl ps))
theorem KO.refl {o : HO} {x : Option HO} (h : x = some o) : KO o x := .inl h
theorem KO.trans {o : HO} {x y : Option HO} (a : KO o x) (b : ∀ o', x = some o' → KO o' y) : KO o y := by
  rcases a with a | ⟨a, ps, e⟩
  · exact b o a
  · rcases b _ e with b | ⟨_, ps', b⟩
    · exact .inr ⟨a, ps, b⟩
    · exact .inr ⟨a, ps', b⟩
theorem KO.ex {o : HO} {x : Option HO} (a : KO o x) : ∃ o', x = Option.some o' := by
  rcases a with a | ⟨a, ps, e⟩
  · exact ⟨_, a⟩
  · exact ⟨_, e⟩
theorem KO.mut {o : HO} {x : Option HO} (a : KO o x) (m : isMut o) : x = some o := by
  rcases a with a | ⟨⟨ps, e⟩, _⟩
  · exact a
  · rw [e] at m; exact m.elim
def TupKV (K : PySem.W.Frag) (F : Hp) (kv : List (List Key × V)) (kvs : List (D × D)) : Prop := Paired (fun (p : List Key × V) (q : D × D) => PyData.tuple (p.1.map keyD) = q.1 ∧ Dp K F p.2 q.2) kv kvs ∧ (kv.map (·.1)).Nodup
def KeyKV (K : PySem.W.Frag) (F : Hp) (kv : List (Key × V)) (kvs : List (D × D)) : Prop := Paired (fun (p : Key × V) (q : D × D) => keyD p.1 = q.1 ∧ Dp K F p.2 q.2) kv kvs ∧ (kv.map (·.1)).Nodup
/-- the one class whose instances are walked -/
def dkC (K : PySem.W.Frag) : Addr := match PySem.W.nsIn K mainGlobals "Desk" with
  | some (some (.ref a)) => a
  | _ => 0
def dkNames : List Str := ["now", "earlier", "undone"]
def dkF (vs : List V) : List (Str × V) := dkNames.zip vs
/-- an instance with these fields -/
def InsAt (K : PySem.W.Frag) (F H : Hp) (p : Addr) (l : List D) : Prop := ∃ (dx : Addr) (vs : List V), H p = some (.ins (dkC K) dx (dkF vs)) ∧ vs.length ≤ 3 ∧ DpAll K F vs l
/-- exceptions of these classes, in order -/
def exT (ca : Nat → Addr) (k : Nat) (a : Addr) (h : Heap) : Prop := ∃ oe : Obj, h.get? a = some oe ∧ oe.cls = .ref (ca k) ∧ oe.dict = none ∧ ∃ vs, oe.data = .fields vs
def exCa (K : PySem.W.Frag) (k : Nat) : Addr := match PySem.W.nsIn K mainGlobals (["InvalidMap", "InvalidBorder", "InvalidPoint", "InvalidPlace", "InvalidLand", "InvalidCount", "InvalidText", "Bridge", "Loop", "LastBorder", "TooLarge", "OtherLand", "NothingToUndo"].getD k "") with
  | some (some (.ref a)) => a
  | _ => 0
def ExcAll (K : PySem.W.Frag) (H : Hp) : List V → List Nat → Prop := Paired fun v k => k < 13 ∧ ∃ a, v = .ref a ∧ H a = some (.ext (exT (exCa K) k a))
def SlotOk (K : PySem.W.Frag) (F H : Hp) : Slot → Option V → Prop
  | .un, _ => True
  | .sh d, o => ∃ v, o = some v ∧ Dn K F v d
  | .own l, o => ∃ (a : Addr) (vs : List V), o = some (.ref a) ∧ F a = none ∧ H a = some (.lst vs) ∧ DpAll K F vs l
  | .dicT kvs, o => ∃ (a : Addr) (kv : List (List Key × V)), o = some (.ref a) ∧ F a = none ∧ H a = some (.dT kv) ∧ TupKV K F kv kvs
  | .dicK kvs, o => ∃ (a : Addr) (kv : List (Key × V)), o = some (.ref a) ∧ F a = none ∧ H a = some (.dK kv) ∧ KeyKV K F kv kvs
  | .ins l, o => ∃ p : Addr, o = some (.ref p) ∧ F p = none ∧ InsAt K F H p l
  | .lck l, o => ∃ p : Addr, o = some (.ref p) ∧ InsAt K F F p l
  | .exs l, o => ∃ (a : Addr) (vs : List V), o = some (.ref a) ∧ F a = none ∧ H a = some (.lst vs) ∧ ExcAll K H vs l
def isOwn : Slot → Bool
  | .un => false
  | .sh _ => false
  | .lck _ => false
  | _ => true
def vAt (σ : St) (i : Nat) : Option V := (σ[i]?).join
def OwnAt (r : Env) (σ : St) (i : Nat) (a : Addr) : Prop := isOwn (getS r i) = true ∧ vAt σ i = some (.ref a)
def Own (r : Env) (σ : St) (a : Addr) : Prop := ∃ i, OwnAt r σ i a
/-- the entry of the def: the heap, what is frozen in it, what may be changed -/
structure Ent where
  H0 : Hp
  F0 : Hp
  O0 : Addr → Prop
  P0 : Nat → Option V → Prop
/-- every place but those in L is free -/
abbrev Free (W : Ent) (L : List Nat) : Prop := ∀ i, i ∉ L → ∀ o, W.P0 i o
/-- all but the changeable is kept -/
def Kp (W : Ent) (F H : Hp) : Prop := ∀ b o, W.H0 b = some o → ¬ W.O0 b → F b = W.F0 b ∧ KO o (H b)
structure Cfg where
  J : Hp → Prop
  hJ : ∀ H H' : Hp, (∀ b o, H b = some o → H' b = some o ∨ isMut o) → J H → J H'
  W : Ent
  call : CallS
  E : XK
  cl : Nat → Value
structure Rel (K : PySem.W.Frag) (r : Env) (σ : St) (H F : Hp) : Prop where
  len : r.length = σ.length
  same : Same F H
  ok : ∀ i, SlotOk K F H (getS r i) (vAt σ i)
  inj : ∀ i j a, OwnAt r σ i a → OwnAt r σ j a → i = j
/-- the state between two steps -/
structure Stt (K : PySem.W.Frag) (c : Cfg) (r : Env) (σ : St) (H F : Hp) : Prop where
  rel : Rel K r σ H F
  tie : c.J H
  kp : Kp c.W F H
  own : ∀ b, Own r σ b → c.W.O0 b ∨ c.W.H0 b = none
  pin : ∀ i, c.W.P0 i (vAt σ i)
/-- these places may be written -/
def ZOk (c : Cfg) (is : List Nat) : Prop := ∃ L, Free c.W L ∧ ∀ i ∈ is, i ∉ L
theorem ZOk.head {c : Cfg} {i : Nat} {is : List Nat} (h : ZOk c (i :: is)) : ZOk c [i] := let ⟨L, f, n⟩ := h; ⟨L, f, fun j hj => by rw [List.mem_singleton.mp hj]; exact n i List.mem_cons_self⟩
theorem ZOk.tail {c : Cfg} {i : Nat} {is : List Nat} (h : ZOk c (i :: is)) : ZOk c is := let ⟨L, f, n⟩ := h; ⟨L, f, fun j hj => n j (List.mem_cons_of_mem _ hj)⟩
theorem ZOk.at {c : Cfg} {is : List Nat} (h : ZOk c is) {i : Nat} (hi : i ∈ is) (o : Option V) : c.W.P0 i o := let ⟨L, f, n⟩ := h; f i (n i hi) o
/-- what an expression leaves: all but what the places own -/
def Ef (r : Env) (σ : St) (F H F' H' : Hp) : Prop := ∀ b o, H b = some o → ¬ Own r σ b → F' b = F b ∧ KO o (H' b)
theorem own_mut {K : PySem.W.Frag} {r : Env} {σ : St} {H F : Hp} (x : Rel K r σ H F) {a : Addr} (h : Own r σ a) : F a = none ∧ ∃ o, H a = some o ∧ isMut o := by
  obtain ⟨i, h1, h2⟩ := h
  have q := x.ok i
  cases e : getS r i with
  | un => rw [e] at h1; cases h1
  | sh d => rw [e] at h1; cases h1
  | own l =>
    rw [e] at q
    obtain ⟨b, vs, e1, e2, e3, _⟩ := q
    rw [h2] at e1; cases e1
    exact ⟨e2, _, e3, trivial⟩
  | dicT l =>
    rw [e] at q
    obtain ⟨b, vs, e1, e2, e3, _⟩ := q
    rw [h2] at e1; cases e1
    exact ⟨e2, _, e3, trivial⟩
  | dicK l =>
    rw [e] at q
    obtain ⟨b, vs, e1, e2, e3, _⟩ := q
    rw [h2] at e1; cases e1
    exact ⟨e2, _, e3, trivial⟩
  | ins l =>
    rw [e] at q
    obtain ⟨b, e1, e2, dx, vs, e3, _⟩ := q
    rw [h2] at e1; cases e1
    exact ⟨e2, _, e3, trivial⟩
  | lck l => rw [e] at h1; cases h1
  | exs l =>
    rw [e] at q
    obtain ⟨b, vs, e1, e2, e3, _⟩ := q
    rw [h2] at e1; cases e1
    exact ⟨e2, _, e3, trivial⟩
theorem Ef.same {K : PySem.W.Frag} {r : Env} {σ : St} {H F F' H' : Hp} (x : Rel K r σ H F) (e : Ef r σ F H F' H') : Same F F' := fun b o h => by
  have n : ¬ Own r σ b := fun q => by
    have := (own_mut x q).1
    rw [h] at this; cases this
  rw [(e b o (x.same b o h) n).1]
  exact h
theorem Ef.refl {r : Env} {σ : St} {H F : Hp} : Ef r σ F H F H := fun _ _ h _ => ⟨rfl, .inl h⟩
theorem Ef.trans {r r1 : Env} {σ : St} {H F H1 F1 H2 F2 : Hp} (a : Ef r σ F H F1 H1) (b : Ef r1 σ F1 H1 F2 H2) (s : ∀ a, Own r1 σ a → Own r σ a) : Ef r σ F H F2 H2 := fun c o h n => by
  have h1 := a c o h n
  have n1 : ¬ Own r1 σ c := fun q => n (s c q)
  obtain ⟨o1, e1⟩ := h1.2.ex
  refine ⟨(b c o1 e1 n1).1.trans h1.1, h1.2.trans fun o' e' => (b c o' e' n1).2⟩
/-- the owned ones become fewer, the rest is kept: still a state -/
theorem Stt.step {K : PySem.W.Frag} {c : Cfg} {r r' : Env} {σ : St} {H F H' F' : Hp} (x : Stt K c r σ H F) (rel : Rel K r' σ H' F') (j : c.J H') (e : Ef r σ F H F' H') (s : ∀ a, Own r' σ a → Own r σ a) : Stt K c r' σ H' F' := by
  refine ⟨rel, j, fun b o h n => ?_, fun b h => x.own b (s b h), x.pin⟩
  have h1 := x.kp b o h n
  have no : ¬ Own r σ b := fun q => by
    rcases x.own b q with q | q
    · exact n q
    · rw [h] at q; cases q
  obtain ⟨o1, e1⟩ := h1.2.ex
  exact ⟨(e b o1 e1 no).1.trans h1.1, h1.2.trans fun o' e' => (e b o' e' no).2⟩
/-- the exceptions of an owned list stand as before -/
def Aside (H H' : Hp) : Prop := ∀ a φ, H a = some (.ext φ) → H' a = some (.ext φ)
theorem Aside.refl {H : Hp} : Aside H H := fun _ _ h => h
theorem exc_all {K : PySem.W.Frag} {H H' : Hp} (e : ∀ a φ, H a = some (.ext φ) → H' a = some (.ext φ)) {vs : List V} {l : List Nat} (h : ExcAll K H vs l) : ExcAll K H' vs l := paired_imp (fun _ _ ⟨k, a, e1, e2⟩ => ⟨k, a, e1, e a _ e2⟩) h
theorem ins_same {K : PySem.W.Frag} {F F' H H' : Hp} (e : Same F F') {p : Addr} {l : List D} (hp : H' p = H p) (h : InsAt K F H p l) : InsAt K F' H' p l := by
  obtain ⟨dx, vs, h1, h2, h3⟩ := h
  exact ⟨dx, vs, hp.trans h1, h2, dpa_same e _ _ h3⟩
theorem slot_same {K : PySem.W.Frag} {F F' H H' : Hp} {s : Slot} {o : Option V} (e : Same F F') (h : ∀ a, isOwn s = true → o = some (.ref a) → F a = none → (∃ x, H a = some x ∧ isMut x) → F' a = none ∧ H' a = H a) (z : Aside H H') (q : SlotOk K F H s o) : SlotOk K F' H' s o := by
  cases s with
  | un => trivial
  | sh d =>
    obtain ⟨v, h1, h2⟩ := q
    exact ⟨v, h1, dn_same e h2⟩
  | own l =>
    obtain ⟨a, vs, h1, h2, h3, h4⟩ := q
    have z := h a rfl h1 h2 ⟨_, h3, trivial⟩
    exact ⟨a, vs, h1, z.1, z.2.trans h3, dpa_same e _ _ h4⟩
  | dicT l =>
    obtain ⟨a, vs, h1, h2, h3, h4⟩ := q
    have z := h a rfl h1 h2 ⟨_, h3, trivial⟩
    exact ⟨a, vs, h1, z.1, z.2.trans h3, paired_imp (fun _ _ q => ⟨q.1, dp_same e _ _ q.2⟩) h4.1, h4.2⟩
  | dicK l =>
    obtain ⟨a, vs, h1, h2, h3, h4⟩ := q
    have z := h a rfl h1 h2 ⟨_, h3, trivial⟩
    exact ⟨a, vs, h1, z.1, z.2.trans h3, paired_imp (fun _ _ q => ⟨q.1, dp_same e _ _ q.2⟩) h4.1, h4.2⟩
  | ins l =>
    obtain ⟨p, h1, h2, dx, vs, h3, h4⟩ := q
    have z := h p rfl h1 h2 ⟨_, h3, trivial⟩
    exact ⟨p, h1, z.1, ins_same e z.2 ⟨dx, vs, h3, h4⟩⟩
  | lck l =>
    obtain ⟨p, h1, dx, vs, h2, h3, h4⟩ := q
    exact ⟨p, h1, dx, vs, e _ _ h2, h3, dpa_same e _ _ h4⟩
  | exs l =>
    obtain ⟨a, vs, h1, h2, h3, h4⟩ := q
    have w := h a rfl h1 h2 ⟨_, h3, trivial⟩
    exact ⟨a, vs, h1, w.1, w.2.trans h3, exc_all z h4⟩
theorem KO.ext {φ : Heap → Prop} {x : Option HO} (a : KO (.ext φ) x) : x = some (.ext φ) := by
  rcases a with a | ⟨⟨ps, e⟩, _⟩
  · exact a
  · cases e
theorem aside_kp {F H F' H' : Hp} (kp : ∀ b o, H b = some o → F' b = F b ∧ KO o (H' b)) : Aside H H' := fun a φ h => (kp a _ h).2.ext
theorem aside_but {F H F' H' : Hp} {a : Addr} {u : HO} (ha : H a = some u) (mu : isMut u) (kp : ∀ b o, b ≠ a → H b = some o → F' b = F b ∧ KO o (H' b)) : Aside H H' := fun b φ h => (kp b _ (fun z => by subst z; rw [ha] at h; cases h; exact mu.elim) h).2.ext
theorem aside_upd {H : Hp} {a : Addr} {u o : HO} (ha : H a = some u) (mu : isMut u) : Aside H (upd H a o) := fun b φ h => by
  rw [upd_ne (fun z => ?_)]; exact h
  subst z; rw [ha] at h; cases h; exact mu.elim
theorem aside_ef {K : PySem.W.Frag} {r : Env} {σ : St} {F H F' H' : Hp} (x : Rel K r σ H F) (ef : Ef r σ F H F' H') : Aside H H' := fun b φ h => (ef b _ h fun z => by
  obtain ⟨_, o, ho, mu⟩ := own_mut x z
  rw [h] at ho; cases ho; exact mu.elim).2.ext
theorem same_upd {H : Hp} {p : Addr} {o : HO} (h : H p = none) : Same H (upd H p o) := fun b x e => by
  rw [upd_ne (ne_of_none e h)]
  exact e
/-- a callee has run, or a new object was made: nothing that stood is changed -/
structure Grow (F H F' H' : Hp) : Prop where
  same : Same F' H'
  kp : ∀ b o, H b = some o → F' b = F b ∧ KO o (H' b)
theorem Grow.refl {F H : Hp} (s : Same F H) : Grow F H F H := ⟨s, fun _ _ h => ⟨rfl, .inl h⟩⟩
theorem Grow.ef {F H F' H' : Hp} {r : Env} {σ : St} (g : Grow F H F' H') : Ef r σ F H F' H' := fun b o h _ => g.kp b o h
theorem Grow.sameF {F H F' H' : Hp} (g : Grow F H F' H') (s : Same F H) : Same F F' := fun b o h => by
  rw [(g.kp b o (s b o h)).1]; exact h
theorem Grow.alloc {F H : Hp} {p : Addr} {o : HO} (s : Same F H) (h : H p = none) : Grow F H (upd F p o) (upd H p o) := by
  refine ⟨fun b x e => ?_, fun b x e => ?_⟩
  · by_cases hb : b = p
    · subst hb; rw [upd_same] at e ⊢; exact e
    · rw [upd_ne hb] at e ⊢; exact s b x e
  · have hb : b ≠ p := ne_of_none e h
    rw [upd_ne hb, upd_ne hb]
    exact ⟨rfl, .inl e⟩
/-- an object laid that is not frozen -/
theorem Grow.lay {F H : Hp} {p : Addr} {o : HO} (s : Same F H) (h : H p = none) : Grow F H F (upd H p o) := by
  refine ⟨fun b x e => ?_, fun b x e => ?_⟩
  · rw [upd_ne (ne_of_none (s b x e) h)]; exact s b x e
  · rw [upd_ne (ne_of_none e h)]
    exact ⟨rfl, .inl e⟩
theorem Grow.rel {K : PySem.W.Frag} {r : Env} {σ : St} {F H F' H' : Hp} (g : Grow F H F' H') (x : Rel K r σ H F) : Rel K r σ H' F' :=
  ⟨x.len, g.same, fun i => slot_same (g.sameF x.same) (fun a _ _ hf ⟨o, ho, m⟩ => ⟨(g.kp a o ho).1.trans hf, ((g.kp a o ho).2.mut m).trans ho.symm⟩) (aside_kp g.kp) (x.ok i), x.inj⟩
theorem Grow.stt {K : PySem.W.Frag} {c : Cfg} {r : Env} {σ : St} {F H F' H' : Hp} (g : Grow F H F' H') (x : Stt K c r σ H F) (j : c.J H') : Stt K c r σ H' F' :=
  x.step (g.rel x.rel) j g.ef fun _ q => q
theorem Stt.jup {K : PySem.W.Frag} {c : Cfg} {r : Env} {σ : St} {F H : Hp} (x : Stt K c r σ H F) {p : Addr} {o : HO} (h : H p = none) : c.J (upd H p o) :=
  c.hJ H _ (fun b u e => .inl (same_upd h b u e)) x.tie
/-- what is wanted behind an expression that gives x -/
def OkE (K : PySem.W.Frag) (c : Cfg) (r : Env) (σ : St) (F H : Hp) (x : R (D × Env)) (Q : VK) : Prop :=
  match x with
  | .ok (d, r') => ∀ (v : V) (F' H' : Hp), Stt K c r' σ H' F' → Ef r σ F H F' H' → (∀ a, Own r' σ a → Own r σ a) → Dn K F' v d → Q v H'
  | .exc k => ∀ (F' H' : Hp), c.J H' → Same F' H' → Kp c.W F' H' → c.E (c.cl k) none H'
  | .stuck => False
def TEv (K : PySem.W.Frag) (c : Cfg) (m : E) : TE := fun σ H Q => ∃ F r, Stt K c r σ H F ∧ OkE K c r σ F H (den c.call m r) Q
theorem PE.mono {X : Cx} {e : Expr} {t u : TE} (h : PE X e t) (i : ∀ σ H Q, u σ H Q → t σ H Q) : PE X e u := ⟨fun pins s σ H Q I q => h.run pins s σ H Q I (i σ H Q q)⟩
theorem OkE.shift {K : PySem.W.Frag} {c : Cfg} {r r1 : Env} {σ : St} {F H F1 H1 : Hp} {y : R (D × Env)} {Q : VK} (h : OkE K c r σ F H y Q) (e : Ef r σ F H F1 H1) (s : ∀ a, Own r1 σ a → Own r σ a) : OkE K c r1 σ F1 H1 y Q := by
  cases y with
  | ok p => exact fun v F' H' x e' s' q => h v F' H' x (e.trans e' s) (fun a z => s a (s' a z)) q
  | exc k => exact h
  | stuck => exact h
/-- what stands between two parts -/
def Mid (K : PySem.W.Frag) (c : Cfg) (r : Env) (σ : St) (F H : Hp) (d : D) (r1 : Env) (v : V) (F1 H1 : Hp) : Prop :=
  Stt K c r1 σ H1 F1 ∧ Ef r σ F H F1 H1 ∧ (∀ a, Own r1 σ a → Own r σ a) ∧ Dn K F1 v d
theorem OkE.bind {K : PySem.W.Frag} {c : Cfg} {r : Env} {σ : St} {F H : Hp} {x : R (D × Env)} {f : D × Env → R (D × Env)} {Q Q' : VK} (h : OkE K c r σ F H (x.bind f) Q)
    (g : ∀ d r1 v F1 H1, Mid K c r σ F H d r1 v F1 H1 → OkE K c r1 σ F1 H1 (f (d, r1)) Q → Q' v H1) : OkE K c r σ F H x Q' := by
  cases x with
  | ok p =>
    obtain ⟨d, r1⟩ := p
    exact fun v F1 H1 x e s q => g d r1 v F1 H1 ⟨x, e, s, q⟩ (OkE.shift (y := f (d, r1)) h e s)
  | exc k => exact h
  | stuck => exact h
abbrev DnAll (K : PySem.W.Frag) (F : Hp) : List V → List D → Prop := Paired (Dn K F)
theorem dna_same {K : PySem.W.Frag} {F F' : Hp} (e : Same F F') {vs : List V} {ds : List D} (h : DnAll K F vs ds) : DnAll K F' vs ds := paired_imp (fun _ _ q => dn_same e q) h
def OkA (K : PySem.W.Frag) (c : Cfg) (r : Env) (σ : St) (F H : Hp) (x : R (D × Env)) (Q : List V → Hp → Prop) : Prop :=
  match x with
  | .ok (.list ds, r') => ∀ (vs : List V) (F' H' : Hp), Stt K c r' σ H' F' → Ef r σ F H F' H' → (∀ a, Own r' σ a → Own r σ a) → DnAll K F' vs ds → Q vs H'
  | .exc k => ∀ (F' H' : Hp), c.J H' → Same F' H' → Kp c.W F' H' → c.E (c.cl k) none H'
  | _ => False
def TAv (K : PySem.W.Frag) (c : Cfg) (m : E) : TA := fun σ H Q => ∃ F r, Stt K c r σ H F ∧ OkA K c r σ F H (den c.call m r) Q
theorem PA.mono {X : Cx} {es : List Expr} {t u : TA} (h : PA X es t) (i : ∀ σ H Q, u σ H Q → t σ H Q) : PA X es u := ⟨fun pos pins s σ H Q I q => h.run pos pins s σ H Q I (i σ H Q q)⟩
theorem OkA.bind {K : PySem.W.Frag} {c : Cfg} {r : Env} {σ : St} {F H : Hp} {x : R (D × Env)} {f : D × Env → R (D × Env)} {Q : VK} {Q' : List V → Hp → Prop} (h : OkE K c r σ F H (x.bind f) Q)
    (nl : ∀ d r1, (∀ l, d ≠ .list l) → f (d, r1) = .stuck)
    (g : ∀ ds r1 vs F1 H1, Stt K c r1 σ H1 F1 → Ef r σ F H F1 H1 → (∀ a, Own r1 σ a → Own r σ a) → DnAll K F1 vs ds → OkE K c r1 σ F1 H1 (f (.list ds, r1)) Q → Q' vs H1) : OkA K c r σ F H x Q' := by
  cases x with
  | ok p =>
    obtain ⟨d, r1⟩ := p
    cases d with
    | list ds => exact fun vs F1 H1 x e s q => g ds r1 vs F1 H1 x e s q (OkE.shift (y := f (.list ds, r1)) h e s)
    | none => exact absurd (show OkE K c r σ F H (f (.none, r1)) Q from h) (by rw [nl _ _ (fun l e => by cases e)]; exact id)
    | bool b => exact absurd (show OkE K c r σ F H (f (.bool b, r1)) Q from h) (by rw [nl _ _ (fun l e => by cases e)]; exact id)
    | int b => exact absurd (show OkE K c r σ F H (f (.int b, r1)) Q from h) (by rw [nl _ _ (fun l e => by cases e)]; exact id)
    | str b => exact absurd (show OkE K c r σ F H (f (.str b, r1)) Q from h) (by rw [nl _ _ (fun l e => by cases e)]; exact id)
    | tuple b => exact absurd (show OkE K c r σ F H (f (.tuple b, r1)) Q from h) (by rw [nl _ _ (fun l e => by cases e)]; exact id)
    | dict b => exact absurd (show OkE K c r σ F H (f (.dict b, r1)) Q from h) (by rw [nl _ _ (fun l e => by cases e)]; exact id)
  | exc k => exact h
  | stuck => exact h
section
variable {X : Cx} {c : Cfg} {e : Expr} {es : List Expr} {a b : E} {pos : Pos}
theorem sa_nil : PA X [] (TAv X.K c .nil) := PA.mono pa_nil fun σ H Q ⟨F, r, x, h⟩ => h [] F H x Ef.refl (fun _ q => q) .nil
theorem sa_cons (ha : PE X e (TEv X.K c a)) (hb : PA X es (TAv X.K c b)) (hs : starEach (e :: es) X.env = (false, eval e X.env) :: starEach es X.env := by rfl) : PA X (e :: es) (TAv X.K c (.cons a b)) := by
  refine PA.mono (pa_cons ha hb hs) fun σ H Q ⟨F, r, x, h⟩ => ⟨F, r, x, ?_⟩
  simp only [den] at h
  cases ea : den c.call a r with
  | ok p =>
    obtain ⟨d, r1⟩ := p
    rw [ea] at h
    simp only [R.ok_bind] at h
    intro v F1 H1 x1 e1 s1 q1
    refine ⟨F1, r1, x1, ?_⟩
    cases eb : den c.call b r1 with
    | ok p =>
      obtain ⟨y, r2⟩ := p
      rw [eb] at h
      simp only [R.ok_bind] at h
      cases y with
      | list ds =>
        intro vs F2 H2 x2 e2 s2 q2
        exact h (v :: vs) F2 H2 x2 (e1.trans e2 s1) (fun a z => s1 a (s2 a z)) (.cons (dn_same (e2.same x1.rel) q1) q2)
      | none => exact h
      | bool _ => exact h
      | int _ => exact h
      | str _ => exact h
      | tuple _ => exact h
      | dict _ => exact h
    | exc k => rw [eb] at h; exact h
    | stuck => rw [eb] at h; exact h
  | exc k => rw [ea] at h; exact h
  | stuck => rw [ea] at h; exact h
/-- what an operation's rule asks, from the data -/
def OpS (K : PySem.W.Frag) (o : Op) (rr : List V → Hp → VK → Prop) : Prop :=
  ∀ (ds : List D) (d : D) (vs : List V) (F H : Hp) (Q : VK), Same F H → DnAll K F vs ds → opD o ds = some d →
    (∀ (v : V) (F' H' : Hp), Same H H' → Same F' H' → (∀ b u, H b = some u → F' b = F b) → Dn K F' v d → Q v H') → rr vs H Q
theorem Stt.grown {K : PySem.W.Frag} {c : Cfg} {r : Env} {σ : St} {F H F' H' : Hp} (x : Stt K c r σ H F) (h1 : Same H H') (h2 : Same F' H') (h3 : ∀ b u, H b = some u → F' b = F b) : Stt K c r σ H' F' ∧ Ef r σ F H F' H' := by
  have g : Grow F H F' H' := ⟨h2, fun b o h => ⟨h3 b o h, .inl (h1 b o h)⟩⟩
  exact ⟨g.stt x (c.hJ H H' (fun b u q => .inl (h1 b u q)) x.tie), g.ef⟩
theorem op_go {K : PySem.W.Frag} {o : Op} {rr : List V → Hp → VK → Prop} (hr : OpS K o rr) {r : Env} {σ : St} {F H : Hp} {Q : VK} {ds : List D} {vs : List V} (x : Stt K c r σ H F) (q : DnAll K F vs ds)
    (h : OkE K c r σ F H ((R.opt (opD o ds)).bind fun d => .ok (d, r)) Q) : rr vs H Q := by
  cases e : opD o ds with
  | none => rw [e] at h; exact h.elim
  | some d =>
    rw [e] at h
    refine hr ds d vs F H Q x.rel.same q e fun v F' H' h1 h2 h3 q' => ?_
    obtain ⟨x', ef⟩ := x.grown h1 h2 h3
    exact h v F' H' x' ef (fun _ z => z) q'
theorem tev_op {K : PySem.W.Frag} {o : Op} {rr : List V → Hp → VK → Prop} (hr : OpS K o rr) {σ : St} {H : Hp} {Q : VK} (h : TEv K c (.op o a) σ H Q) : TAv K c a σ H fun vs H1 => rr vs H1 Q := by
  obtain ⟨F, r, x, h⟩ := h
  refine ⟨F, r, x, ?_⟩
  simp only [den] at h
  refine OkA.bind h ?_ ?_
  · intro d r1 nl
    cases d <;> first | rfl | exact absurd rfl (nl _)
  · intro ds r1 vs F1 H1 x1 e1 s1 q1 h1
    exact op_go hr x1 q1 h1
/-- a built-in function's call -/
theorem sv_callB {x : Str} {p : Pos} {id : String} {o : Op} {rr : List V → Hp → VK → Prop} (hr : OpS X.K o rr) (hc : CallR X (.builtin id) rr) (hg : Gl X x) (hm : X.mg x = none) (hv : bootBuiltins x = some (.builtin id)) (ha : PA X (e :: es) (TAv X.K c a)) (hn : x ≠ "__name__" := by decide)
    (hdb : (x == ("__debug__" : Str)) = false := by decide) (he : starEach (e :: es) X.env = (false, eval e X.env) :: starEach es X.env := by rfl) (hpl : (backTo pos (starEach es X.env)).any (·.1) = false := by rfl) :
    PE X (.Call (.Name x p) (e :: es) [] pos) (TEv X.K c (.op o a)) :=
  PE.mono (pe_callB hc hg hm hv ha hn hdb he hpl) fun _ _ _ h => tev_op hr h
theorem sv_callTy {x : Str} {p : Pos} {T : String} {o : Op} {rr : List V → Hp → VK → Prop} (hr : OpS X.K o rr) (hc : CallR X (.type T) rr) (hg : Gl X x) (hm : X.mg x = none) (hv : bootBuiltins x = some (.type T)) (ha : PA X (e :: es) (TAv X.K c a)) (hn : x ≠ "__name__" := by decide)
    (hdb : (x == ("__debug__" : Str)) = false := by decide) (he : starEach (e :: es) X.env = (false, eval e X.env) :: starEach es X.env := by rfl) (hpl : (backTo pos (starEach es X.env)).any (·.1) = false := by rfl) :
    PE X (.Call (.Name x p) (e :: es) [] pos) (TEv X.K c (.op o a)) :=
  PE.mono (pe_callTy hc hg hm hv ha hn hdb he hpl) fun _ _ _ h => tev_op hr h
/-- two operands -/
theorem tev_op2 {K : PySem.W.Frag} {o : Op} {rr : R2} (hr : OpS K o fun vs H Q => ∃ x y, vs = [x, y] ∧ rr x y H Q) {σ : St} {H : Hp} {Q : VK} (h : TEv K c (.op o (.cons a (.cons b .nil))) σ H Q) : tOp rr (TEv K c a) (TEv K c b) σ H Q := by
  obtain ⟨F, r, x, h⟩ := h
  refine ⟨F, r, x, ?_⟩
  simp only [den] at h
  cases ea : den c.call a r with
  | ok p =>
    obtain ⟨d, r1⟩ := p
    rw [ea] at h
    simp only [R.ok_bind] at h
    intro v F1 H1 x1 e1 s1 q1
    refine ⟨F1, r1, x1, ?_⟩
    cases eb : den c.call b r1 with
    | ok p =>
      obtain ⟨y, r2⟩ := p
      rw [eb] at h
      simp only [R.ok_bind] at h
      intro u F2 H2 x2 e2 s2 q2
      have h' := OkE.shift h (e1.trans e2 s1) (fun a z => s1 a (s2 a z))
      obtain ⟨x', y', ev, z⟩ := op_go (ds := [d, y]) (vs := [v, u]) hr x2 (.cons (dn_same (e2.same x1.rel) q1) (.cons q2 .nil)) h'
      cases ev
      exact z
    | exc k => rw [eb] at h; exact h
    | stuck => rw [eb] at h; exact h
  | exc k => rw [ea] at h; exact h
  | stuck => rw [ea] at h; exact h
theorem sv_bin {e1 e2 : Expr} {op : Operator} {o : Op} {rr : R2} (hr : OpS X.K o fun vs H Q => ∃ x y, vs = [x, y] ∧ rr x y H Q) (ho : OpR X (binaryOp op) rr) (ha : PE X e1 (TEv X.K c a)) (hb : PE X e2 (TEv X.K c b)) :
    PE X (.BinOp e1 op e2 pos) (TEv X.K c (.op o (.cons a (.cons b .nil)))) := PE.mono (pe_op ho ha hb) fun _ _ _ h => tev_op2 hr h
theorem sv_cmp {e1 e2 : Expr} {op : CmpOp} {o : Op} {rr : R2} (hr : OpS X.K o fun vs H Q => ∃ x y, vs = [x, y] ∧ rr x y H Q) (ho : OpR X (compareOp op) rr) (ha : PE X e1 (TEv X.K c a)) (hb : PE X e2 (TEv X.K c b)) (hm : behindInMarks op e2 = false) :
    PE X (.Compare e1 [op] [e2] pos) (TEv X.K c (.op o (.cons a (.cons b .nil)))) := PE.mono (pe_cmpR ho ha hb hm) fun _ _ _ h => tev_op2 hr h
end
end Bm
end
section
set_option Elab.async false
set_option linter.all false
set_option maxRecDepth 100000
set_option maxHeartbeats 1000000
namespace Bm
open PySem PySem.Spec L2
theorem nd_of {d : D} (h : nd d = true) : ∀ kvs, d ≠ .dict kvs := fun kvs e => by subst e; cases h
theorem getS_put (r : Env) (i j : Nat) (s : Slot) : getS (putS r i s) j = if i = j ∧ i < r.length then s else getS r j := by
  unfold getS putS
  rw [List.getD_eq_getElem?_getD, List.getD_eq_getElem?_getD, List.getElem?_set]
  by_cases h : i = j
  · subst h
    by_cases h2 : i < r.length
    · simp [h2]
    · simp [h2]
  · simp [h]
theorem vAt_set (σ : St) (i j : Nat) (o : Option V) : vAt (σ.set i o) j = if i = j ∧ i < σ.length then o else vAt σ j := by
  unfold vAt
  rw [List.getElem?_set]
  by_cases h : i = j
  · subst h
    by_cases h2 : i < σ.length
    · simp [h2]
    · simp [h2]
  · simp [h]
theorem vAt_some {σ : St} {i : Nat} {v : V} (h : vAt σ i = some v) : σ[i]? = some (some v) := by
  unfold vAt at h
  cases e : σ[i]? with
  | none => rw [e] at h; cases h
  | some o => rw [e] at h; cases o with
    | none => cases h
    | some u => cases h; rfl
/-- a place gets a new value: F and H as they are -/
theorem Stt.put {K : PySem.W.Frag} {c : Cfg} {r : Env} {σ : St} {H F : Hp} (x : Stt K c r σ H F) {i : Nat} {s : Slot} {v : V} (hz : ZOk c [i]) (h : SlotOk K F H s (some v))
    (n : ∀ a, isOwn s = true → v = .ref a → (¬ Own r σ a) ∧ (c.W.O0 a ∨ c.W.H0 a = none)) : Stt K c (putS r i s) (σ.set i (some v)) H F := by
  have hl : r.length = σ.length := x.rel.len
  have ow : ∀ j a, OwnAt (putS r i s) (σ.set i (some v)) j a → (i = j ∧ isOwn s = true ∧ v = .ref a) ∨ ((¬ (i = j ∧ i < σ.length)) ∧ OwnAt r σ j a) := fun j a q => by
    obtain ⟨q1, q2⟩ := q
    rw [getS_put] at q1
    rw [vAt_set] at q2
    by_cases e : i = j ∧ i < σ.length
    · rw [if_pos ⟨e.1, by omega⟩] at q1
      rw [if_pos e] at q2
      exact .inl ⟨e.1, q1, Option.some.inj q2⟩
    · rw [if_neg (by rw [hl]; exact e)] at q1
      rw [if_neg e] at q2
      exact .inr ⟨e, q1, q2⟩
  refine ⟨⟨?_, x.rel.same, fun j => ?_, fun j k a p q => ?_⟩, x.tie, x.kp, fun b q => ?_, fun j => ?_⟩
  · unfold putS; rw [List.length_set, List.length_set]; exact hl
  · rw [getS_put, vAt_set]
    by_cases e : i = j ∧ i < σ.length
    · rw [if_pos ⟨e.1, by omega⟩, if_pos e]; exact h
    · rw [if_neg (by rw [hl]; exact e), if_neg e]; exact x.rel.ok j
  · rcases ow j a p with ⟨e1, o1, v1⟩ | ⟨_, p⟩
    · rcases ow k a q with ⟨e2, _, _⟩ | ⟨_, q⟩
      · rw [← e1, ← e2]
      · exact absurd ⟨k, q⟩ (n a o1 v1).1
    · rcases ow k a q with ⟨e2, o2, v2⟩ | ⟨_, q⟩
      · exact absurd ⟨j, p⟩ (n a o2 v2).1
      · exact x.rel.inj j k a p q
  · obtain ⟨j, q⟩ := q
    rcases ow j b q with ⟨_, o1, v1⟩ | ⟨_, q⟩
    · exact (n b o1 v1).2
    · exact x.own b ⟨j, q⟩
  · rw [vAt_set]
    by_cases e : i = j ∧ i < σ.length
    · rw [if_pos e, ← e.1]; exact hz.at List.mem_cons_self _
    · rw [if_neg e]; exact x.pin j
theorem Stt.put_sh {K : PySem.W.Frag} {c : Cfg} {r : Env} {σ : St} {H F : Hp} (x : Stt K c r σ H F) {i : Nat} {d : D} {v : V} (hz : ZOk c [i]) (h : Dn K F v d) : Stt K c (putS r i (.sh d)) (σ.set i (some v)) H F :=
  x.put hz ⟨v, rfl, h⟩ fun a e => by cases e
/-- an owned list is frozen -/
theorem own_upd {K : PySem.W.Frag} {r : Env} {σ : St} {H F : Hp} (x : Rel K r σ H F) {i : Nat} {a : Addr} {s : Slot} (h : OwnAt r σ i a) (no : isOwn s = false) : ∀ b, Own (putS r i s) σ b → Own r σ b ∧ b ≠ a := fun b ⟨j, q1, q2⟩ => by
  rw [getS_put] at q1
  have hi : i < σ.length := by
    have := vAt_some h.2
    exact (List.getElem?_eq_some_iff.mp this).1
  by_cases e : i = j
  · subst e
    rw [if_pos ⟨rfl, by rw [x.len]; exact hi⟩, no] at q1
    cases q1
  · rw [if_neg (fun z => e z.1)] at q1
    exact ⟨⟨j, q1, q2⟩, fun z => e (x.inj i j a h ⟨q1, z ▸ q2⟩)⟩
theorem Stt.freeze {K : PySem.W.Frag} {c : Cfg} {r : Env} {σ : St} {H F : Hp} (x : Stt K c r σ H F) {i : Nat} {l : List D} (e : getS r i = .own l) :
    ∃ a, vAt σ i = some (.ref a) ∧ ∃ F', Stt K c (putS r i (.sh (.list l))) σ H F' ∧ Ef r σ F H F' H ∧ (∀ b, Own (putS r i (.sh (.list l))) σ b → Own r σ b) ∧ Dn K F' (.ref a) (.list l) := by
  have q := x.rel.ok i
  rw [e] at q
  obtain ⟨a, vs, q1, q2, q3, q4⟩ := q
  have oa : OwnAt r σ i a := ⟨by rw [e]; rfl, q1⟩
  have ou := own_upd x.rel (s := .sh (.list l)) oa rfl
  have sF : Same F (upd F a (.lst vs)) := same_upd q2
  have ef : Ef r σ F H (upd F a (.lst vs)) H := fun b o h n => ⟨upd_ne (fun z => n (z ▸ ⟨i, oa⟩)), .inl h⟩
  have dn : Dn K (upd F a (.lst vs)) (.ref a) (.list l) := Dp.lst upd_same (dpa_same sF _ _ q4)
  refine ⟨a, q1, upd F a (.lst vs), x.step ⟨?_, ?_, fun j => ?_, fun j k b p q => ?_⟩ x.tie ef (fun b z => (ou b z).1), ef, fun b z => (ou b z).1, dn⟩
  · unfold putS; rw [List.length_set]; exact x.rel.len
  · intro b o h
    by_cases hb : b = a
    · subst hb; rw [upd_same] at h; rw [← h]; exact q3
    · rw [upd_ne hb] at h; exact x.rel.same b o h
  · by_cases hj : i = j ∧ i < r.length
    · rw [getS_put, if_pos hj, ← hj.1, q1]
      exact ⟨_, rfl, dn⟩
    · have eg : getS (putS r i (.sh (.list l))) j = getS r j := by rw [getS_put, if_neg hj]
      rw [eg]
      refine slot_same sF (fun b o1 o2 hf _ => ⟨?_, rfl⟩) Aside.refl (x.rel.ok j)
      rw [upd_ne ((ou b ⟨j, by rw [eg]; exact o1, o2⟩).2)]
      exact hf
  · have h1 : ∀ j b, OwnAt (putS r i (.sh (.list l))) σ j b → OwnAt r σ j b := fun j b ⟨z1, z2⟩ => by
      refine ⟨?_, z2⟩
      rw [getS_put] at z1
      by_cases hj : i = j ∧ i < r.length
      · rw [if_pos hj] at z1; cases z1
      · rw [if_neg hj] at z1; exact z1
    exact x.rel.inj j k b (h1 j b p) (h1 k b q)
section
variable {X : Cx} {c : Cfg} {e e1 e2 : Expr} {es : List Expr} {a b m : E} {pos : Pos}
theorem sv_var {i : Nat} {x : Str} (hN : X.N[i]? = some x := by rfl) (hv : Vis X.env.scope x := by first | exact Or.inl rfl | exact Or.inr (Or.inl rfl) | exact Or.inr (Or.inr rfl)) (hd : (x == ("__debug__" : Str)) = false := by decide)
    (hcd : (x == ("__classdict__" : Str)) = false := by decide) : PE X (.Name x pos) (TEv X.K c (.var i)) := by
  refine PE.mono (pe_var hN hv hd hcd) fun σ H Q ⟨F, r, x, h⟩ => ?_
  simp only [den] at h
  cases e : getS r i with
  | un => rw [e] at h; exact h.elim
  | sh d =>
    rw [e] at h
    have q := x.rel.ok i
    rw [e] at q
    obtain ⟨v, q1, q2⟩ := q
    exact ⟨v, vAt_some q1, h v F H x Ef.refl (fun _ z => z) q2⟩
  | own l =>
    rw [e] at h
    obtain ⟨a, q1, F', x', ef, s, dn⟩ := x.freeze e
    exact ⟨.ref a, vAt_some q1, h _ F' H x' ef s dn⟩
  | dicT l => rw [e] at h; exact h.elim
  | dicK l => rw [e] at h; exact h.elim
  | ins l => rw [e] at h; exact h.elim
  | lck l => rw [e] at h; exact h.elim
  | exs l => rw [e] at h; exact h.elim
theorem lit_of {K : PySem.W.Frag} {v : V} {d : D} (q : ∀ F, Dn K F v d) (σ : St) (H : Hp) (Q : VK) (h : TEv K c (.lit d) σ H Q) : tC v σ H Q := by
  obtain ⟨F, r, x, h⟩ := h
  exact h v F H x Ef.refl (fun _ z => z) (q F)
theorem sv_int {i : Int} {j} : PE X (.Constant (.int i) j pos) (TEv X.K c (.lit (.int i))) := PE.mono pe_int (lit_of fun _ => Dp.int i)
theorem sv_bool {i : Bool} {j} : PE X (.Constant (.bool i) j pos) (TEv X.K c (.lit (.bool i))) := PE.mono pe_bl (lit_of fun _ => Dp.bl i)
theorem sv_none {j} : PE X (.Constant .none j pos) (TEv X.K c (.lit .none)) := PE.mono pe_non (lit_of fun _ => Dp.non)
theorem sv_str {i : Str} {j} : PE X (.Constant (.str i) j pos) (TEv X.K c (.lit (.str i))) := PE.mono pe_str (lit_of fun _ => Dp.str i)
/-- a module's text -/
theorem sv_gstr {x : Str} {z : Str} {t : Tok} (hg : Gl X x) (hm : X.mg x = some (.str z t)) (hd : (x == ("__debug__" : Str)) = false := by decide) : PE X (.Name x pos) (TEv X.K c (.lit (.str z))) :=
  PE.mono (pe_glob (v := .str z) hg hm ⟨_, rfl⟩ hd) (lit_of fun _ => Dp.str z)
def TTv (K : PySem.W.Frag) (c : Cfg) (m : E) : TT := fun σ H Q => TEv K c m σ H fun v H' => ∃ k, v = .bl k ∧ Q k H'
theorem PT.mono {t u : TT} (h : PT X e t) (i : ∀ σ H Q, u σ H Q → t σ H Q) : PT X e u := ⟨fun pins s σ H Q I q => h.run pins s σ H Q I (i σ H Q q)⟩
theorem PW.mono {t u : TT} (h : PW X e t) (i : ∀ σ H Q, u σ H Q → t σ H Q) : PW X e u := ⟨fun wh pins s σ H Q I q => h.run wh pins s σ H Q I (i σ H Q q)⟩
theorem sw_val (h : PE X e (TEv X.K c m)) (he : ∀ whole, isTrue e X.env whole = (do let v ← whole; standAt e.pos; holding [v] (truthy v)) := by intro _; rfl) : PT X e (TTv X.K c m) := pt_val h he
theorem sw_cmp {op : CmpOp} {o : Op} {rr : R2} (hr : OpS X.K o fun vs H Q => ∃ x y, vs = [x, y] ∧ rr x y H Q) (ho : OpR X (compareOp op) rr) (ha : PE X e1 (TEv X.K c a)) (hb : PE X e2 (TEv X.K c b)) (hm : behindInMarks op e2 = false) :
    PT X (.Compare e1 [op] [e2] pos) (TTv X.K c (.op o (.cons a (.cons b .nil)))) := PT.mono (pt_cmpR ho ha hb hm) fun _ _ _ h => tev_op2 hr h
theorem dn_bool {K : PySem.W.Frag} {F : Hp} {v : V} {b : Bool} (h : Dn K F v (.bool b)) : v = .bl b := by
  have h' : Dp K F v (.bool b) := h
  cases h'
  rfl
/-- a part that gives a truth value, and what follows by it -/
theorem tev_branch {K : PySem.W.Frag} {f : D × Env → R (D × Env)} {σ : St} {F H : Hp} {r : Env} {Q : VK} {G : Bool → Hp → Prop} (x : Stt K c r σ H F)
    (h : OkE K c r σ F H ((den c.call a r).bind f) Q) (nb : ∀ d r1, (∀ k, d ≠ .bool k) → f (d, r1) = .stuck)
    (g : ∀ k r1 F1 H1, Stt K c r1 σ H1 F1 → OkE K c r1 σ F1 H1 (f (.bool k, r1)) Q → G k H1) : TTv K c a σ H G := by
  refine ⟨F, r, x, OkE.bind h fun d r1 v F1 H1 ⟨x1, _, _, q1⟩ h1 => ?_⟩
  cases d with
  | bool k => exact ⟨k, dn_bool q1, g k r1 F1 H1 x1 h1⟩
  | none => rw [nb _ _ (fun _ z => by cases z)] at h1; exact h1.elim
  | int _ => rw [nb _ _ (fun _ z => by cases z)] at h1; exact h1.elim
  | str _ => rw [nb _ _ (fun _ z => by cases z)] at h1; exact h1.elim
  | list _ => rw [nb _ _ (fun _ z => by cases z)] at h1; exact h1.elim
  | tuple _ => rw [nb _ _ (fun _ z => by cases z)] at h1; exact h1.elim
  | dict _ => rw [nb _ _ (fun _ z => by cases z)] at h1; exact h1.elim
theorem tt_and {K : PySem.W.Frag} {σ : St} {H : Hp} {Q : Bool → Hp → Prop} (h : TTv K c (.and a b) σ H Q) : tAnd (TTv K c a) (TTv K c b) σ H Q := by
  obtain ⟨F, r, x, h⟩ := h
  simp only [den] at h
  refine tev_branch x h (fun d r1 n => ?_) fun k r1 F1 H1 x1 h1 => ?_
  · cases d <;> first | rfl | exact absurd rfl (n _)
  · cases k with
    | true => exact iteT ⟨F1, r1, x1, h1⟩
    | false =>
      obtain ⟨k, e, q⟩ := h1 (.bl false) F1 H1 x1 Ef.refl (fun _ z => z) (Dp.bl false)
      cases e
      exact iteF q
theorem tt_or {K : PySem.W.Frag} {σ : St} {H : Hp} {Q : Bool → Hp → Prop} (h : TTv K c (.or a b) σ H Q) : tOr (TTv K c a) (TTv K c b) σ H Q := by
  obtain ⟨F, r, x, h⟩ := h
  simp only [den] at h
  refine tev_branch x h (fun d r1 n => ?_) fun k r1 F1 H1 x1 h1 => ?_
  · cases d <;> first | rfl | exact absurd rfl (n _)
  · cases k with
    | false => exact iteF ⟨F1, r1, x1, h1⟩
    | true =>
      obtain ⟨k, e, q⟩ := h1 (.bl true) F1 H1 x1 Ef.refl (fun _ z => z) (Dp.bl true)
      cases e
      exact iteT q
theorem tt_not {K : PySem.W.Frag} {σ : St} {H : Hp} {Q : Bool → Hp → Prop} (h : TTv K c (.op .not (.cons a .nil)) σ H Q) : tNot (TTv K c a) σ H Q := by
  obtain ⟨F, r, x, h⟩ := h
  simp only [den] at h
  cases ea : den c.call a r with
  | ok p =>
    obtain ⟨d, r1⟩ := p
    refine ⟨F, r, x, ?_⟩
    rw [ea] at h ⊢
    simp only [R.ok_bind] at h
    intro v F1 H1 x1 e1 s1 q1
    cases d with
    | bool k =>
      obtain ⟨k', e', q⟩ := h (.bl (!k)) F1 H1 x1 e1 s1 (Dp.bl _)
      cases e'
      exact ⟨k, dn_bool q1, q⟩
    | none => exact h.elim
    | int _ => exact h.elim
    | str _ => exact h.elim
    | list _ => exact h.elim
    | tuple _ => exact h.elim
    | dict _ => exact h.elim
  | exc k => refine ⟨F, r, x, ?_⟩; rw [ea] at h ⊢; exact h
  | stuck => rw [ea] at h; exact h.elim
theorem sw_not (h : PT X e (TTv X.K c a)) : PT X (.UnaryOp .Not e pos) (TTv X.K c (.op .not (.cons a .nil))) := PT.mono (pt_not h) fun _ _ _ q => tt_not q
theorem sx_and1 (h : PT X e (TTv X.K c a)) : PW X (.BoolOp .And [e] pos) (TTv X.K c a) := pw_and1 h
theorem sx_or1 (h : PT X e (TTv X.K c a)) : PW X (.BoolOp .Or [e] pos) (TTv X.K c a) := pw_or1 h
theorem sx_and (h : PT X e (TTv X.K c a)) (h' : PW X (.BoolOp .And (e1 :: es) pos) (TTv X.K c b)) : PW X (.BoolOp .And (e :: e1 :: es) pos) (TTv X.K c (.and a b)) := PW.mono (pw_and h h') fun _ _ _ q => tt_and q
theorem sx_or (h : PT X e (TTv X.K c a)) (h' : PW X (.BoolOp .Or (e1 :: es) pos) (TTv X.K c b)) : PW X (.BoolOp .Or (e :: e1 :: es) pos) (TTv X.K c (.or a b)) := PW.mono (pw_or h h') fun _ _ _ q => tt_or q
theorem tev_and {K : PySem.W.Frag} {σ : St} {H : Hp} {Q : VK} (h : TEv K c (.and a b) σ H Q) : tAndV (TEv K c a) (TEv K c b) σ H Q := by
  obtain ⟨F, r, x, h⟩ := h
  simp only [den] at h
  refine tev_branch (G := fun k H1 => if k = true then TEv K c b σ H1 Q else Q (.bl false) H1) x h (fun d r1 n => ?_) fun k r1 F1 H1 x1 h1 => ?_
  · cases d <;> first | rfl | exact absurd rfl (n _)
  · cases k with
    | true => exact iteT ⟨F1, r1, x1, h1⟩
    | false => exact iteF (h1 (.bl false) F1 H1 x1 Ef.refl (fun _ z => z) (Dp.bl false))
theorem tev_not {K : PySem.W.Frag} {σ : St} {H : Hp} {Q : VK} (h : TEv K c (.op .not (.cons a .nil)) σ H Q) : tNotV (TEv K c a) σ H Q := by
  obtain ⟨F, r, x, h⟩ := h
  simp only [den] at h
  refine ⟨F, r, x, ?_⟩
  cases ea : den c.call a r with
  | ok p =>
    obtain ⟨d, r1⟩ := p
    rw [ea] at h
    simp only [R.ok_bind] at h
    intro v F1 H1 x1 e1 s1 q1
    cases d with
    | bool k => exact ⟨k, dn_bool q1, h (.bl (!k)) F1 H1 x1 e1 s1 (Dp.bl _)⟩
    | none => exact h.elim
    | int _ => exact h.elim
    | str _ => exact h.elim
    | list _ => exact h.elim
    | tuple _ => exact h.elim
    | dict _ => exact h.elim
  | exc k => rw [ea] at h; exact h
  | stuck => rw [ea] at h; exact h.elim
theorem sv_one {op} (h : PE X e (TEv X.K c a)) : PE X (.BoolOp op [e] pos) (TEv X.K c a) := pe_one h
theorem sv_and (h : PE X e (TEv X.K c a)) (h' : PE X (.BoolOp .And (e1 :: es) pos) (TEv X.K c b)) : PE X (.BoolOp .And (e :: e1 :: es) pos) (TEv X.K c (.and a b)) := PE.mono (pe_and h h') fun _ _ _ q => tev_and q
theorem sv_not (h : PE X e (TEv X.K c a)) : PE X (.UnaryOp .Not e pos) (TEv X.K c (.op .not (.cons a .nil))) := PE.mono (pe_not h) fun _ _ _ q => tev_not q
theorem sv_ife {m1 m2 : E} (h : PT X e (TTv X.K c m)) (h1 : PE X e1 (TEv X.K c m1)) (h2 : PE X e2 (TEv X.K c m2)) : PE X (.IfExp e e1 e2 pos) (TEv X.K c (.ife m m1 m2)) := by
  refine PE.mono (pe_ifExp h h1 h2) fun σ H Q ⟨F, r, x, h⟩ => ?_
  simp only [den] at h
  refine tev_branch x h (fun d r1 n => ?_) fun k r1 F1 H1 x1 h1 => ?_
  · cases d <;> first | rfl | exact absurd rfl (n _)
  · cases k with
    | true => exact iteT ⟨F1, r1, x1, h1⟩
    | false => exact iteF ⟨F1, r1, x1, h1⟩
/-- a op1 b op2 c -/
theorem tev_chain {K : PySem.W.Frag} {o1 o2 : Op} {r1 r2 : R2} {d : E} (hr1 : OpS K o1 fun vs H Q => ∃ x y, vs = [x, y] ∧ r1 x y H Q) (hr2 : OpS K o2 fun vs H Q => ∃ x y, vs = [x, y] ∧ r2 x y H Q) {σ : St} {H : Hp} {Q : VK}
    (h : TEv K c (.chain o1 o2 a b d) σ H Q) : tChain r1 r2 (TEv K c a) (TEv K c b) (TEv K c d) σ H Q := by
  obtain ⟨F, r, x, h⟩ := h
  simp only [den] at h
  refine ⟨F, r, x, OkE.bind h fun d1 ra v Fa Ha ⟨xa, ea, sa, qa⟩ ha => ⟨Fa, ra, xa, OkE.bind ha fun d2 rb u Fb Hb ⟨xb, eb, sb, qb⟩ hb => ?_⟩⟩
  have qa' := dn_same (eb.same xa.rel) qa
  cases eo : opD o1 [d1, d2] with
  | none => rw [eo] at hb; exact hb.elim
  | some y =>
    rw [eo] at hb
    obtain ⟨x', y', ev, z⟩ := hr1 [d1, d2] y [v, u] Fb Hb (fun z H3 => ∃ k, z = .bl k ∧ (if k = true then TEv K c d σ H3 fun w' H4 => r2 u w' H4 Q else Q (.bl false) H3)) xb.rel.same (.cons qa' (.cons qb .nil)) eo fun z F3 H3 g1 g2 g3 q3 => by
      obtain ⟨x3, e3⟩ := xb.grown g1 g2 g3
      have hb' := OkE.shift (r1 := rb) hb e3 (fun _ z => z)
      cases y with
      | bool k =>
        refine ⟨k, dn_bool q3, ?_⟩
        cases k with
        | true =>
          refine iteT ⟨F3, rb, x3, OkE.bind hb' fun d3 rc w Fc Hc ⟨xc, ec, sc, qc⟩ hc => ?_⟩
          have qu := dn_same (ec.same x3.rel) (dn_same (e3.same xb.rel) qb)
          obtain ⟨x', y', ev, z⟩ := op_go (ds := [d2, d3]) (vs := [u, w]) hr2 xc (.cons qu (.cons qc .nil)) hc
          cases ev
          exact z
        | false => exact iteF (hb' (.bl false) F3 H3 x3 Ef.refl (fun _ z => z) (Dp.bl false))
      | none => exact hb.elim
      | int _ => exact hb.elim
      | str _ => exact hb.elim
      | list _ => exact hb.elim
      | tuple _ => exact hb.elim
      | dict _ => exact hb.elim
    cases ev
    exact z
theorem sv_chain {e3 : Expr} {d : E} {op op' : CmpOp} {o1 o2 : Op} {r1 r2 : R2} (hr1 : OpS X.K o1 fun vs H Q => ∃ x y, vs = [x, y] ∧ r1 x y H Q) (hr2 : OpS X.K o2 fun vs H Q => ∃ x y, vs = [x, y] ∧ r2 x y H Q) (ho : OpR X (compareOp op) r1) (ho' : OpR X (compareOp op') r2)
    (h1 : PE X e1 (TEv X.K c a)) (h2 : PE X e2 (TEv X.K c b)) (h3 : PE X e3 (TEv X.K c d)) (hm : lastMarks [op, op'] [e2, e3] = false := by with_unfolding_all rfl) : PE X (.Compare e1 [op, op'] [e2, e3] pos) (TEv X.K c (.chain o1 o2 a b d)) :=
  PE.mono (pe_chain ho ho' h1 h2 h3 hm) fun _ _ _ q => tev_chain hr1 hr2 q
end
end Bm
end
section
set_option Elab.async false
set_option linter.all false
set_option maxRecDepth 100000
set_option maxHeartbeats 1000000
namespace Bm
open PySem PySem.Spec L2
/-- a def's promise: what the evaluator says -/
def spF (K : PySem.W.Frag) (J : Hp → Prop) (cl : Nat → Value) (f : List D → R (D × List D)) : Sp := fun vs H Q E => ∃ F ds, Same F H ∧ J H ∧ DnAll K F vs ds ∧
  match f ds with
  | .ok (d, _) => ∀ (v : V) (F' H' : Hp), Grow F H F' H' → J H' → Dn K F' v d → Q v H'
  | .exc k => ∀ (F' H' : Hp), Grow F H F' H' → J H' → E (cl k) none H'
  | .stuck => False
/-- .. of a def that changes the list that it gets first -/
def spIO (K : PySem.W.Frag) (J : Hp → Prop) (f : List D → List D → R (D × List D)) : Sp := fun vs H Q _ => ∃ F a us ws m ds, vs = .ref a :: us ∧ Same F H ∧ J H ∧ F a = none ∧ H a = some (.lst ws) ∧ DpAll K F ws m ∧ DnAll K F us ds ∧
  match f m ds with
  | .ok (d, m') => ∀ (v : V) (F' H' : Hp) (ws' : List V), Same F' H' → (∀ b o, b ≠ a → H b = some o → F' b = F b ∧ KO o (H' b)) → F' a = none → H' a = some (.lst ws') → DpAll K F' ws' m' → J H' → Dn K F' v d → Q v H'
  | _ => False
/-- the def x stands and keeps the promise sp, to the depth k -/
def FnAt (P : Program) (w : World) (K : PySem.W.Frag) (mg : Str → Option Value) (base : Heap) (k : Nat) (x : Str) (sp : Sp) : Prop :=
  ∃ (fa : Addr) (fd : FuncData) (ps : List Str), mg x = some (.ref fa) ∧ PySem.W.keepIn K (.ref fa) = true ∧ L2.Binds K fd ps [] ∧ FnOk P w K mg base (L2N.CX P w) k fa fd ps sp
theorem Kp.grow {W : Ent} {F H F' H' : Hp} (k : Kp W F H) (g : Grow F H F' H') : Kp W F' H' := fun b o h n => by
  have h1 := k b o h n
  obtain ⟨o1, e1⟩ := h1.2.ex
  exact ⟨(g.kp b o1 e1).1.trans h1.1, h1.2.trans fun o' e' => (g.kp b o' e').2⟩
section
variable {X : Cx} {c : Cfg} {e e1 e2 : Expr} {es : List Expr} {a b m : E} {pos : Pos}
theorem sv_call {x : Str} {p : Pos} {f k : Nat} (hf : FnAt X.prog X.w X.K X.mg X.base k x (spF X.K c.J c.cl (c.call f none))) (hr : Room k X.A) (hx : Passes (L2N.CX X.prog X.w) X c.E) (hg : Gl X x) (ha : PA X (e :: es) (TAv X.K c a))
    (hdb : (x == ("__debug__" : Str)) = false := by decide) (he : starEach (e :: es) X.env = (false, eval e X.env) :: starEach es X.env := by rfl) (hpl : (backTo pos (starEach es X.env)).any (·.1) = false := by rfl) :
    PE X (.Call (.Name x p) (e :: es) [] pos) (TEv X.K c (.call f a)) := by
  obtain ⟨fa, fd, ps, hm, hk, hb, F⟩ := hf
  refine PE.mono (pe_call (dvs := []) F hr hg hm hk hb .nil hx ha hdb he hpl) fun σ H Q ⟨F, r, x, h⟩ => ⟨F, r, x, ?_⟩
  simp only [den] at h
  refine OkA.bind h ?_ ?_
  · intro d r1 nl
    cases d <;> first | rfl | exact absurd rfl (nl _)
  · intro ds r1 vs F1 H1 x1 e1 s1 q1 h1
    rw [List.append_nil]
    refine ⟨F1, ds, x1.rel.same, x1.tie, q1, ?_⟩
    simp only at h1
    cases ec : c.call f none ds with
    | ok p =>
      obtain ⟨d, m'⟩ := p
      rw [ec] at h1
      exact fun v F' H' g j q => h1 v F' H' (g.stt x1 j) g.ef (fun _ z => z) q
    | exc k =>
      rw [ec] at h1
      exact fun F' H' g j => h1 F' H' j g.same (x1.kp.grow g)
    | stuck => rw [ec] at h1; exact h1
/-- behind a call that changed the owned list of place i -/
theorem Stt.io {K : PySem.W.Frag} {r : Env} {σ : St} {F H F' H' : Hp} (x : Stt K c r σ H F) {i : Nat} {l m' : List D} {a : Addr} {ws' : List V} (hi : getS r i = .own l) (hv : vAt σ i = some (.ref a)) (sm : Same F' H')
    (kp : ∀ b o, b ≠ a → H b = some o → F' b = F b ∧ KO o (H' b)) (fa : F' a = none) (ha : H' a = some (.lst ws')) (dp : DpAll K F' ws' m') (j : c.J H') : Stt K c (putS r i (.own m')) σ H' F' ∧ Ef r σ F H F' H' ∧ ∀ b, Own (putS r i (.own m')) σ b → Own r σ b := by
  have oa : OwnAt r σ i a := ⟨by rw [hi]; rfl, hv⟩
  have sF : Same F F' := fun b o h => by
    have nb : b ≠ a := fun z => by
      have := (own_mut x.rel ⟨i, oa⟩).1
      rw [← z, h] at this; cases this
    rw [(kp b o nb (x.rel.same b o h)).1]; exact h
  have ef : Ef r σ F H F' H' := fun b o h n => kp b o (fun z => n (z ▸ ⟨i, oa⟩)) h
  have h1 : ∀ j b, OwnAt (putS r i (.own m')) σ j b → OwnAt r σ j b := fun j b ⟨z1, z2⟩ => by
    refine ⟨?_, z2⟩
    rw [getS_put] at z1
    by_cases hj : i = j ∧ i < r.length
    · rw [← hj.1, hi]; rfl
    · rw [if_neg hj] at z1; exact z1
  have ou : ∀ b, Own (putS r i (.own m')) σ b → Own r σ b := fun b ⟨j, q⟩ => ⟨j, h1 j b q⟩
  refine ⟨x.step ⟨?_, sm, fun j => ?_, fun j k b p q => x.rel.inj j k b (h1 j b p) (h1 k b q)⟩ j ef ou, ef, ou⟩
  · unfold putS; rw [List.length_set]; exact x.rel.len
  · by_cases hj : i = j ∧ i < r.length
    · rw [getS_put, if_pos hj, ← hj.1, hv]
      exact ⟨a, ws', rfl, fa, ha, dp⟩
    · rw [getS_put, if_neg hj]
      obtain ⟨lz, hz⟩ : ∃ lz, H a = some (.lst lz) := by
        have qi := x.rel.ok i
        rw [hi] at qi
        obtain ⟨a0, vs0, q1, _, q3, _⟩ := qi
        rw [hv] at q1; cases q1
        exact ⟨_, q3⟩
      refine slot_same sF (fun b o1 o2 hf ⟨o, ho, mu⟩ => ?_) (aside_but hz trivial kp) (x.rel.ok j)
      have nb : b ≠ a := fun z => by
        have ej := x.rel.inj i j a oa ⟨o1, z ▸ o2⟩
        have hl := vAt_some hv
        exact hj ⟨ej, by rw [x.rel.len]; exact (List.getElem?_eq_some_iff.mp hl).1⟩
      have z := kp b o nb ho
      exact ⟨z.1.trans hf, (z.2.mut mu).trans ho.symm⟩
theorem sv_callIO {x y : Str} {p py : Pos} {f k i : Nat} (hf : FnAt X.prog X.w X.K X.mg X.base k x (spIO X.K c.J fun m => c.call f (some m))) (hr : Room k X.A) (hx : Passes (L2N.CX X.prog X.w) X c.E) (hg : Gl X x) (hy : PE X (.Name y py) (tVar i)) (ha : PA X es (TAv X.K c a))
    (hdb : (x == ("__debug__" : Str)) = false := by decide) (hs : starEach (.Name y py :: es) X.env = (false, eval (.Name y py) X.env) :: starEach es X.env := by rfl) (hpl : (backTo pos (starEach es X.env)).any (·.1) = false := by rfl) :
    PE X (.Call (.Name x p) (.Name y py :: es) [] pos) (TEv X.K c (.callIO f i a)) := by
  obtain ⟨fa, fd, ps, hm, hk, hb, F⟩ := hf
  refine PE.mono (pe_call (dvs := []) F hr hg hm hk hb .nil hx (pa_cons hy ha hs) hdb hs hpl) fun σ H Q ⟨F, r, x, h⟩ => ?_
  simp only [den] at h
  cases eo : isOwnL (getS r i) with
  | false => rw [eo] at h; exact h.elim
  | true =>
    rw [eo, if_pos rfl] at h
    obtain ⟨l0, el⟩ : ∃ l, getS r i = .own l := by
      cases e : getS r i with
      | own l => exact ⟨l, rfl⟩
      | un => rw [e] at eo; cases eo
      | sh d => rw [e] at eo; cases eo
      | dicT d => rw [e] at eo; cases eo
      | dicK d => rw [e] at eo; cases eo
      | ins d => rw [e] at eo; cases eo
      | lck d => rw [e] at eo; cases eo
      | exs d => rw [e] at eo; cases eo
    have q0 := x.rel.ok i
    rw [el] at q0
    obtain ⟨a0, vs0, qv, _⟩ := q0
    refine ⟨.ref a0, vAt_some qv, F, r, x, OkA.bind h ?_ ?_⟩
    · intro d r1 nl
      cases d <;> first | rfl | exact absurd rfl (nl _)
    · intro ds r1 vs F1 H1 x1 e1 s1 q1 h1
      show spIO X.K c.J (fun m => c.call f (some m)) ((V.ref a0 :: vs) ++ []) H1 Q c.E
      rw [List.append_nil]
      simp only at h1
      cases eg : getS r1 i with
      | own l =>
        rw [eg] at h1
        simp only at h1
        have q2 := x1.rel.ok i
        rw [eg] at q2
        obtain ⟨a1, ws, z1, z2, z3, z4⟩ := q2
        rw [qv] at z1
        cases z1
        refine ⟨F1, a0, vs, ws, l, ds, rfl, x1.rel.same, x1.tie, z2, z3, z4, q1, ?_⟩
        show match c.call f (some l) ds with | .ok (d, m') => _ | _ => False
        cases ec : c.call f (some l) ds with
        | ok p =>
          obtain ⟨d, m'⟩ := p
          rw [ec] at h1
          intro v F' H' ws' y1 y2 y3 y4 y5 y6 y7
          obtain ⟨x2, ef, ow⟩ := x1.io eg qv y1 y2 y3 y4 y5 y6
          exact h1 v F' H' x2 ef ow y7
        | exc k => rw [ec] at h1; exact h1.elim
        | stuck => rw [ec] at h1; exact h1.elim
      | un => rw [eg] at h1; exact h1.elim
      | sh d => rw [eg] at h1; exact h1.elim
      | dicT d => rw [eg] at h1; exact h1.elim
      | dicK d => rw [eg] at h1; exact h1.elim
      | ins d => rw [eg] at h1; exact h1.elim
      | lck d => rw [eg] at h1; exact h1.elim
      | exs d => rw [eg] at h1; exact h1.elim
def OwnL (r : Env) (σ : St) (a : Addr) : Prop := ∃ i l, getS r i = .own l ∧ vAt σ i = some (.ref a)
open Classical in
noncomputable def frzF (r : Env) (σ : St) (H F : Hp) : Hp := fun b => if OwnL r σ b then H b else F b
open Classical in
noncomputable def outF (r : Env) (σ : St) (F : Hp) : Hp := fun b => if OwnL r σ b then none else F b
theorem OwnL.own {r : Env} {σ : St} {a : Addr} (h : OwnL r σ a) : Own r σ a := let ⟨i, l, e, v⟩ := h; ⟨i, by rw [e]; rfl, v⟩
theorem getS_frz (r : Env) (i : Nat) : getS (frzE r) i = match getS r i with | .own l => .sh (.list l) | s => s := by
  unfold getS frzE
  rw [List.getD_eq_getElem?_getD, List.getD_eq_getElem?_getD, List.getElem?_map]
  cases r[i]? with
  | none => rfl
  | some s => rfl
theorem noDic_get : ∀ {r : Env} {i : Nat}, noDic r = true → (∀ l, getS r i ≠ .dicT l) ∧ (∀ l, getS r i ≠ .dicK l) ∧ (∀ l, getS r i ≠ .ins l) ∧ ∀ l, getS r i ≠ .exs l
  | [], i, _ => by simp [getS]
  | .un :: r, 0, _ => by simp [getS]
  | .sh _ :: r, 0, _ => by simp [getS]
  | .own _ :: r, 0, _ => by simp [getS]
  | .lck _ :: r, 0, _ => by simp [getS]
  | .dicT _ :: r, _, h => by cases h
  | .dicK _ :: r, _, h => by cases h
  | .ins _ :: r, _, h => by cases h
  | .exs _ :: r, _, h => by cases h
  | .un :: r, i + 1, h => by have := noDic_get (r := r) (i := i) h; simpa [getS] using this
  | .sh _ :: r, i + 1, h => by have := noDic_get (r := r) (i := i) h; simpa [getS] using this
  | .own _ :: r, i + 1, h => by have := noDic_get (r := r) (i := i) h; simpa [getS] using this
  | .lck _ :: r, i + 1, h => by have := noDic_get (r := r) (i := i) h; simpa [getS] using this
mutual
theorem dp_out {K : PySem.W.Frag} {F F' : Hp} (e : ∀ b xs, F b = some (.tup xs) → F' b = some (.tup xs)) : ∀ (d : D) (v : V), noList d = true → Dp K F v d → Dp K F' v d
  | .none, _, _, h => by cases h; exact .non
  | .bool _, _, _, h => by cases h; exact .bl _
  | .int _, _, _, h => by cases h; exact .int _
  | .str _, _, _, h => by cases h; exact .str _
  | .list ds, _, n, h => by cases n
  | .tuple ds, _, n, h => by cases h with | tup h1 h2 => exact .tup (e _ _ h1) (dpa_out e ds _ n h2)
  | .dict _, _, _, h => by cases h
theorem dpa_out {K : PySem.W.Frag} {F F' : Hp} (e : ∀ b xs, F b = some (.tup xs) → F' b = some (.tup xs)) : ∀ (ds : List D) (vs : List V), noLists ds = true → DpAll K F vs ds → DpAll K F' vs ds
  | [], _, _, h => by cases h; exact .nil
  | d :: ds, _, n, h => by
    cases h with
    | cons h1 h2 =>
      rw [noLists, Bool.and_eq_true] at n
      exact .cons (dp_out e d _ n.1 h1) (dpa_out e ds _ n.2 h2)
end
theorem tev_peek {K : PySem.W.Frag} {σ : St} {H : Hp} {Q : VK} (h : TEv K c (.peek a) σ H Q) : TEv K c a σ H Q := by
  obtain ⟨F, r, x, h⟩ := h
  simp only [den] at h
  cases hn : noDic r with
  | false => rw [hn] at h; exact h.elim
  | true =>
    rw [hn, if_pos rfl] at h
    have nd1 : ∀ i, isOwn (getS (frzE r) i) = false := fun i => by
      rw [getS_frz]
      have := noDic_get (i := i) hn
      cases e : getS r i with
      | un => rfl
      | sh d => rfl
      | own l => rfl
      | dicT l => exact absurd e (this.1 l)
      | dicK l => exact absurd e (this.2.1 l)
      | ins l => exact absurd e (this.2.2.1 l)
      | lck l => rfl
      | exs l => exact absurd e (this.2.2.2 l)
    have no : ∀ b, ¬ Own (frzE r) σ b := fun b ⟨i, q, _⟩ => by rw [nd1] at q; cases q
    have ol : ∀ b, Own r σ b → OwnL r σ b := fun b ⟨i, q, v⟩ => by
      have := noDic_get (i := i) hn
      cases e : getS r i with
      | un => rw [e] at q; cases q
      | sh d => rw [e] at q; cases q
      | own l => exact ⟨i, l, e, v⟩
      | dicT l => exact absurd e (this.1 l)
      | dicK l => exact absurd e (this.2.1 l)
      | ins l => exact absurd e (this.2.2.1 l)
      | lck l => rw [e] at q; cases q
      | exs l => exact absurd e (this.2.2.2 l)
    have oH : ∀ b, OwnL r σ b → ∃ vs, H b = some (.lst vs) := fun b ⟨i, l, e, v⟩ => by
      have q := x.rel.ok i
      rw [e] at q
      obtain ⟨a', vs, q1, _, q3, _⟩ := q
      rw [v] at q1; cases q1
      exact ⟨vs, q3⟩
    have sF : Same F (frzF r σ H F) := fun b o hb => by
      have nb : ¬ OwnL r σ b := fun q => by
        have := (own_mut x.rel q.own).1
        rw [hb] at this; cases this
      unfold frzF; rw [if_neg nb]; exact hb
    have sH : Same (frzF r σ H F) H := fun b o hb => by
      unfold frzF at hb
      by_cases q : OwnL r σ b
      · rw [if_pos q] at hb; exact hb
      · rw [if_neg q] at hb; exact x.rel.same b o hb
    have x' : Stt K c (frzE r) σ H (frzF r σ H F) := by
      refine ⟨⟨?_, sH, fun i => ?_, fun i j b p _ => absurd ⟨i, p⟩ (no b)⟩, x.tie, fun b o hb n => ?_, fun b q => absurd q (no b), x.pin⟩
      · unfold frzE; rw [List.length_map]; exact x.rel.len
      · rw [getS_frz]
        have q := x.rel.ok i
        cases e : getS r i with
        | un => trivial
        | sh d => rw [e] at q; obtain ⟨v, q1, q2⟩ := q; exact ⟨v, q1, dn_same sF q2⟩
        | own l =>
          rw [e] at q
          obtain ⟨a', vs, q1, q2, q3, q4⟩ := q
          refine ⟨.ref a', q1, Dp.lst ?_ (dpa_same sF _ _ q4)⟩
          show frzF r σ H F a' = _
          unfold frzF; rw [if_pos ⟨i, l, e, q1⟩]; exact q3
        | dicT l => exact absurd e ((noDic_get (i := i) hn).1 l)
        | dicK l => exact absurd e ((noDic_get (i := i) hn).2.1 l)
        | ins l => exact absurd e ((noDic_get (i := i) hn).2.2.1 l)
        | lck l =>
          rw [e] at q
          obtain ⟨p, q1, dx, vs, q2, q3, q4⟩ := q
          exact ⟨p, q1, dx, vs, sF _ _ q2, q3, dpa_same sF _ _ q4⟩
        | exs l => exact absurd e ((noDic_get (i := i) hn).2.2.2 l)
      · have k := x.kp b o hb n
        have nb : ¬ OwnL r σ b := fun q => by
          rcases x.own b q.own with q | q
          · exact n q
          · rw [hb] at q; cases q
        refine ⟨?_, k.2⟩
        unfold frzF; rw [if_neg nb]; exact k.1
    refine ⟨frzF r σ H F, frzE r, x', ?_⟩
    cases ea : den c.call a (frzE r) with
    | ok p =>
      obtain ⟨d, r2⟩ := p
      rw [ea] at h
      simp only at h
      cases hl : noList d with
      | false => rw [hl] at h; exact h.elim
      | true =>
        rw [hl, if_pos rfl] at h
        intro v F2 H2 x2 e2 s2 q2
        have sF2 : Same (frzF r σ H F) F2 := e2.same x'.rel
        have own2 : ∀ b, OwnL r σ b → F2 b = H b ∧ H2 b = H b := fun b q => by
          obtain ⟨vs, hv⟩ := oH b q
          have e3 := e2 b _ hv (no b)
          refine ⟨e3.1.trans ?_, (e3.2.mut trivial).trans hv.symm⟩
          unfold frzF; rw [if_pos q]
        have sO : Same F (outF r σ F2) := fun b o hb => by
          have nb : ¬ OwnL r σ b := fun q => by
            have := (own_mut x.rel q.own).1
            rw [hb] at this; cases this
          unfold outF; rw [if_neg nb]
          exact sF2 b o (sF b o hb)
        have ef : Ef r σ F H (outF r σ F2) H2 := fun b o hb n => by
          have nb : ¬ OwnL r σ b := fun q => n q.own
          have e3 := e2 b o hb (no b)
          refine ⟨?_, e3.2⟩
          unfold outF; rw [if_neg nb, e3.1]
          unfold frzF; rw [if_neg nb]
        have so : Same (outF r σ F2) H2 := fun b o hb => by
          unfold outF at hb
          by_cases q : OwnL r σ b
          · rw [if_pos q] at hb; cases hb
          · rw [if_neg q] at hb; exact x2.rel.same b o hb
        have x3 : Stt K c r σ H2 (outF r σ F2) := by
          refine x.step ⟨x.rel.len, so, fun i => ?_, x.rel.inj⟩ x2.tie ef fun _ z => z
          refine slot_same sO (fun b o1 o2 _ _ => ?_) (aside_ef x.rel ef) (x.rel.ok i)
          have ob : OwnL r σ b := ol b ⟨i, o1, o2⟩
          refine ⟨?_, (own2 b ob).2⟩
          unfold outF; rw [if_pos ob]
        refine h v (outF r σ F2) H2 x3 ef (fun _ z => z) (Dn.of (dp_out (F := F2) (fun b xs hb => ?_) d v hl (q2.dp (fun kvs z => by subst z; cases hl))))
        have nb : ¬ OwnL r σ b := fun q => by
          obtain ⟨vs, hv⟩ := oH b q
          rw [(own2 b q).1, hv] at hb; cases hb
        unfold outF; rw [if_neg nb]; exact hb
    | exc k => rw [ea] at h; exact h.elim
    | stuck => rw [ea] at h; exact h.elim
theorem sv_peek (h : PE X e (TEv X.K c a)) : PE X e (TEv X.K c (.peek a)) := PE.mono h fun _ _ _ q => tev_peek q
theorem sw_peek (h : PT X e (TTv X.K c a)) : PT X e (TTv X.K c (.peek a)) := PT.mono h fun _ _ _ q => tev_peek q
end
end Bm
end
section
set_option Elab.async false
set_option linter.all false
set_option maxRecDepth 100000
set_option maxHeartbeats 1000000
namespace Bm
open PySem PySem.Spec L2
/-- what is wanted behind a statement -/
def OkS (K : PySem.W.Frag) (c : Cfg) (F0 : Hp) (x : RS) (D : Ends) : Prop :=
  match x with
  | .nxt r => ∀ (σ : St) (H F : Hp), Stt K c r σ H F → Same F0 F → D.nx σ H
  | .ret d r => ∀ (v : V) (σ : St) (H F : Hp), Stt K c r σ H F → Same F0 F → Dn K F v d → D.rt v H
  | .exc k => ∀ (F' H' : Hp), c.J H' → Same F' H' → Kp c.W F' H' → c.E (c.cl k) none H'
  | .stuck => False
def TSv (K : PySem.W.Frag) (c : Cfg) (s : S) : TS := fun D σ H => ∃ F r, Stt K c r σ H F ∧ OkS K c F (denS c.call s r) D
theorem OkS.shift {K : PySem.W.Frag} {c : Cfg} {F F1 : Hp} {x : RS} {D : Ends} (h : OkS K c F x D) (s : Same F F1) : OkS K c F1 x D := by
  cases x with
  | nxt r => exact fun σ H F' y z => h σ H F' y (s.trans z)
  | ret d r => exact fun v σ H F' y z => h v σ H F' y (s.trans z)
  | exc k => exact h
  | stuck => exact h
section
variable {X : Cx} {c : Cfg} {e e1 e2 : Expr} {es : List Expr} {a b m : E} {pos : Pos} {sta : Stmt} {rest sts sts' : List Stmt} {s s1 s2 : S}
theorem PS.mono {t u : TS} (h : PS X sta t) (i : ∀ D σ H, u D σ H → t D σ H) : PS X sta u := ⟨fun pins s σ H D I q => h.run pins s σ H D I (i D σ H q)⟩
theorem PSs.mono {t u : TS} (h : PSs X sts t) (i : ∀ D σ H, u D σ H → t D σ H) : PSs X sts u := ⟨fun pins s σ H D I q => h.run pins s σ H D I (i D σ H q)⟩
theorem ss_nil : PSs X [] (TSv X.K c .skip) := PSs.mono pss_nil fun D σ H ⟨F, r, x, h⟩ => h σ H F x (Same.refl _)
theorem ss_one (h : PS X sta (TSv X.K c s)) : PSs X [sta] (TSv X.K c s) := pss_one h
theorem tsv_seq {K : PySem.W.Frag} {D : Ends} {σ : St} {H : Hp} (h : TSv K c (.seq s1 s2) D σ H) : tSeq (TSv K c s1) (TSv K c s2) D σ H := by
  obtain ⟨F, r, x, h⟩ := h
  refine ⟨F, r, x, ?_⟩
  simp only [denS] at h
  cases e : denS c.call s1 r with
  | nxt r1 => rw [e] at h; exact fun σ1 H1 F1 x1 s1 => ⟨F1, r1, x1, OkS.shift h s1⟩
  | ret d r1 => rw [e] at h; exact h
  | exc k => rw [e] at h; exact h
  | stuck => rw [e] at h; exact h
theorem ss_cons (h1 : PS X sta (TSv X.K c s1)) (h2 : PSs X rest (TSv X.K c s2)) : PSs X (sta :: rest) (TSv X.K c (.seq s1 s2)) := PSs.mono (pss_cons h1 h2) fun _ _ _ q => tsv_seq q
/-- from an expression to a statement's end -/
theorem okE_stmt {K : PySem.W.Frag} {σ : St} {F H : Hp} {r : Env} {Q : VK} {N : Ends} {g : D × Env → RS} (x : Stt K c r σ H F) (h : OkS K c F (match den c.call a r with | .ok p => g p | .exc k => .exc k | .stuck => .stuck) N)
    (f : ∀ d r1 v F1 H1, Mid K c r σ F H d r1 v F1 H1 → OkS K c F1 (g (d, r1)) N → Q v H1) : OkE K c r σ F H (den c.call a r) Q := by
  cases e : den c.call a r with
  | ok p => rw [e] at h; obtain ⟨d, r1⟩ := p; exact fun v F1 H1 x1 e s q => f d r1 v F1 H1 ⟨x1, e, s, q⟩ (OkS.shift h (e.same x.rel))
  | exc k => rw [e] at h; exact h
  | stuck => rw [e] at h; exact h
theorem denS_asg (call : CallS) (tg : Tg) (e : E) (r : Env) : denS call (.asg tg e) r = (match den call e r with | .ok p => (match bindT tg p.1 p.2 with | some r2 => .nxt r2 | none => .stuck) | .exc k => .exc k | .stuck => .stuck) := by
  simp only [denS]; cases den call e r <;> rfl
theorem denS_ret (call : CallS) (e : E) (r : Env) : denS call (.ret e) r = (match den call e r with | .ok p => .ret p.1 p.2 | .exc k => .exc k | .stuck => .stuck) := by
  simp only [denS]; cases den call e r <;> rfl
theorem denS_expr (call : CallS) (e : E) (r : Env) : denS call (.expr e) r = (match den call e r with | .ok p => .nxt p.2 | .exc k => .exc k | .stuck => .stuck) := by
  simp only [denS]; cases den call e r <;> rfl
def TGv (K : PySem.W.Frag) (c : Cfg) (tg : Tg) (g : TG) : Prop := ∀ (v : V) (d : D) (r r' : Env) (σ : St) (F H : Hp) (Q : St → Hp → Prop), Stt K c r σ H F → Dn K F v d → bindT tg d r = some r' →
  (∀ σ', Stt K c r' σ' H F → (∀ i, (match tg with | .name j => i ≠ j | .tup is => i ∉ is | .lst is => i ∉ is) → σ'[i]? = σ[i]?) → σ'.length = σ.length → Q σ' H) → g v σ H Q
theorem tg_name {K : PySem.W.Frag} {i : Nat} (hz : ZOk c [i] := by exact ⟨_, by assumption, by decide⟩) : TGv K c (.name i) (gName i) := by
  intro v d r r' σ F H Q x q e h
  simp only [bindT] at e
  cases e
  refine h _ (x.put_sh hz q) (fun j hj => ?_) (List.length_set ..)
  rw [List.getElem?_set_ne (fun z => hj z.symm)]
def gNames : List Nat → TGs
  | [] => gNil
  | i :: is => gCons (gName i) (gNames is)
theorem tg_names {K : PySem.W.Frag} : ∀ (is : List Nat) (hz : ZOk c is) (vs : List V) (ds : List D) (r r' : Env) (σ : St) (F H : Hp) (Q : St → Hp → Prop), Stt K c r σ H F → DpAll K F vs ds → putAll r is ds = some r' →
    (∀ σ', Stt K c r' σ' H F → (∀ i, i ∉ is → σ'[i]? = σ[i]?) → σ'.length = σ.length → Q σ' H) → gNames is vs σ H Q
  | [], hz, vs, ds, r, r', σ, F, H, Q, x, q, e, h => by
    cases ds with
    | nil =>
      cases q
      simp only [putAll] at e
      cases e
      exact ⟨rfl, h σ x (fun _ _ => rfl) rfl⟩
    | cons d ds => cases e
  | i :: is, hz, vs, ds, r, r', σ, F, H, Q, x, q, e, h => by
    cases ds with
    | nil => cases e
    | cons d ds =>
      cases q with
      | cons q1 q2 =>
        simp only [putAll] at e
        refine ⟨_, _, rfl, tg_names is hz.tail _ _ _ _ _ F H Q (x.put_sh hz.head (Dn.of q1)) q2 e fun σ' x' k hl => h σ' x' (fun j hj => ?_) (hl.trans (List.length_set ..))⟩
        rw [k j (fun z => hj (List.mem_cons_of_mem _ z)), List.getElem?_set_ne (fun z => hj (by rw [z]; exact List.mem_cons_self))]
theorem putAll_len : ∀ {is : List Nat} {ds : List D} {r r' : Env}, putAll r is ds = some r' → ds.length = is.length
  | [], [], _, _, _ => rfl
  | _ :: _, _ :: _, _, _, h => by simp only [putAll] at h; simp [putAll_len h]
  | [], _ :: _, _, _, h => by cases h
  | _ :: _, [], _, _, h => by cases h
theorem tg_tup {K : PySem.W.Frag} {is : List Nat} {n : Nat} (hn : is.length = n) (hz : ZOk c is := by exact ⟨_, by assumption, by decide⟩) : TGv K c (.tup is) (gTup K n (gNames is)) := by
  intro v d r r' σ F H Q x q e h
  cases d with
  | tuple ds =>
    have q' : Dp K F v (.tuple ds) := q
    cases q' with
    | tup h1 h2 =>
      simp only [bindT] at e
      refine ⟨_, _, rfl, .inl (.inl (x.rel.same _ _ h1)), ?_, tg_names is hz _ ds r r' σ F H Q x h2 e h⟩
      rw [dpa_len h2, putAll_len e, hn]
  | _ => cases e
theorem tg_lst {K : PySem.W.Frag} {is : List Nat} {n : Nat} (hn : is.length = n) (hz : ZOk c is := by exact ⟨_, by assumption, by decide⟩) : TGv K c (.lst is) (gUnl K n (gNames is)) := by
  intro v d r r' σ F H Q x q e h
  cases d with
  | list ds =>
    have q' : Dp K F v (.list ds) := q
    cases q' with
    | lst h1 h2 =>
      simp only [bindT] at e
      refine ⟨_, _, rfl, SqL.of (x.rel.same _ _ h1), ?_, tg_names is hz _ ds r r' σ F H Q x h2 e h⟩
      rw [dpa_len h2, putAll_len e, hn]
  | _ => cases e
theorem pgs_names {x : Str} {i : Nat} {is : List Nat} {ts : List Expr} (h1 : PG X (.Name x pos) (gName i)) (h2 : PGs X ts (gNames is)) (hs : (assignEach (.Name x pos :: ts) X.env).map (·.2) = assign (.Name x pos) X.env :: (assignEach ts X.env).map (·.2) := by rfl) :
    PGs X (.Name x pos :: ts) (gNames (i :: is)) := pgs_cons h1 h2 hs
theorem pgs_none : PGs X [] (gNames []) := pgs_nil
theorem ss_asg {tg : Expr} {t : Tg} {g : TG} (ht : TGv X.K c t g) (he : PE X e (TEv X.K c a)) (hg : PG X tg g) (hs : swapsWithSole [tg] e pos.line X.env = pure false := by rfl) (hw : swappedStores [tg] e X.env = pure none := by rfl)
    (h1 : (assignEach [tg] X.env).map (·.2) = [assign tg X.env] := by rfl) : PS X (.Assign [tg] e pos) (TSv X.K c (.asg t a)) := by
  refine PS.mono (ps_asg he hg hs hw h1) fun D σ H ⟨F, r, x, h⟩ => ⟨F, r, x, ?_⟩
  rw [denS_asg] at h
  refine okE_stmt x h fun d r1 v F1 H1 ⟨x1, _, _, q1⟩ h1 => ?_
  simp only at h1
  cases eb : bindT t d r1 with
  | none => rw [eb] at h1; exact h1.elim
  | some r2 =>
    rw [eb] at h1
    exact ht v d r1 r2 σ F1 H1 D.nx x1 q1 eb fun σ' x' _ _ => h1 σ' H1 F1 x' (Same.refl _)
theorem ss_ret (he : PE X e (TEv X.K c a)) : PS X (.Return (some e) pos) (TSv X.K c (.ret a)) := by
  refine PS.mono (ps_ret he) fun D σ H ⟨F, r, x, h⟩ => ⟨F, r, x, ?_⟩
  rw [denS_ret] at h
  exact okE_stmt x h fun d r1 v F1 H1 ⟨x1, _, _, q1⟩ h1 => h1 v σ H1 F1 x1 (Same.refl _) q1
theorem ss_expr (he : PE X e (TEv X.K c a)) (hs : swapsWith e none pos.line X.env = pure false := by rfl) : PS X (.Expr e pos) (TSv X.K c (.expr a)) := by
  refine PS.mono (ps_expr he hs) fun D σ H ⟨F, r, x, h⟩ => ⟨F, r, x, ?_⟩
  rw [denS_expr] at h
  exact okE_stmt x h fun d r1 v F1 H1 ⟨x1, _, _, q1⟩ h1 => h1 σ H1 F1 x1 (Same.refl _)
theorem ss_if (hc : PT X e (TTv X.K c m)) (ha : PSs X sts (TSv X.K c s1)) (hb : PSs X sts' (TSv X.K c s2)) : PS X (.If e sts sts' pos) (TSv X.K c (.ifs m s1 s2)) := by
  refine PS.mono (ps_if hc ha hb) fun D σ H ⟨F, r, x, h⟩ => ⟨F, r, x, ?_⟩
  simp only [denS] at h
  cases e : den c.call m r with
  | ok p =>
    obtain ⟨d, r1⟩ := p
    rw [e] at h
    intro v F1 H1 x1 e1 s1 q1
    cases d with
    | bool k =>
      refine ⟨k, dn_bool q1, ?_⟩
      cases k with
      | true => exact iteT ⟨F1, r1, x1, OkS.shift h (e1.same x.rel)⟩
      | false => exact iteF ⟨F1, r1, x1, OkS.shift h (e1.same x.rel)⟩
    | none => exact h.elim
    | int _ => exact h.elim
    | str _ => exact h.elim
    | list _ => exact h.elim
    | tuple _ => exact h.elim
    | dict _ => exact h.elim
  | exc k => rw [e] at h; exact h
  | stuck => rw [e] at h; exact h
theorem ss_while {n : Nat} (hp : PassesOwn (model X.prog X.w) X.A X.env X.xe) (hc : PT X e (TTv X.K c m)) (hb : PSs X sts (TSv X.K c s)) : PS X (.While e sts [] pos) (TSv X.K c (.while_ n m s)) := by
  refine PS.mono (ps_while hp hc hb) fun D σ H ⟨F, r, x, h⟩ => ?_
  simp only [denS] at h
  refine ⟨fun k σ H => ∃ F r, Stt X.K c r σ H F ∧ OkS X.K c F (whileLoop (den c.call m) (denS c.call s) k r) D, ⟨n, F, r, x, h⟩, fun k σ H ⟨F, r, x, h⟩ => ⟨F, r, x, ?_⟩⟩
  cases k with
  | zero => exact h.elim
  | succ k =>
    simp only [whileLoop] at h
    cases e : den c.call m r with
    | ok p =>
      obtain ⟨d, r1⟩ := p
      rw [e] at h
      intro v F1 H1 x1 e1 s1 q1
      cases d with
      | bool t =>
        refine ⟨t, dn_bool q1, ?_⟩
        cases t with
        | true =>
          refine iteT ⟨fun σ' H' => ∃ F' r', Stt X.K c r' σ' H' F' ∧ OkS X.K c F' (whileLoop (den c.call m) (denS c.call s) k r') D, fun σ' H' z => ⟨k, Nat.lt_succ_self _, z⟩, F1, r1, x1, ?_⟩
          simp only at h
          have h := OkS.shift h (e1.same x.rel)
          cases eb : denS c.call s r1 with
          | nxt r2 => rw [eb] at h; exact fun σ2 H2 F2 x2 s2 => ⟨F2, r2, x2, OkS.shift h s2⟩
          | ret d r2 => rw [eb] at h; exact h
          | exc k => rw [eb] at h; exact h
          | stuck => rw [eb] at h; exact h
        | false => exact iteF (h σ H1 F1 x1 (e1.same x.rel))
      | none => exact h.elim
      | int _ => exact h.elim
      | str _ => exact h.elim
      | list _ => exact h.elim
      | tuple _ => exact h.elim
      | dict _ => exact h.elim
    | exc k => rw [e] at h; exact h
    | stuck => rw [e] at h; exact h
/-- J gives the data items, one after another, while F stands -/
structure Yields (K : PySem.W.Frag) (F : Hp) (J : It) (items : List D) : Prop where
  go : ∀ i H F', Same F F' → Same F' H → i < items.length → J.go i H
  stop : ∀ i H F', Same F F' → Same F' H → items.length ≤ i → J.stop i H
  yld : ∀ i H F' x H', i < items.length → Same F F' → Same F' H → J.yld i H x H' → ∃ F'', Same H H' ∧ Same F'' H' ∧ (∀ b u, H b = some u → F'' b = F' b) ∧ ∃ d, items[i]? = some d ∧ Dn K F'' x d
def TIv (K : PySem.W.Frag) (c : Cfg) (src : E) : TI := fun σ H R => ∃ F r, Stt K c r σ H F ∧
  match den c.call src r with
  | .ok (.list items, r') => ∀ (J : It) (F' H' : Hp), Stt K c r' σ H' F' → Ef r σ F H F' H' → (∀ a, Own r' σ a → Own r σ a) → Yields K F' J items → R J H'
  | .exc k => ∀ (F' H' : Hp), c.J H' → Same F' H' → Kp c.W F' H' → c.E (c.cl k) none H'
  | _ => False
theorem PI.mono {tg iter : Expr} {t u : TI} (h : PI X tg iter t) (i : ∀ σ H R, u σ H R → t σ H R) : PI X tg iter u := ⟨fun pins s σ H R I q => h.run pins s σ H R I (i σ H R q)⟩
theorem ss_for {tg iter : Expr} {t : Tg} {g : TG} {src : E} (hp : PassesOwn (model X.prog X.w) X.A X.env X.xe) (hc : X.calm = true) (hi : PI X tg iter (TIv X.K c src)) (ht : TGv X.K c t g) (hg : PG X tg g) (hb : PSs X sts (TSv X.K c s))
    (hs : ∀ x, foldedSetIterable iter X.env x = pure x := by intro _; rfl) : PS X (.For tg iter sts [] pos) (TSv X.K c (.for_ t src s)) := by
  refine PS.mono (ps_for hp hc hi hg hb hs) fun D σ H ⟨F, r, x, h⟩ => ⟨F, r, x, ?_⟩
  simp only [denS] at h
  cases e : den c.call src r with
  | ok p =>
    obtain ⟨d, r1⟩ := p
    rw [e] at h
    cases d with
    | list items =>
      intro J F1 H1 x1 ef1 _ Y
      refine ⟨fun i k σ H => ∃ F' r', Stt X.K c r' σ H F' ∧ Same F1 F' ∧ k = items.length - i ∧ OkS X.K c F' (forLoop (bindT t) (denS c.call s) (items.drop i) r') D, ⟨_, F1, r1, x1, Same.refl _, rfl, OkS.shift h (ef1.same x.rel)⟩, fun i k σ H ⟨F', r', x', sm, ek, ok⟩ => ?_⟩
      by_cases hi : i < items.length
      · refine .inr ⟨Y.go i H F' sm x'.rel.same hi, fun σ2 H2 => ∃ F' r', Stt X.K c r' σ2 H2 F' ∧ Same F1 F' ∧ OkS X.K c F' (forLoop (bindT t) (denS c.call s) (items.drop (i + 1)) r') D, fun σ2 H2 ⟨F2, r2, x2, sm2, ok2⟩ => ⟨items.length - (i + 1), by omega, F2, r2, x2, sm2, rfl, ok2⟩, fun v H2 y => ?_⟩
        obtain ⟨F2, g1, g2, g3, d, ed, qd⟩ := Y.yld i H F' v H2 hi sm x'.rel.same y
        obtain ⟨x2, ef2⟩ := x'.grown g1 g2 g3
        have ed' : items.drop i = d :: items.drop (i + 1) := by
          rw [List.getElem?_eq_getElem hi] at ed
          cases ed
          exact List.drop_eq_getElem_cons hi
        rw [ed'] at ok
        simp only [forLoop] at ok
        cases eb : bindT t d r' with
        | none => rw [eb] at ok; exact ok.elim
        | some r2 =>
          rw [eb] at ok
          simp only at ok
          have sm2 : Same F1 F2 := sm.trans (ef2.same x'.rel)
          refine ht v d r' r2 σ F2 H2 _ x2 qd eb fun σ' x3 _ _ => ⟨F2, r2, x3, ?_⟩
          have ok := OkS.shift ok (ef2.same x'.rel)
          cases eb : denS c.call s r2 with
          | nxt r4 => rw [eb] at ok; exact fun σ4 H4 F4 x4 s4 => ⟨F4, r4, x4, sm2.trans s4, OkS.shift ok s4⟩
          | ret d r4 => rw [eb] at ok; exact ok
          | exc k => rw [eb] at ok; exact ok
          | stuck => rw [eb] at ok; exact ok
      · refine .inl ⟨Y.stop i H F' sm x'.rel.same (by omega), ?_⟩
        rw [List.drop_eq_nil_of_le (by omega)] at ok
        exact ok σ H F' x' (Same.refl _)
    | none => exact h.elim
    | bool _ => exact h.elim
    | int _ => exact h.elim
    | str _ => exact h.elim
    | tuple _ => exact h.elim
    | dict _ => exact h.elim
  | exc k => rw [e] at h; exact h
  | stuck => rw [e] at h; exact h
end
end Bm
end
section
set_option Elab.async false
set_option linter.all false
set_option maxRecDepth 100000
set_option maxHeartbeats 1000000
namespace Bm
open PySem PySem.Spec L2
/-- a value as it is to be held: shared, or new and held by nobody else -/
def FrOk (K : PySem.W.Frag) (r : Env) (σ : St) (F H : Hp) (m : Nat) (v : V) (d : D) : Prop :=
  match m with
  | 0 => Dn K F v d
  | m + 1 => ∃ a, v = .ref a ∧ F a = none ∧ ¬ Own r σ a ∧ match m with
    | 0 => ∃ vs l, d = .list l ∧ H a = some (.lst vs) ∧ DpAll K F vs l
    | 1 => d = .dict [] ∧ H a = some (.dT [])
    | 3 => ∃ l, d = .list l ∧ InsAt K F H a l
    | _ => d = .dict [] ∧ H a = some (.dK [])
theorem FrOk.mut {K : PySem.W.Frag} {r : Env} {σ : St} {F H : Hp} {m : Nat} {a : Addr} {d : D} (h : FrOk K r σ F H (m + 1) (.ref a) d) : ∃ o, H a = some o ∧ isMut o := by
  obtain ⟨a', e, _, _, q⟩ := h
  cases e
  match m, q with
  | 0, ⟨vs, l, _, q, _⟩ => exact ⟨_, q, trivial⟩
  | 1, ⟨_, q⟩ => exact ⟨_, q, trivial⟩
  | 2, ⟨_, q⟩ => exact ⟨_, q, trivial⟩
  | 3, ⟨_, _, _, _, q, _⟩ => exact ⟨_, q, trivial⟩
  | _ + 4, ⟨_, q⟩ => exact ⟨_, q, trivial⟩
theorem FrOk.ref {K : PySem.W.Frag} {r : Env} {σ : St} {F H : Hp} {m : Nat} {v : V} {d : D} (h : FrOk K r σ F H (m + 1) v d) : ∃ a, v = .ref a := let ⟨a, e, _⟩ := h; ⟨a, e⟩
/-- .. it stays so while other expressions are read -/
theorem FrOk.keep {K : PySem.W.Frag} {r r' : Env} {σ : St} {F H F' H' : Hp} {m : Nat} {v : V} {d : D} (h : FrOk K r σ F H m v d) (x : Rel K r σ H F) (e : Ef r σ F H F' H') (s : ∀ a, Own r' σ a → Own r σ a) : FrOk K r' σ F' H' m v d := by
  match m, h with
  | 0, h => exact dn_same (e.same x) h
  | m + 1, h =>
    obtain ⟨a, rfl⟩ := h.ref
    obtain ⟨o, ho, mu⟩ := h.mut
    obtain ⟨a', e', f0, no, q⟩ := h
    cases e'
    have z := e a o ho no
    have hH : H' a = H a := (z.2.mut mu).trans ho.symm
    refine ⟨a, rfl, z.1.trans f0, fun w => no (s a w), ?_⟩
    match m, q with
    | 0, ⟨vs, l, q1, q2, q3⟩ => exact ⟨vs, l, q1, hH.trans q2, dpa_same (e.same x) _ _ q3⟩
    | 1, ⟨q1, q2⟩ => exact ⟨q1, hH.trans q2⟩
    | 2, ⟨q1, q2⟩ => exact ⟨q1, hH.trans q2⟩
    | 3, ⟨l, q1, q2⟩ => exact ⟨l, q1, ins_same (e.same x) hH q2⟩
    | _ + 4, ⟨q1, q2⟩ => exact ⟨q1, hH.trans q2⟩
theorem FrOk.slot {K : PySem.W.Frag} {r : Env} {σ : St} {F H : Hp} {m : Nat} {v : V} {d : D} {s : Slot} (h : FrOk K r σ F H m v d) (e : slotM m d = some s) : SlotOk K F H s (some v) := by
  match m, h with
  | 0, h => simp only [slotM] at e; cases e; exact ⟨v, rfl, h⟩
  | 1, ⟨a, ev, f0, _, vs, l, q1, q2, q3⟩ =>
    subst q1
    simp only [slotM] at e; cases e
    subst ev
    exact ⟨a, vs, rfl, f0, q2, q3⟩
  | 2, ⟨a, ev, f0, _, q1, q2⟩ =>
    subst q1
    simp only [slotM] at e; cases e
    subst ev
    exact ⟨a, [], rfl, f0, q2, .nil, List.nodup_nil⟩
  | 3, ⟨a, ev, f0, _, q1, q2⟩ =>
    subst q1
    simp only [slotM] at e; cases e
    subst ev
    exact ⟨a, [], rfl, f0, q2, .nil, List.nodup_nil⟩
  | 4, ⟨a, ev, f0, _, l, q1, q2⟩ =>
    subst q1
    simp only [slotM] at e; cases e
    subst ev
    exact ⟨a, rfl, f0, q2⟩
  | _ + 5, _ => simp [slotM] at e
theorem slotM_own {m : Nat} {d : D} {s : Slot} (e : slotM m d = some s) (h : isOwn s = true) : ∃ k, m = k + 1 := by
  cases m with
  | zero => simp only [slotM] at e; cases e; cases h
  | succ k => exact ⟨k, rfl⟩
def OkF (K : PySem.W.Frag) (c : Cfg) (m : Nat) (r : Env) (σ : St) (F H : Hp) (x : R (D × Env)) (Q : VK) : Prop :=
  match x with
  | .ok (d, r') => ∀ (v : V) (F' H' : Hp), Stt K c r' σ H' F' → Ef r σ F H F' H' → (∀ a, Own r' σ a → Own r σ a) → FrOk K r' σ F' H' m v d → (∀ a k, m = k + 1 → v = .ref a → (c.W.O0 a ∨ c.W.H0 a = none) ∧ ∀ b o, H b = some o → ¬ Own r σ b → a ≠ b) → Q v H'
  | .exc k => ∀ (F' H' : Hp), c.J H' → Same F' H' → Kp c.W F' H' → c.E (c.cl k) none H'
  | .stuck => False
/-- an expression, its value to be held as m says -/
def TEf (K : PySem.W.Frag) (c : Cfg) (m : Nat) (e : E) : TE := fun σ H Q => ∃ F r, Stt K c r σ H F ∧ OkF K c m r σ F H (den c.call e r) Q
section
variable {X : Cx} {c : Cfg} {e e1 e2 : Expr} {es : List Expr} {a b m : E} {pos : Pos} {sta : Stmt} {rest sts sts' : List Stmt} {s s1 s2 : S}
theorem sf_val (h : PE X e (TEv X.K c a)) : PE X e (TEf X.K c 0 a) := by
  refine PE.mono h fun σ H Q ⟨F, r, x, h⟩ => ⟨F, r, x, ?_⟩
  cases ed : den c.call a r with
  | ok p => rw [ed] at h; exact fun v F' H' x' ef s q => h v F' H' x' ef s q fun _ _ z => by cases z
  | exc k => rw [ed] at h; exact h
  | stuck => rw [ed] at h; exact h
/-- the owner's new place in a fresh object: nobody owns what does not stand -/
theorem not_own {K : PySem.W.Frag} {r : Env} {σ : St} {H F : Hp} (x : Rel K r σ H F) {p : Addr} (h : H p = none) : ¬ Own r σ p := fun q => by
  obtain ⟨_, o, ho, _⟩ := own_mut x q
  rw [h] at ho; cases ho
theorem Stt.fresh {K : PySem.W.Frag} {r : Env} {σ : St} {H F : Hp} (x : Stt K c r σ H F) {p : Addr} (h : H p = none) : c.W.O0 p ∨ c.W.H0 p = none := by
  by_cases o : c.W.O0 p
  · exact .inl o
  · cases e : c.W.H0 p with
    | none => exact .inr rfl
    | some u =>
      obtain ⟨o', q⟩ := (x.kp p u e o).2.ex
      rw [h] at q; cases q
theorem ef_ne {r : Env} {σ : St} {F H F1 H1 : Hp} (e : Ef r σ F H F1 H1) {p : Addr} (h : H1 p = none) : ∀ b o, H b = some o → ¬ Own r σ b → p ≠ b := fun b o hb n z => by
  obtain ⟨o', q⟩ := (e b o hb n).2.ex
  rw [← z, h] at q; cases q
/-- a new list laid for its owner -/
theorem lay_list {K : PySem.W.Frag} {r : Env} {σ : St} {H F : Hp} (x : Stt K c r σ H F) {p : Addr} {vs : List V} {l : List D} (h : H p = none) (q : DpAll K F vs l) :
    Stt K c r σ (upd H p (.lst vs)) F ∧ Ef r σ F H F (upd H p (.lst vs)) ∧ FrOk K r σ F (upd H p (.lst vs)) 1 (.ref p) (.list l) := by
  have g : Grow F H F (upd H p (.lst vs)) := Grow.lay x.rel.same h
  exact ⟨g.stt x (x.jup h), g.ef, p, rfl, x.rel.same.free h, not_own x.rel h, vs, l, rfl, upd_same, q⟩
theorem sf_list (ha : PA X es (TAv X.K c a)) : PE X (.List es pos) (TEf X.K c 1 (.op .mkl a)) := by
  refine PE.mono (pe_lst ha) fun σ H Q ⟨F, r, x, h⟩ => ⟨F, r, x, ?_⟩
  simp only [den] at h
  cases ed : den c.call a r with
  | ok p =>
    obtain ⟨d, r1⟩ := p
    rw [ed] at h
    simp only [R.ok_bind] at h
    cases d with
    | list ds =>
      intro vs F1 H1 x1 e1 s1 q1
      simp only [opD, dop_mkl, guardO] at h
      by_cases hl : (decide (ds.length ≤ lim) && ds.all nd) = true
      · rw [if_pos hl] at h
        rw [Bool.and_eq_true, decide_eq_true_eq] at hl
        have qd : DpAll X.K F1 vs ds := by
          have hall := hl.2
          clear h hl ed
          induction q1 with
          | nil => exact .nil
          | cons h t ih =>
            rw [List.all_cons, Bool.and_eq_true] at hall
            exact .cons (h.dp (nd_of hall.1)) (ih hall.2)
        refine ⟨?_, fun p np => ?_⟩
        · rw [dpa_len qd]
          refine Nat.le_trans hl.1 ?_
          rw [sizeLine_eq]; decide
        · obtain ⟨x2, ef2, fr⟩ := lay_list x1 np qd
          exact h (.ref p) F1 _ x2 (e1.trans ef2 s1) s1 fr fun a' k _ ev => by
            cases ev
            exact ⟨x1.fresh np, ef_ne e1 np⟩
      · rw [if_neg hl] at h; exact h.elim
    | none => exact h.elim
    | bool _ => exact h.elim
    | int _ => exact h.elim
    | str _ => exact h.elim
    | tuple _ => exact h.elim
    | dict _ => exact h.elim
  | exc k => rw [ed] at h; exact h
  | stuck => rw [ed] at h; exact h
theorem sf_dT : PE X (.Dict [] [] pos) (TEf X.K c 2 (.lit (.dict []))) := by
  refine PE.mono pe_dnewT fun σ H Q ⟨F, r, x, h⟩ p np => ?_
  have g : Grow F H F (upd H p (.dT [])) := Grow.lay x.rel.same np
  exact h (.ref p) F _ (g.stt x (x.jup np)) g.ef (fun _ z => z) ⟨p, rfl, x.rel.same.free np, not_own x.rel np, rfl, upd_same⟩ fun a' k _ ev => by
    cases ev
    exact ⟨x.fresh np, ef_ne (Ef.refl (F := F)) np⟩
theorem Stt.putF {K : PySem.W.Frag} {r : Env} {σ : St} {H F : Hp} (x : Stt K c r σ H F) {i m : Nat} {v : V} {d : D} {sl : Slot} (hz : ZOk c [i]) (h : FrOk K r σ F H m v d) (w : ∀ a k, m = k + 1 → v = .ref a → c.W.O0 a ∨ c.W.H0 a = none) (e : slotM m d = some sl) :
    Stt K c (putS r i sl) (σ.set i (some v)) H F := by
  refine x.put hz (h.slot e) fun a o ev => ?_
  obtain ⟨k, rfl⟩ := slotM_own e o
  obtain ⟨a', e', _, no, _⟩ := h
  rw [ev] at e'; cases e'
  exact ⟨no, w a k rfl ev⟩
theorem denS_asgM (call : CallS) (i m : Nat) (e : E) (r : Env) : denS call (.asgM i m e) r = (match den call e r with | .ok p => (match slotM m p.1 with | some s => .nxt (putS p.2 i s) | none => .stuck) | .exc k => .exc k | .stuck => .stuck) := by
  simp only [denS]; cases den call e r <;> rfl
/-- name = a value that is held as m says -/
theorem ss_asgM {i mm : Nat} {x : Str} {pos' : Pos} (hN : X.N.Nodup) (hi : X.N[i]? = some x) (hx : Loc X.env.scope x) (he : PE X e (TEf X.K c mm a)) (hz : ZOk c [i] := by exact ⟨_, by assumption, by decide⟩) (hs : swapsWith e (some (.Name x pos')) pos.line X.env = pure false := by rfl)
    (hf : X.fn x = true ∨ X.env.scope.names.lookup x = some .local := by first | exact .inl rfl | exact .inr rfl | assumption) : PS X (.Assign [.Name x pos'] e pos) (TSv X.K c (.asgM i mm a)) := by
  refine PS.mono (ps_set hN hi hx he hs hf) fun D σ H ⟨F, r, x, h⟩ => ⟨F, r, x, ?_⟩
  rw [denS_asgM] at h
  cases ed : den c.call a r with
  | ok p =>
    obtain ⟨d, r1⟩ := p
    rw [ed] at h
    simp only at h
    intro v F1 H1 x1 e1 s1 q1 w1
    cases es : slotM mm d with
    | none => rw [es] at h; exact h.elim
    | some sl =>
      rw [es] at h
      exact h _ H1 F1 (x1.putF hz q1 (fun a k z z' => (w1 a k z z').1) es) (e1.same x.rel)
  | exc k => rw [ed] at h; exact h
  | stuck => rw [ed] at h; exact h
/-- values, each held in its way; the new ones are apart -/
inductive FrAll (K : PySem.W.Frag) (c : Cfg) (r : Env) (σ : St) (F H : Hp) : List Nat → List V → List D → Prop where
  | nil : FrAll K c r σ F H [] [] []
  | cons {m : Nat} {ms : List Nat} {v : V} {vs : List V} {d : D} {ds : List D} : FrOk K r σ F H m v d → (∀ a k, m = k + 1 → v = .ref a → (c.W.O0 a ∨ c.W.H0 a = none) ∧ ∀ u ∈ (List.zip ms vs), u.1 ≠ 0 → u.2 ≠ .ref a) → FrAll K c r σ F H ms vs ds →
      FrAll K c r σ F H (m :: ms) (v :: vs) (d :: ds)
def OkFA (K : PySem.W.Frag) (c : Cfg) (ms : List Nat) (r : Env) (σ : St) (F H : Hp) (x : R (D × Env)) (Q : List V → Hp → Prop) : Prop :=
  match x with
  | .ok (.list ds, r') => ∀ (vs : List V) (F' H' : Hp), Stt K c r' σ H' F' → Ef r σ F H F' H' → (∀ a, Own r' σ a → Own r σ a) → FrAll K c r' σ F' H' ms vs ds →
      (∀ u ∈ List.zip ms vs, u.1 ≠ 0 → ∀ b o, H b = some o → ¬ Own r σ b → u.2 ≠ .ref b) → Q vs H'
  | .exc k => ∀ (F' H' : Hp), c.J H' → Same F' H' → Kp c.W F' H' → c.E (c.cl k) none H'
  | _ => False
def TAf (K : PySem.W.Frag) (c : Cfg) (ms : List Nat) (e : E) : TA := fun σ H Q => ∃ F r, Stt K c r σ H F ∧ OkFA K c ms r σ F H (den c.call e r) Q
theorem saf_nil : PA X [] (TAf X.K c [] .nil) := PA.mono pa_nil fun σ H Q ⟨F, r, x, h⟩ => h [] F H x Ef.refl (fun _ q => q) .nil fun u hu => by cases hu
theorem saf_cons {mm : Nat} {ms : List Nat} (ha : PE X e (TEf X.K c mm a)) (hb : PA X es (TAf X.K c ms b)) (hs : starEach (e :: es) X.env = (false, eval e X.env) :: starEach es X.env := by rfl) : PA X (e :: es) (TAf X.K c (mm :: ms) (.cons a b)) := by
  refine PA.mono (pa_cons ha hb hs) fun σ H Q ⟨F, r, x, h⟩ => ⟨F, r, x, ?_⟩
  simp only [den] at h
  cases ea : den c.call a r with
  | ok p =>
    obtain ⟨d, r1⟩ := p
    rw [ea] at h
    simp only [R.ok_bind] at h
    intro v F1 H1 x1 e1 s1 q1 w1
    refine ⟨F1, r1, x1, ?_⟩
    cases eb : den c.call b r1 with
    | ok p =>
      obtain ⟨y, r2⟩ := p
      rw [eb] at h
      simp only [R.ok_bind] at h
      cases y with
      | list ds =>
        intro vs F2 H2 x2 e2 s2 q2 w2
        refine h (v :: vs) F2 H2 x2 (e1.trans e2 s1) (fun a z => s1 a (s2 a z)) (.cons (q1.keep x1.rel e2 s2) (fun a' k em ev => ⟨(w1 a' k em ev).1, fun u hu hu0 => ?_⟩) q2) fun u hu hu0 b o hb nb => ?_
        · subst em; subst ev
          obtain ⟨o, ho, _⟩ := q1.mut
          obtain ⟨a2, e2', _, no, _⟩ := id q1
          cases e2'
          exact w2 u hu hu0 a' o ho no
        · rw [List.zip_cons_cons, List.mem_cons] at hu
          rcases hu with rfl | hu
          · intro ev
            obtain ⟨k, ek⟩ : ∃ k, mm = k + 1 := by cases mm with | zero => exact absurd rfl hu0 | succ k => exact ⟨k, rfl⟩
            exact (w1 b k ek ev).2 b o hb nb rfl
          · have n1 : ¬ Own r1 σ b := fun z => nb (s1 b z)
            obtain ⟨o', ho'⟩ := (e1 b o hb nb).2.ex
            exact w2 u hu hu0 b o' ho' n1
      | none => exact h
      | bool _ => exact h
      | int _ => exact h
      | str _ => exact h
      | tuple _ => exact h
      | dict _ => exact h
    | exc k => rw [eb] at h; exact h
    | stuck => rw [eb] at h; exact h
  | exc k => rw [ea] at h; exact h
  | stuck => rw [ea] at h; exact h
/-- the stores, one after another -/
def setAll : St → List Nat → List V → St
  | σ, i :: is, v :: vs => setAll (σ.set i (some v)) is vs
  | σ, _, _ => σ
theorem put_all {K : PySem.W.Frag} {H F : Hp} : ∀ (is : List (Nat × Nat)) (hz : ZOk c (is.map (·.1))) (vs : List V) (ds : List D) (r r' : Env) (σ : St), Stt K c r σ H F → FrAll K c r σ F H (is.map (·.2)) vs ds → putPar is ds r = some r' → Stt K c r' (setAll σ (is.map (·.1)) vs) H F
  | [], hz, _, _, r, r', σ, x, q, e => by
    cases q
    simp only [putPar] at e
    cases e
    exact x
  | (i, m) :: is, hz, _, _, r, r', σ, x, q, e => by
    cases q with
    | cons q1 w q2 =>
      rename_i v vs d ds
      simp only [putPar] at e
      cases es : slotM m d with
      | none => rw [es] at e; cases e
      | some sl =>
        rw [es] at e
        simp only at e
        have x' := x.putF (i := i) hz.head q1 (fun a k z z' => (w a k z z').1) es
        refine put_all is hz.tail vs ds _ r' _ x' ?_ e
        -- the others are still held by nobody
        have ow : ∀ b, Own (putS r i sl) (σ.set i (some v)) b → Own r σ b ∨ ((∃ k, m = k + 1) ∧ v = .ref b) := fun b ⟨j, z1, z2⟩ => by
          rw [getS_put] at z1
          rw [vAt_set] at z2
          by_cases hj : i = j ∧ i < σ.length
          · rw [if_pos ⟨hj.1, by rw [x.rel.len]; exact hj.2⟩] at z1
            rw [if_pos hj] at z2
            exact .inr ⟨slotM_own es z1, Option.some.inj z2⟩
          · rw [if_neg (by rw [x.rel.len]; exact hj)] at z1
            rw [if_neg hj] at z2
            exact .inl ⟨j, z1, z2⟩
        have key : ∀ (ms : List Nat) (us : List V) (cs : List D), FrAll K c r σ F H ms us cs → (∀ a k, m = k + 1 → v = .ref a → ∀ u ∈ List.zip ms us, u.1 ≠ 0 → u.2 ≠ .ref a) → FrAll K c (putS r i sl) (σ.set i (some v)) F H ms us cs := by
          intro ms us cs h
          induction h with
          | nil => intro _; exact .nil
          | cons h1 h2 h3 ih =>
            rename_i m' ms' v' vs' d' ds'
            intro hw
            refine .cons ?_ h2 (ih fun a k z z' u hu => hw a k z z' u (List.mem_cons_of_mem _ hu))
            cases m' with
            | zero => exact h1
            | succ k' =>
              obtain ⟨a', e', f0, no, q⟩ := h1
              refine ⟨a', e', f0, fun z => ?_, q⟩
              rcases ow a' z with z | ⟨⟨k, ek⟩, ev⟩
              · exact no z
              · exact hw a' k ek ev (k' + 1, v') (by rw [List.zip_cons_cons]; exact List.mem_cons_self) (Nat.succ_ne_zero _) e'
        exact key _ _ _ q2 fun a k z z' => (w a k z z').2
theorem okFA_stmt {K : PySem.W.Frag} {σ : St} {F H : Hp} {r : Env} {N : Ends} {is : List (Nat × Nat)} (x : Stt K c r σ H F) (hz : ZOk c (is.map (·.1))) (h : OkS K c F (denS c.call (.par is a) r) N) {Q : List V → Hp → Prop}
    (f : ∀ vs H1, vs.length = is.length → N.nx (setAll σ (is.map (·.1)) vs) H1 → Q vs H1) : OkFA K c (is.map (·.2)) r σ F H (den c.call a r) Q := by
  simp only [denS] at h
  cases ed : den c.call a r with
  | ok p =>
    obtain ⟨d, r1⟩ := p
    rw [ed] at h
    cases d with
    | list ds =>
      simp only at h
      intro vs F1 H1 x1 e1 s1 q1 _
      cases ep : putPar is ds r1 with
      | none => rw [ep] at h; exact h.elim
      | some r2 =>
        rw [ep] at h
        refine f vs H1 ?_ (h _ H1 F1 (put_all is hz vs ds r1 r2 σ x1 q1 ep) (e1.same x.rel))
        have : ∀ {ms : List Nat} {us : List V} {cs : List D}, FrAll K c r1 σ F1 H1 ms us cs → us.length = ms.length := by
          intro ms us cs h
          induction h with
          | nil => rfl
          | cons _ _ _ ih => simp [ih]
        rw [this q1, List.length_map]
    | none => exact h
    | bool _ => exact h
    | int _ => exact h
    | str _ => exact h
    | tuple _ => exact h
    | dict _ => exact h
  | exc k => rw [ed] at h; exact h
  | stuck => rw [ed] at h; exact h
theorem ss_par2 {i j m1 m2 : Nat} {x y : Str} {px py pt : Pos} {kt k2 pt2} (hc : X.calm = true) (hN : X.N.Nodup) (hi : X.N[i]? = some x) (hj : X.N[j]? = some y) (hij : i ≠ j)
    (hx : X.env.scope.names.lookup x = some .local) (hy : X.env.scope.names.lookup y = some .local) (ha : PA X [e1, e2] (TAf X.K c [m1, m2] a))
    (hw : swappedStores [.Tuple [.Name x px, .Name y py] kt pt] (.Tuple [e1, e2] k2 pt2) X.env = pure (some [x, y]))
    (hs : swapsWithSole [.Tuple [.Name x px, .Name y py] kt pt] (.Tuple [e1, e2] k2 pt2) pos.line X.env = pure false := by rfl) (hz0 : ZOk c [i, j] := by exact ⟨_, by assumption, by decide⟩) :
    PS X (.Assign [.Tuple [.Name x px, .Name y py] kt pt] (.Tuple [e1, e2] k2 pt2) pos) (TSv X.K c (.par [(i, m1), (j, m2)] a)) := by
  refine PS.mono (ps_par hc hN hi hj hij hx hy ha hw hs) fun D σ H ⟨F, r, x, h⟩ => ⟨F, r, x, ?_⟩
  refine okFA_stmt (is := [(i, m1), (j, m2)]) x hz0 h fun vs H1 hl hn => ?_
  match vs, hl with
  | [v, w], _ => exact ⟨v, w, rfl, hn⟩
theorem ss_par3 {i j l m1 m2 m3 : Nat} {e3 : Expr} {x y z : Str} {px py pz pt : Pos} {kt k2 pt2} (hc : X.calm = true) (hN : X.N.Nodup) (hi : X.N[i]? = some x) (hj : X.N[j]? = some y) (hl : X.N[l]? = some z) (hij : i ≠ j) (hil : i ≠ l) (hjl : j ≠ l)
    (hx : X.env.scope.names.lookup x = some .local) (hy : X.env.scope.names.lookup y = some .local) (hz : X.env.scope.names.lookup z = some .local) (ha : PA X [e1, e2, e3] (TAf X.K c [m1, m2, m3] a))
    (hw : swappedStores [.Tuple [.Name x px, .Name y py, .Name z pz] kt pt] (.Tuple [e1, e2, e3] k2 pt2) X.env = pure (some [x, y, z]))
    (hs : swapsWithSole [.Tuple [.Name x px, .Name y py, .Name z pz] kt pt] (.Tuple [e1, e2, e3] k2 pt2) pos.line X.env = pure false := by rfl) (hz0 : ZOk c [i, j, l] := by exact ⟨_, by assumption, by decide⟩) :
    PS X (.Assign [.Tuple [.Name x px, .Name y py, .Name z pz] kt pt] (.Tuple [e1, e2, e3] k2 pt2) pos) (TSv X.K c (.par [(i, m1), (j, m2), (l, m3)] a)) := by
  refine PS.mono (ps_par3 hc hN hi hj hl hij hil hjl hx hy hz ha hw hs) fun D σ H ⟨F, r, x, h⟩ => ⟨F, r, x, ?_⟩
  refine okFA_stmt (is := [(i, m1), (j, m2), (l, m3)]) x hz0 h fun vs H1 hl hn => ?_
  match vs, hl with
  | [u, v, w], _ => exact ⟨u, v, w, rfl, hn⟩
end
end Bm
end
section
set_option Elab.async false
set_option linter.all false
set_option maxRecDepth 100000
set_option maxHeartbeats 1000000
namespace Bm
open PySem PySem.Spec L2
theorem sizeLine_big : lim ≤ sizeLine := by rw [sizeLine_eq]; decide
theorem isOwnL_ex {s : Slot} (h : isOwnL s = true) : ∃ l, s = .own l := by
  cases s with
  | own l => exact ⟨l, rfl⟩
  | un => cases h
  | sh d => cases h
  | dicT d => cases h
  | dicK d => cases h
  | ins d => cases h
  | lck d => cases h
  | exs d => cases h
/-- the owner writes his object -/
theorem Stt.write {K : PySem.W.Frag} {c : Cfg} {r : Env} {σ : St} {H F : Hp} (x : Stt K c r σ H F) {i : Nat} {a : Addr} {o : HO} {sl : Slot} (oa : OwnAt r σ i a) (mu : isMut o) (so : SlotOk K F (upd H a o) sl (some (.ref a))) (io : isOwn sl = true) :
    Stt K c (putS r i sl) σ (upd H a o) F := by
  have hl : i < σ.length := (List.getElem?_eq_some_iff.mp (vAt_some oa.2)).1
  have fa : F a = none := (own_mut x.rel ⟨i, oa⟩).1
  obtain ⟨o0, h0, m0⟩ := (own_mut x.rel ⟨i, oa⟩).2
  have h1 : ∀ j b, OwnAt (putS r i sl) σ j b → OwnAt r σ j b := fun j b ⟨z1, z2⟩ => by
    refine ⟨?_, z2⟩
    rw [getS_put] at z1
    by_cases hj : i = j ∧ i < r.length
    · rw [← hj.1]; exact oa.1
    · rw [if_neg hj] at z1; exact z1
  refine ⟨⟨?_, fun b u h => ?_, fun j => ?_, fun j k b p q => x.rel.inj j k b (h1 j b p) (h1 k b q)⟩, ?_, fun b u h n => ?_, fun b ⟨j, q⟩ => x.own b ⟨j, h1 j b q⟩, x.pin⟩
  · unfold putS; rw [List.length_set]; exact x.rel.len
  · have nb : b ≠ a := fun z => by rw [z, fa] at h; cases h
    rw [upd_ne nb]; exact x.rel.same b u h
  · by_cases hj : i = j ∧ i < r.length
    · rw [getS_put, if_pos hj, ← hj.1, oa.2]; exact so
    · rw [getS_put, if_neg hj]
      refine slot_same (Same.refl F) (fun b o1 o2 hf _ => ⟨hf, ?_⟩) (aside_upd h0 m0) (x.rel.ok j)
      have nb : b ≠ a := fun z => by
        have ej := x.rel.inj i j a oa ⟨o1, z ▸ o2⟩
        exact hj ⟨ej, by rw [x.rel.len]; exact hl⟩
      rw [upd_ne nb]
  · refine c.hJ H _ (fun b u h => ?_) x.tie
    by_cases nb : b = a
    · subst nb; rw [h0] at h; cases h; exact .inr m0
    · rw [upd_ne nb]; exact .inl h
  · have k := x.kp b u h n
    refine ⟨k.1, ?_⟩
    have nb : b ≠ a := fun z => by
      rcases x.own a ⟨i, oa⟩ with q | q
      · exact n (z ▸ q)
      · rw [← z, h] at q; cases q
    rw [upd_ne nb]; exact k.2
section
variable {X : Cx} {c : Cfg} {e e1 e2 : Expr} {es : List Expr} {a b m : E} {pos : Pos} {sta : Stmt} {rest sts sts' : List Stmt} {s s1 s2 : S}
/-- x.append(e) -/
theorem ss_append {i : Nat} {x : Str} {px apos cpos : Pos} (hx : PE X (.Name x px) (tVar i)) (he : PE X e (TEv X.K c a)) (hbase : attributeBase (.Name x px) "append" X.env (eval (.Name x px) X.env) = eval (.Name x px) X.env := by rfl)
    (hfew : ((backTo cpos (starEach [e] X.env)).all (fun x => !x.1) && (backToKw cpos (keywordEach [] X.env)).all (fun x => x.1.isSome)
      && decide (([e] : List Expr).length + ([] : List Keyword).length + (if ([] : List Keyword).isEmpty then 0 else 1) < 30)) = true := by rfl)
    (hline : (apos.endLine == cpos.line) = true := by rfl) (hs : starEach [e] X.env = (false, eval e X.env) :: starEach [] X.env := by rfl) :
    PS X (.Expr (.Call (.Attribute (.Name x px) "append" apos) [e] [] cpos) pos) (TSv X.K c (.append i a)) := by
  refine PS.mono (ps_expr (pe_bm PySem.F.plainAttrs_list PySem.F.slot_list_append PySem.F.type_list_append mt_append hx (pa_cons he pa_nil hs) hbase hfew hline hs rfl) rfl) fun D σ H ⟨F, r, x, h⟩ => ?_
  simp only [denS] at h
  cases eo : isOwnL (getS r i) with
  | false => rw [eo] at h; exact h.elim
  | true =>
    rw [eo, if_pos rfl] at h
    obtain ⟨l0, el⟩ := isOwnL_ex eo
    have q0 := x.rel.ok i
    rw [el] at q0
    obtain ⟨a0, vs0, qv, _, qh, _⟩ := q0
    refine ⟨.ref a0, vAt_some qv, .inl ⟨rfl, vs0, SqL.of qh⟩, F, r, x, ?_⟩
    cases ed : den c.call a r with
    | ok p =>
      obtain ⟨d, r1⟩ := p
      rw [ed] at h
      simp only at h
      intro v F1 H1 x1 e1 s1 q1
      cases eg : getS r1 i with
      | own l =>
        rw [eg] at h
        simp only at h
        have q2 := x1.rel.ok i
        rw [eg] at q2
        obtain ⟨a1, ws, z1, z2, z3, z4⟩ := q2
        rw [qv] at z1
        cases z1
        by_cases hl : l.length < lim ∧ nd d = true
        · rw [if_pos hl] at h
          refine ⟨a0, ws, v, rfl, rfl, z3, ?_, ?_⟩
          · rw [dpa_len z4]; exact Nat.lt_of_lt_of_le hl.1 sizeLine_big
          · refine h σ _ F1 (x1.write (i := i) ⟨by rw [eg]; rfl, qv⟩ trivial ⟨a0, ws ++ [v], rfl, z2, upd_same, dpa_app z4 (.cons (q1.dp (nd_of hl.2)) .nil)⟩ rfl) (e1.same x.rel)
        · rw [if_neg hl] at h; exact h.elim
      | un => rw [eg] at h; exact h.elim
      | sh d => rw [eg] at h; exact h.elim
      | dicT d => rw [eg] at h; exact h.elim
      | dicK d => rw [eg] at h; exact h.elim
      | ins d => rw [eg] at h; exact h.elim
      | lck d => rw [eg] at h; exact h.elim
      | exs d => rw [eg] at h; exact h.elim
    | exc k => rw [ed] at h; exact h
    | stuck => rw [ed] at h; exact h
theorem ixOf_N (n : Nat) (i : Int) : ixOf n i = ixN n i := by
  unfold ixOf ixN
  by_cases h : 0 ≤ i
  · rw [if_pos h, if_pos h]
    by_cases h2 : i < n
    · rw [if_pos h2, if_pos (by omega)]
    · rw [if_neg h2, if_neg (by omega)]
  · rw [if_neg h, if_neg h]
    by_cases h2 : -(n : Int) ≤ i
    · rw [if_pos h2, if_pos (by omega)]
      congr 1
      omega
    · rw [if_neg h2, if_neg (by omega)]
/-- x[k] = e, x an owned list -/
theorem ss_store {i : Nat} {x : Str} {px tpos : Pos} (hx : PE X (.Name x px) (tVar i)) (hk : PE X e1 (TEv X.K c b)) (he : PE X e (TEv X.K c a))
    (hg : ∀ v, assign (.Subscript (.Name x px) e1 tpos) X.env v = (do
      let ov ← holding [v] (eval (.Name x px) X.env)
      let iv ← holding [v, ov] (eval e1 X.env)
      standAt tpos
      holding [v, ov, iv] (setItem ov iv v)
      release [v, ov, iv] []) := by intro _; rfl)
    (hs : swapsWithSole [.Subscript (.Name x px) e1 tpos] e pos.line X.env = pure false := by rfl) (hw : swappedStores [.Subscript (.Name x px) e1 tpos] e X.env = pure none := by rfl) (h1 : (assignEach [.Subscript (.Name x px) e1 tpos] X.env).map (·.2) = [assign (.Subscript (.Name x px) e1 tpos) X.env] := by rfl) :
    PS X (.Assign [.Subscript (.Name x px) e1 tpos] e pos) (TSv X.K c (.store i b a)) := by
  refine PS.mono (ps_asg he (pg_sub hx hk set_list hg) hs hw h1) fun D σ H ⟨F, r, x, h⟩ => ⟨F, r, x, ?_⟩
  simp only [denS] at h
  cases eo : isOwnL (getS r i) with
  | false => rw [eo] at h; exact h.elim
  | true =>
    rw [eo, if_pos rfl] at h
    obtain ⟨l0, el⟩ := isOwnL_ex eo
    have q0 := x.rel.ok i
    rw [el] at q0
    obtain ⟨a0, vs0, qv, _⟩ := q0
    cases ed : den c.call a r with
    | ok p =>
      obtain ⟨d, r1⟩ := p
      rw [ed] at h
      simp only at h
      intro v F1 H1 x1 e1 s1 q1
      refine ⟨.ref a0, vAt_some qv, F1, r1, x1, ?_⟩
      cases ek : den c.call b r1 with
      | ok p =>
        obtain ⟨j, r2⟩ := p
        rw [ek] at h
        cases j with
        | int j =>
          simp only at h
          cases eg : getS r2 i with
          | own l =>
            rw [eg] at h
            simp only at h
            cases hd : nd d with
            | false => rw [hd] at h; exact h.elim
            | true =>
              rw [hd, if_pos rfl] at h
              cases ep : ixOf l.length j with
              | none => rw [ep] at h; exact h.elim
              | some p =>
                rw [ep] at h
                intro u F2 H2 x2 e2 s2 q2
                have z := x2.rel.ok i
                rw [eg] at z
                obtain ⟨a1, ws, z1, z2, z3, z4⟩ := z
                rw [qv] at z1
                cases z1
                have eu : u = .int j := by
                  have q2' : Dp X.K F2 u (.int j) := q2
                  cases q2'; rfl
                refine ⟨a0, ws, j, p, rfl, eu, z3, ?_, ?_⟩
                · rw [dpa_len z4, ← ixOf_N]; exact ep
                · refine h σ _ F2 (x2.write (i := i) ⟨by rw [eg]; rfl, qv⟩ trivial ⟨a0, ws.set p v, rfl, z2, upd_same, dpa_set ((dn_same (e2.same x1.rel) q1).dp (nd_of hd)) p z4⟩ rfl) ((e1.same x.rel).trans (e2.same x1.rel))
          | un => rw [eg] at h; exact h.elim
          | sh d => rw [eg] at h; exact h.elim
          | dicT d => rw [eg] at h; exact h.elim
          | dicK d => rw [eg] at h; exact h.elim
          | ins d => rw [eg] at h; exact h.elim
          | lck d => rw [eg] at h; exact h.elim
          | exs d => rw [eg] at h; exact h.elim
        | none => exact h.elim
        | bool _ => exact h.elim
        | str _ => exact h.elim
        | list _ => exact h.elim
        | tuple _ => exact h.elim
        | dict _ => exact h.elim
      | exc k => rw [ek] at h; exact h
      | stuck => rw [ek] at h; exact h
    | exc k => rw [ed] at h; exact h
    | stuck => rw [ed] at h; exact h
theorem keyK_D {d : D} {k : Key} (h : keyK d = some k) : d = keyD k := by
  cases d with
  | int i => cases h; rfl
  | str s => cases h; rfl
  | _ => cases h
theorem keysK_D : ∀ {l : List D} {ks : List Key}, keysK l = some ks → l = ks.map keyD
  | [], ks, h => by cases h; rfl
  | d :: r, ks, h => by
    simp only [keysK] at h
    cases e : keyK d with
    | none => rw [e] at h; cases h
    | some k =>
      rw [e] at h
      cases e2 : keysK r with
      | none => rw [e2] at h; cases h
      | some ks' =>
        rw [e2] at h
        cases h
        rw [List.map_cons, ← keyK_D e, ← keysK_D e2]
theorem keyT_D {d : D} {ks : List Key} (h : keyT d = some ks) : d = .tuple (ks.map keyD) := by
  cases d with
  | tuple l => rw [keysK_D h]
  | _ => cases h
theorem dp_key {K : PySem.W.Frag} {F : Hp} {v : V} {k : Key} (h : Dp K F v (keyD k)) : v = kV k := by
  cases k with
  | inl i => cases h; rfl
  | inr s => cases h; rfl
theorem dpa_keys {K : PySem.W.Frag} {F : Hp} : ∀ {vs : List V} {ks : List Key}, DpAll K F vs (ks.map keyD) → vs = ks.map kV
  | _, [], h => by cases h; rfl
  | _, k :: ks, h => by
    cases h with
    | cons h1 h2 => rw [dp_key h1, dpa_keys h2]; rfl
theorem dp_keyT {K : PySem.W.Frag} {F : Hp} {v : V} {ks : List Key} (h : Dp K F v (.tuple (ks.map keyD))) : ∃ b, v = .ref b ∧ F b = some (.tup (ks.map kV)) := by
  cases h with
  | tup h1 h2 => rw [dpa_keys h2] at h1; exact ⟨_, rfl, h1⟩
theorem eqv_key (j k : Key) : PyData.eqv (keyD j) (keyD k) = decide (j = k) := by
  cases j <;> cases k <;> simp [keyD, PyData.eqv, Bool.beq_eq_decide_eq]
theorem eqv_keys : ∀ (js ks : List Key), PyData.eqvAll (js.map keyD) (ks.map keyD) = decide (js = ks)
  | [], [] => rfl
  | [], _ :: _ => rfl
  | _ :: _, [] => rfl
  | j :: js, k :: ks => by
    rw [List.map_cons, List.map_cons, PySem.W.eqv_all_cons, eqv_key, eqv_keys js ks]
    simp
theorem eqv_keyT (js ks : List Key) : PyData.eqv (.tuple (js.map keyD)) (.tuple (ks.map keyD)) = decide (js = ks) := by
  rw [← eqv_keys]
  simp [PyData.eqv]
/-- asked -/
theorem look_val {κ : Type} [DecidableEq κ] {K : PySem.W.Frag} {F : Hp} (toD : κ → D) (he : ∀ j k, PyData.eqv (toD j) (toD k) = decide (j = k)) (k : κ) : ∀ {kv : List (κ × V)} {kvs : List (D × D)}, Paired (fun (p : κ × V) (q : D × D) => toD p.1 = q.1 ∧ Dp K F p.2 q.2) kv kvs →
    (valV kv k).isSome = (lookD kvs (toD k)).isSome
  | _, _, .nil => rfl
  | _, _, .cons (a := p) (b := q) h t => by
    obtain ⟨d1, d2⟩ := q
    obtain ⟨h1, h2⟩ := h
    simp only at h1
    subst h1
    simp only [lookD, he]
    unfold valV
    rw [List.find?_cons]
    by_cases hk : p.1 = k
    · simp [hk]
    · simp only [hk, decide_false, Bool.false_eq_true, if_false]
      exact look_val toD he k t
/-- stored -/
theorem put_val {κ : Type} [DecidableEq κ] {K : PySem.W.Frag} {F : Hp} (toD : κ → D) (he : ∀ j k, PyData.eqv (toD j) (toD k) = decide (j = k)) (k : κ) {v : V} {d : D} (hv : Dp K F v d) {kv : List (κ × V)} {kvs : List (D × D)} (nn : (kv.map (·.1)).Nodup)
    (hp : Paired (fun (p : κ × V) (q : D × D) => toD p.1 = q.1 ∧ Dp K F p.2 q.2) kv kvs) : Paired (fun (p : κ × V) (q : D × D) => toD p.1 = q.1 ∧ Dp K F p.2 q.2) (putK kv k v) (putD kvs (toD k) d) := by
  induction hp with
  | nil => exact .cons ⟨rfl, hv⟩ .nil
  | cons h t ih =>
    rename_i p q kv kvs
    obtain ⟨d1, d2⟩ := q
    obtain ⟨h1, h2⟩ := h
    simp only at h1
    subst h1
    simp only [putD, he]
    rw [List.map_cons, List.nodup_cons] at nn
    have ih := ih nn.2
    unfold putK at ih ⊢
    by_cases hk : p.1 = k
    · rw [List.any_cons]
      simp only [hk, decide_true, Bool.true_or, if_true, List.map_cons]
      refine .cons ⟨by simp [hk], hv⟩ ?_
      have : kv.map (fun kv => if kv.1 = k then (kv.1, v) else kv) = kv := by
        conv => rhs; rw [← List.map_id kv]
        refine List.map_congr_left fun z hz => ?_
        rw [if_neg (fun e => nn.1 (by rw [hk, ← e]; exact List.mem_map.mpr ⟨z, hz, rfl⟩))]
        rfl
      rw [this]
      exact t
    · simp only [hk, decide_false, Bool.false_eq_true, if_false]
      rw [List.any_cons]
      simp only [hk, decide_false, Bool.false_or]
      by_cases ha : (kv.any fun kv => decide (kv.1 = k)) = true
      · rw [if_pos ha] at ih ⊢
        rw [List.map_cons, if_neg hk]
        exact .cons ⟨rfl, h2⟩ ih
      · rw [if_neg ha] at ih ⊢
        exact .cons ⟨rfl, h2⟩ ih
theorem putK_nodup {κ : Type} [DecidableEq κ] (k : κ) (v : V) {kv : List (κ × V)} (h : (kv.map (·.1)).Nodup) : ((putK kv k v).map (·.1)).Nodup := by
  unfold putK
  by_cases ha : (kv.any fun kv => decide (kv.1 = k)) = true
  · rw [if_pos ha, List.map_map]
    have : (fun p : κ × V => p.1) ∘ (fun kv => if kv.1 = k then (kv.1, v) else kv) = fun p => p.1 := by
      funext p
      show (if p.1 = k then (p.1, v) else p).1 = p.1
      by_cases hp : p.1 = k
      · rw [if_pos hp]
      · rw [if_neg hp]
    rw [this]; exact h
  · rw [if_neg ha, List.map_append]
    rw [List.nodup_append]
    refine ⟨h, by simp, fun a ha' b hb => ?_⟩
    have hb' : b = k := by simpa using hb
    intro e
    subst e
    rw [hb'] at ha'
    obtain ⟨p, hp, e⟩ := List.mem_map.mp ha'
    exact ha (List.any_eq_true.mpr ⟨p, hp, decide_eq_true e⟩)
/-- d[k] = v, d an owned dict -/
theorem ss_dput {i : Nat} {x : Str} {px tpos : Pos} (hu : X.A.units + 1 < cLine) (hx : PE X (.Name x px) (tVar i)) (hk : PE X e1 (TEv X.K c b)) (he : PE X e (TEv X.K c a)) (hs : swapsWith e (some (.Subscript (.Name x px) e1 tpos)) pos.line X.env = pure false := by rfl) :
    PS X (.Assign [.Subscript (.Name x px) e1 tpos] e pos) (TSv X.K c (.dput i b a)) := by
  refine PS.mono (ps_dput hu hx hk he hs) fun D σ H ⟨F, r, x, h⟩ => ⟨F, r, x, ?_⟩
  simp only [denS] at h
  cases eo : isDic (getS r i) with
  | false => rw [eo] at h; exact h.elim
  | true =>
    rw [eo, if_pos rfl] at h
    obtain ⟨a0, qv⟩ : ∃ a0, vAt σ i = some (.ref a0) := by
      have q0 := x.rel.ok i
      cases eg : getS r i with
      | dicT l => rw [eg] at q0; obtain ⟨a0, _, q, _⟩ := q0; exact ⟨a0, q⟩
      | dicK l => rw [eg] at q0; obtain ⟨a0, _, q, _⟩ := q0; exact ⟨a0, q⟩
      | ins l => rw [eg] at eo; cases eo
      | lck l => rw [eg] at eo; cases eo
      | exs l => rw [eg] at eo; cases eo
      | un => rw [eg] at eo; cases eo
      | sh d => rw [eg] at eo; cases eo
      | own d => rw [eg] at eo; cases eo
    cases ed : den c.call a r with
    | ok p =>
      obtain ⟨d, r1⟩ := p
      rw [ed] at h
      simp only at h
      intro v F1 H1 x1 e1 s1 q1
      refine ⟨.ref a0, vAt_some qv, F1, r1, x1, ?_⟩
      cases ek : den c.call b r1 with
      | ok p =>
        obtain ⟨y, r2⟩ := p
        rw [ek] at h
        simp only at h
        intro u F2 H2 x2 e2 s2 q2
        have sm := (e1.same x.rel).trans (e2.same x1.rel)
        cases eg : getS r2 i with
        | dicT kvs =>
          rw [eg] at h
          simp only at h
          by_cases hl : kvs.length < lim ∧ nd d = true ∧ (keyT y).isSome = true
          · rw [if_pos hl] at h
            obtain ⟨ks, eks⟩ := Option.isSome_iff_exists.mp hl.2.2
            have ey := keyT_D eks
            subst ey
            obtain ⟨b', eu, hb'⟩ := dp_keyT (q2.dp (fun _ z => by cases z))
            have z := x2.rel.ok i
            rw [eg] at z
            obtain ⟨a1, kv, z1, z2, z3, z4⟩ := z
            rw [qv] at z1
            cases z1
            have hlen : kv.length = kvs.length := Paired.length z4.1
            refine ⟨a0, _, rfl, eu ▸ DPut.t (k := ks) z3 (x2.rel.same _ _ hb') (by rw [hlen]; exact Nat.lt_of_lt_of_le hl.1 sizeLine_big), ?_⟩
            exact h σ _ F2 (x2.write (i := i) ⟨by rw [eg]; rfl, qv⟩ trivial ⟨a0, _, rfl, z2, upd_same, put_val (fun k => PyData.tuple (k.map keyD)) eqv_keyT ks ((dn_same (e2.same x1.rel) q1).dp (nd_of hl.2.1)) z4.2 z4.1, putK_nodup ks v z4.2⟩ rfl) sm
          · rw [if_neg hl] at h; exact h.elim
        | dicK kvs =>
          rw [eg] at h
          simp only at h
          by_cases hl : kvs.length < lim ∧ nd d = true ∧ (keyK y).isSome = true
          · rw [if_pos hl] at h
            obtain ⟨ks, eks⟩ := Option.isSome_iff_exists.mp hl.2.2
            have ey := keyK_D eks
            subst ey
            have eu : u = kV ks := dp_key (q2.dp (fun _ z => by cases ks <;> cases z))
            have z := x2.rel.ok i
            rw [eg] at z
            obtain ⟨a1, kv, z1, z2, z3, z4⟩ := z
            rw [qv] at z1
            cases z1
            have hlen : kv.length = kvs.length := Paired.length z4.1
            refine ⟨a0, _, rfl, eu ▸ DPut.k (k := ks) z3 (by rw [hlen]; exact Nat.lt_of_lt_of_le hl.1 sizeLine_big), ?_⟩
            exact h σ _ F2 (x2.write (i := i) ⟨by rw [eg]; rfl, qv⟩ trivial ⟨a0, _, rfl, z2, upd_same, put_val keyD eqv_key ks ((dn_same (e2.same x1.rel) q1).dp (nd_of hl.2.1)) z4.2 z4.1, putK_nodup ks v z4.2⟩ rfl) sm
          · rw [if_neg hl] at h; exact h.elim
        | un => rw [eg] at h; exact h.elim
        | sh d => rw [eg] at h; exact h.elim
        | own d => rw [eg] at h; exact h.elim
        | ins d => rw [eg] at h; exact h.elim
        | lck d => rw [eg] at h; exact h.elim
        | exs d => rw [eg] at h; exact h.elim
      | exc k => rw [ek] at h; exact h
      | stuck => rw [ek] at h; exact h
    | exc k => rw [ed] at h; exact h
    | stuck => rw [ed] at h; exact h
/-- k in d -/
theorem dIn_get {K : PySem.W.Frag} {i : Nat} {σ : St} {H : Hp} {Q : VK} (h : TEv K c (.dIn i a) σ H Q) : TEv K c a σ H fun y H1 => tVar i σ H1 fun x H2 => ∃ a' o, x = .ref a' ∧ DGet H2 a' y o ∧ Q (.bl o.isSome) H2 := by
  obtain ⟨F, r, x, h⟩ := h
  simp only [den] at h
  refine ⟨F, r, x, OkE.bind h fun d r1 v F1 H1 ⟨x1, e1, s1, q1⟩ h1 => ?_⟩
  simp only at h1
  have z := x1.rel.ok i
  cases eg : getS r1 i with
  | dicT kvs =>
    rw [eg] at h1 z
    simp only at h1
    cases hk : (keyT d).isSome with
    | false => rw [hk] at h1; exact h1.elim
    | true =>
      rw [hk, if_pos rfl] at h1
      obtain ⟨ks, eks⟩ := Option.isSome_iff_exists.mp hk
      have ey := keyT_D eks
      subst ey
      obtain ⟨b', eu, hb'⟩ := dp_keyT (q1.dp (fun _ z => by cases z))
      obtain ⟨a1, kv, z1, z2, z3, z4⟩ := z
      refine ⟨.ref a1, vAt_some z1, a1, valV kv ks, rfl, eu ▸ .inr ⟨kv, ks, b', .inl z3, rfl, x1.rel.same _ _ hb', rfl⟩, ?_⟩
      have e := look_val (fun k => PyData.tuple (k.map keyD)) eqv_keyT ks z4.1
      rw [e]
      exact h1 _ F1 H1 x1 Ef.refl (fun _ z => z) (Dp.bl _)
  | dicK kvs =>
    rw [eg] at h1 z
    simp only at h1
    cases hk : (keyK d).isSome with
    | false => rw [hk] at h1; exact h1.elim
    | true =>
      rw [hk, if_pos rfl] at h1
      obtain ⟨ks, eks⟩ := Option.isSome_iff_exists.mp hk
      have ey := keyK_D eks
      subst ey
      have eu : v = kV ks := dp_key (q1.dp (fun _ z => by cases ks <;> cases z))
      obtain ⟨a1, kv, z1, z2, z3, z4⟩ := z
      refine ⟨.ref a1, vAt_some z1, a1, valV kv ks, rfl, eu ▸ .inl ⟨kv, ks, .inl z3, rfl, rfl⟩, ?_⟩
      have e := look_val keyD eqv_key ks z4.1
      rw [e]
      exact h1 _ F1 H1 x1 Ef.refl (fun _ z => z) (Dp.bl _)
  | un => rw [eg] at h1; exact h1.elim
  | sh d => rw [eg] at h1; exact h1.elim
  | own d => rw [eg] at h1; exact h1.elim
  | ins d => rw [eg] at h1; exact h1.elim
  | lck d => rw [eg] at h1; exact h1.elim
  | exs d => rw [eg] at h1; exact h1.elim
theorem sw_dNotIn {i : Nat} {x : Str} {px : Pos} (hu : X.A.units + 1 < cLine) (hx : PE X (.Name x px) (tVar i)) (he : PE X e (TEv X.K c a)) : PT X (.Compare e [.NotIn] [.Name x px] pos) (TTv X.K c (.op .not (.cons (.dIn i a) .nil))) := by
  refine PT.mono (pt_cmp (pc_dnotin hu he hx) rfl) fun σ H Q h => ?_
  have h' : TTv X.K c (.dIn i a) σ H fun k H1 => Q (!k) H1 := tt_not h
  have h2 := dIn_get h'
  obtain ⟨F, r, x, h3⟩ := h2
  refine ⟨F, r, x, ?_⟩
  cases ed : den c.call a r with
  | ok p =>
    rw [ed] at h3
    intro v F1 H1 x1 e1 s1 q1
    obtain ⟨u, hu', a', o, eu, g, k, ek, q⟩ := h3 v F1 H1 x1 e1 s1 q1
    cases ek
    exact ⟨u, hu', a', o, eu, g, _, rfl, q⟩
  | exc k => rw [ed] at h3; exact h3
  | stuck => rw [ed] at h3; exact h3
end
end Bm
end
section
set_option Elab.async false
set_option linter.all false
set_option maxRecDepth 100000
set_option maxHeartbeats 1000000
namespace PySem
open Sem (wp)
open AutoSeq1 (wpAny_loadPart')
theorem meets_enumerate_newT (l : Addr) (items : Array Value) (ob : Obj) (hT : ob.cls = .type "tuple") (n : Nat) (hd : ob.data = .seq items n) :
    Meets (Builtin.«enumerate.__new__» ⟨[.type "enumerate", .ref l], []⟩) (fun _ R s => s.heap.get? l = some ob ∧
      R (.ok (.ret (.ref (s.heap.push { cls := .type "tuple_iterator", data := .fields #[.ref l, .int 0 0] }).objs.size)))
        { s with heap := (s.heap.push { cls := .type "tuple_iterator", data := .fields #[.ref l, .int 0 0] }).push { cls := .type "enumerate", data := .fields #[.none, .bool false, .ref s.heap.objs.size, rawInt 0, .none, .none] } }) :=
  .of_wp fun prog w A R s h => by
    obtain ⟨hp, g, d, tk, os⟩ := s; obtain ⟨hl, h⟩ := h
    have hsub := sub_enumerate
    have hL : Heap.IsTuple (Shared.heap ⟨hp, g, d, tk, os⟩) l items := ⟨_, hl, hT, n, hd⟩
    wp_walk using wpAny_loadPart' hl
    refine wpAny_stack_any fun st => wpAny_pure ?_
    split
    · rename_i c _ _ _ _ _
      cases (c == Value.type "enumerate")
      · wp_walk using wpAny_loadPart' hl, wpAny_pyIter_tuple hL
        exact ⟨_, rfl, h⟩
      · wp_walk using wpAny_loadPart' hl, wpAny_pyIter_tuple hL
        exact ⟨_, rfl, h⟩
    · wp_walk using wpAny_loadPart' hl, wpAny_pyIter_tuple hL
      exact ⟨_, rfl, h⟩
theorem call_enumerate_tuple {prog : Program} {w : World} {A : Around} {E : Value → Shared → Prop} {s : Shared} {l : Addr} {items : Array Value} {Q : Value → Shared → Prop} (hL : s.heap.IsTuple l items)
    (h : ∀ h', IsEnum h' (s.heap.objs.size + 1) s.heap.objs.size 0 .none → h'.IsTupleIter s.heap.objs.size l 0 → h'.objs.size = s.heap.objs.size + 2 →
      (∀ b o, s.heap.get? b = some o → h'.get? b = some o) → Q (.ref (s.heap.objs.size + 1)) { s with heap := h' }) :
    wpAny (model prog w) A (call (.type "enumerate") [.ref l]) Q E s := by
  obtain ⟨ob, hl, hc, n, hd⟩ := hL
  refine callType_new F.called_enumerate (by decide) (F.typeCall_enumerate_1 _) (F.newCall_enumerate_1 _) (fun obj => F.args_object_init_2 obj _) F.entry_enumerate_new
    (meets_enumerate_newT l items ob hc n hd) ⟨hl, ?_⟩
  have hz : (s.heap.push { cls := .type "tuple_iterator", data := .fields #[.ref l, .int 0 0] }).objs.size = s.heap.objs.size + 1 := Heap.size_push ..
  show _ ∧ _
  rw [hz]
  have he : IsEnum ((s.heap.push { cls := .type "tuple_iterator", data := .fields #[.ref l, .int 0 0] }).push
      { cls := .type "enumerate", data := .fields #[.none, .bool false, .ref s.heap.objs.size, rawInt 0, .none, .none] }) (s.heap.objs.size + 1) s.heap.objs.size 0 .none := by
    have := Heap.get?_push_size (s.heap.push { cls := .type "tuple_iterator", data := .fields #[.ref l, .int 0 0] })
      (o := { cls := .type "enumerate", data := .fields #[.none, .bool false, .ref s.heap.objs.size, rawInt 0, .none, .none] }) rfl
    rw [hz] at this; exact this
  refine ⟨⟨_, he, rfl⟩, h _ he ⟨_, Heap.get?_push_of_some _ (Heap.get?_push_size _ rfl), rfl, rfl⟩ (by rw [Heap.size_push, hz]) fun b o x => Heap.get?_push_of_some _ (Heap.get?_push_of_some _ x)⟩
theorem enum_end_tuple {prog : Program} {w : World} {A : Around} {E : Value → Shared → Prop} {s : Shared} {e it l : Addr} {i : Nat} {items : Array Value} {old : Value} {Q : Option Value → Shared → Prop} (hh : A.handled = none)
    (he : IsEnum s.heap e it i old) (hit : s.heap.IsTupleIter it l i) (hl : s.heap.IsTuple l items) (hx : items[i]? = none)
    (hQ : ∀ h', Heap.ExtBut it s.heap h' → Q none { s with heap := h' }) : wpAny (model prog w) A (pyNext (.ref e)) Q E s := by
  have hT : s.TypeIs (.ref e) "enumerate" := ⟨_, he, rfl⟩
  unfold pyNext
  refine wpAny_bind (wpAny_attempt (wpAny_callSpecial?_slot (name := Str.ofString "__next__") hT F.slot_enumerate_next
    (wpAny_call_entry F.slot_enumerate_next hT F.entry_enumerate_next ?_ (F.args_enumerate_next_1 _))))
  show wpAny _ _ (field (.ref e) 2 >>= _) _ _ _
  refine wpAny_bind (wpAny_field he rfl (x := .ref it) rfl ?_)
  refine wpAny_bind (wpAny_nextOf_tuple_end hh hit hl hx fun h' x he' hx' => ?_)
  obtain ⟨o, ho, hc⟩ := hx'
  refine wpAny_bind (wpAny_isInstance (T := "StopIteration") (b := true) ⟨o, ho, hc⟩ isSubtype_stop ?_)
  exact wpAny_pure (hQ _ he')
end PySem
namespace L2
open PySem PySem.Spec PyProof.Rows
/-- the tuple at a as it stands at each turn, each item in a new pair -/
def IteT (K : PySem.W.Frag) (a : Addr) : It :=
  ⟨fun i H => ∃ (xs : List V) (x : V), SqT K H a xs ∧ xs[i]? = some x, fun i H v H' => ∃ T x, v = .ref T ∧ H T = none ∧ H' = upd H T (.tup [.int (i : Nat), x]) ∧ ∀ xs, SqT K H a xs → xs[i]? = some x, fun i H => ∃ xs : List V, SqT K H a xs ∧ xs.length ≤ i⟩
theorem turn_enumT {P : Program} {w : World} {K : PySem.W.Frag} {elts : List Expr} {kk : Nat} {tpos : Pos} (a e it : Addr) :
    Turn P w K (.Tuple elts kk tpos) (IteT K a) [e, it] e (fun i h => (∃ old, IsEnum h e it ((i : Nat) : Int) old) ∧ h.IsTupleIter it a i ∧ e ≠ it) where
  mem := by simp
  obj := fun i h st b hb => by
    obtain ⟨⟨old, he⟩, ⟨o, ho, hc, hd⟩, _⟩ := st
    have e' : b = e ∨ b = it := by simpa using hb
    rcases e' with z | z
    · rw [z]; exact ⟨_, he, fun v q => nomatch q⟩
    · rw [z]; exact ⟨o, ho, fun v q => by rw [hd] at q; cases q⟩
  keep := fun i h h' st k => let ⟨⟨old, he⟩, hi, hne⟩ := st; ⟨⟨old, k e (by simp) _ he⟩, hi.at fun o q => k it (by simp) o q, hne⟩
  item := by
    intro X hP hw hK hc i pins s σ H E I hf st hg
    subst hP hw hK
    obtain ⟨⟨old, he⟩, hit, hne⟩ := st
    obtain ⟨xs, x, hq, hx⟩ := hg
    obtain ⟨its, rv, p, hz⟩ := I.tuple hq
    obtain ⟨u, hu, ru⟩ := rv.get hx
    have hel : e < s.heap.objs.size := Heap.lt_size he
    have hil : it < s.heap.objs.size := by obtain ⟨_, q, _⟩ := hit; exact Heap.lt_size q
    have hal : a < s.heap.objs.size := p.lt
    have hane : a ≠ it := fun z => by
      obtain ⟨o1, q1, c1, _⟩ := hit
      obtain ⟨o2, q2, c2, _⟩ := p
      rw [z, q1] at q2; cases q2; rw [c1] at c2; exact absurd c2 (by decide)
    have hae : e ≠ a := fun z => by
      obtain ⟨o2, q2, c2, _⟩ := p
      rw [← z, he] at q2; cases q2; exact absurd (show Value.type "enumerate" = Value.type "tuple" from c2) (by decide)
    have Dr := Draws.tuple (prog := X.prog) (w := X.w) (A := X.A.in1) (I.ok.hd hc) it a hane its.toArray
    have hlt : i < its.toArray.size := by
      have := (List.getElem?_eq_some_iff.mp hu).1
      simpa using this
    refine wpAny_pyNext_enum_itemD Dr he ⟨hit, p⟩ hlt hne (by simp [hne, hae]) fun y h' tk hy ho hst' hT hsz hk => ?_
    have hyu : y = u := by
      have e1 : its.toArray[i]? = some u := by simpa using hu
      rw [e1] at hy
      exact (Option.some.inj hy).symm
    subst hyu
    refine ⟨_, rfl, wpAny_letOwnedTupleGo_enum (s := { s with heap := h', toks := tk + 1 }) ho fun h'' he' sb => ?_⟩
    have hT2 : h''.get? s.heap.objs.size = some { cls := .type "tuple", data := .seq #[.int i tk, y] } := (sb.2 _ (Nat.ne_of_gt hel)).trans hT
    have new : ObjOk X.prog X.w (upd H s.heap.objs.size (.tup [.int (i : Nat), x])) h'' s.heap.objs.size (.tup [.int (i : Nat), x]) :=
      ⟨by show 2 ≤ sizeLine; decide, [.int i tk, y], .cons ⟨_, rfl⟩ (.cons ru .nil), ⟨_, hT2, rfl, _, rfl⟩⟩
    have I1 : Inv X pins σ (upd H s.heap.objs.size (.tup [.int (i : Nat), x])) { s with heap := h'', toks := tk + 1 } :=
      I.turnedNew (ch := [e, it]) (fun b ob hb q => (sb.2 b (fun z => hb (by simp [z]))).trans (hk b ob (fun z => hb (by simp [z])) (fun z => hb (by simp [z])) q)) hf (Nat.le_refl _) new
    refine ⟨.ref s.heap.objs.size, _, I1, rfl, ⟨_, x, rfl, I.hok.fresh (Nat.le_refl _), rfl, fun ys hy => by rw [I.tuple_inj hy hq]; exact hx⟩, ⟨⟨y, ?_⟩, hst'.1.at fun o q => (sb.2 it (Ne.symm hne)).trans q, hne⟩, fun b hb => ?_⟩
    · have e1 : ((i + 1 : Nat) : Int) = (i : Int) + 1 := by omega
      rw [e1]; exact he'
    · have hb' : b < s.heap.objs.size := by
        have e' : b = e ∨ b = it := by simpa using hb
        rcases e' with z | z
        · rw [z]; exact hel
        · rw [z]; exact hil
      rw [upd_ne (Nat.ne_of_lt hb')]
      exact (hf b hb).1
  done := by
    intro X hP hw hK hc i pins s σ H E I hf st hg
    subst hP hw hK
    obtain ⟨⟨old, he⟩, hit, hne⟩ := st
    obtain ⟨xs, hq, hx⟩ := hg
    obtain ⟨its, rv, p, hz⟩ := I.tuple hq
    obtain ⟨f0, f1, f2, f3, f4, f5⟩ := hf it (by simp)
    have hl := rv.length
    exact enum_end_tuple (I.ok.hd hc) he hit p (by simp; omega) fun h' eb => ⟨rfl, I.turned (t' := s.toks) (fun b o hb q => eb b o hb q) f0 f1 f3 f4 f5⟩
  self := fun A i s Q E st h => let ⟨⟨_, he⟩, _⟩ := st; wpAny_pyIter_enum he h
section
variable {X : Cx} {tg : Expr}
/-- a list, a tuple or a text that is walked -/
def iAny (K : PySem.W.Frag) (tl : TE) : TI := fun σ H R => tl σ H fun x H1 => (∃ a, x = .ref a ∧ (∃ xs, SqL K H1 a xs) ∧ R (Itl K a) H1) ∨ (∃ a, x = .ref a ∧ (∃ xs, SqT K H1 a xs) ∧ R (Itt K a) H1) ∨ ∃ z, x = .str z ∧ R (Its z) H1
theorem pi_any {l : Expr} {tl : TE} (hl : PE X l tl) : PI X tg l (iAny X.K tl) := by
  refine ⟨fun pins s σ H R I h => ?_⟩
  refine thn (hl.run pins s σ H _ I h) fun v s1 ⟨x, H1, I1, r1, q1⟩ => ?_
  rcases q1 with ⟨a, e, ⟨xs, hq⟩, q⟩ | ⟨a, e, ⟨xs, hq⟩, q⟩ | ⟨z, e, q⟩
  · subst e
    cases r1
    obtain ⟨its, rv, p, hz⟩ := I1.list hq
    refine wpAny_pyIter_list p.isList ?_
    refine ⟨s1.heap.objs.size, [s1.heap.objs.size], _, _, H1, rfl, I1.kept (t' := s1.toks) fun b o e => Heap.get?_push_of_some _ e, turn_list a _, ⟨_, Heap.get?_push_size _ rfl, rfl, rfl⟩, fun b hb => ?_, q⟩
    have e : b = s1.heap.objs.size := by simpa using hb
    subst e
    exact I1.fpOk (Nat.le_refl _) (I1.hok.fresh (Nat.le_refl _))
  · subst e
    cases r1
    obtain ⟨its, rv, p, hz⟩ := I1.tuple hq
    refine wpAny_pyIter_tuple p ?_
    refine ⟨s1.heap.objs.size, [s1.heap.objs.size], _, _, H1, rfl, I1.kept (t' := s1.toks) fun b o e => Heap.get?_push_of_some _ e, turn_tuple a _, ⟨_, Heap.get?_push_size _ rfl, rfl, rfl⟩, fun b hb => ?_, q⟩
    have e : b = s1.heap.objs.size := by simpa using hb
    subst e
    exact I1.fpOk (Nat.le_refl _) (I1.hok.fresh (Nat.le_refl _))
  · subst e
    obtain ⟨t, rfl⟩ := r1
    cases ha : z.cps.all (· < 128)
    · exact wpAny_pyIter_wide ha (pi_one (tk := s1.toks) I1 _ (turn_str _ z t "str_iterator" (.inr rfl)) ⟨_, Heap.get?_push_size _ rfl, rfl, rfl⟩ q)
    · exact wpAny_pyIter_ascii ha (pi_one (tk := s1.toks) I1 _ (turn_str _ z t "str_ascii_iterator" (.inl rfl)) ⟨_, Heap.get?_push_size _ rfl, rfl, rfl⟩ q)
/-- enumerate of a list or a tuple -/
def iEnumA (K : PySem.W.Frag) (ta : TA) : TI := fun σ H R => ta σ H fun vs H1 => (∃ a xs, vs = [.ref a] ∧ SqL K H1 a xs ∧ R (Ite K a) H1) ∨ ∃ a xs, vs = [.ref a] ∧ SqT K H1 a xs ∧ R (IteT K a) H1
theorem pi_enumA {e : Expr} {ta : TA} {p pos tpos : Pos} {elts : List Expr} {kk : Nat} (hg : Gl X "enumerate") (hm : X.mg "enumerate" = none) (ha : PA X [e] ta) (hs : starEach [e] X.env = [(false, eval e X.env)] := by rfl) :
    PI X (.Tuple elts kk tpos) (.Call (.Name "enumerate" p) [e] [] pos) (iEnumA X.K ta) := by
  refine ⟨fun pins s σ H R I h => ?_⟩
  refine PyProof.Rows.Call_ (ld_blt I hg hm boot_enumerate (PyProof.Rows.callWith_type1 (thn (ha.run pos pins s σ H _ I h) fun us s1 ⟨vs, H1, I1, r1, q1⟩ => ?_) hs rfl))
  rcases q1 with ⟨a, xs, ex, hq, q⟩ | ⟨a, xs, ex, hq, q⟩
  · subst ex
    cases r1 with
    | cons r rr =>
      cases rr
      cases r
      obtain ⟨its, rv, p', hz⟩ := I1.list hq
      refine call_enumerate_list p'.isList fun h' he hit hsz hk => wpAny_pyIter_enum he ?_
      have I2 : Inv X pins σ H1 { s1 with heap := h' } := I1.kept (t' := s1.toks) hk
      refine ⟨s1.heap.objs.size + 1, [s1.heap.objs.size + 1, s1.heap.objs.size], _, _, H1, rfl, I2, turn_enum a (s1.heap.objs.size + 1) s1.heap.objs.size, ⟨⟨.none, he⟩, hit, Nat.succ_ne_self _⟩, fun b hb => ?_, q⟩
      have e' : b = s1.heap.objs.size + 1 ∨ b = s1.heap.objs.size := by simpa using hb
      have hle : s1.heap.objs.size ≤ b := by
        rcases e' with z | z
        · rw [z]; exact Nat.le_add_right _ _
        · rw [z]; exact Nat.le_refl _
      exact I1.fpOk hle (I1.hok.fresh hle)
  · subst ex
    cases r1 with
    | cons r rr =>
      cases rr
      cases r
      obtain ⟨its, rv, p', hz⟩ := I1.tuple hq
      refine call_enumerate_tuple p' fun h' he hit hsz hk => wpAny_pyIter_enum he ?_
      have I2 : Inv X pins σ H1 { s1 with heap := h' } := I1.kept (t' := s1.toks) hk
      refine ⟨s1.heap.objs.size + 1, [s1.heap.objs.size + 1, s1.heap.objs.size], _, _, H1, rfl, I2, turn_enumT a (s1.heap.objs.size + 1) s1.heap.objs.size, ⟨⟨.none, he⟩, hit, Nat.succ_ne_self _⟩, fun b hb => ?_, q⟩
      have e' : b = s1.heap.objs.size + 1 ∨ b = s1.heap.objs.size := by simpa using hb
      have hle : s1.heap.objs.size ≤ b := by
        rcases e' with z | z
        · rw [z]; exact Nat.le_add_right _ _
        · rw [z]; exact Nat.le_refl _
      exact I1.fpOk hle (I1.hok.fresh hle)
end
end L2
end
section
set_option Elab.async false
set_option linter.all false
set_option maxRecDepth 100000
set_option maxHeartbeats 1000000
namespace Bm
open PySem PySem.Spec L2
def qt (c : Cfg) : Cfg := { c with E := fun _ _ _ => False }
theorem yields_list {K : PySem.W.Frag} {F : Hp} {a : Addr} {xs : List V} {l : List D} (h : F a = some (.lst xs)) (q : DpAll K F xs l) : Yields K F (Itl K a) l where
  go := fun i H F' s1 s2 hi => by
    have hx : i < xs.length := by rw [dpa_len q]; exact hi
    exact ⟨xs, xs[i], .inl (.inl ((s1.trans s2) _ _ h)), List.getElem?_eq_getElem hx⟩
  stop := fun i H F' s1 s2 hi => ⟨xs, .inl (.inl ((s1.trans s2) _ _ h)), by rw [dpa_len q]; exact hi⟩
  yld := fun i H F' x H' _ s1 s2 y => by
    obtain ⟨e, y⟩ := y
    subst e
    have z := y xs (.inl (.inl ((s1.trans s2) _ _ h)))
    have hi : i < l.length := by rw [← dpa_len q]; exact (List.getElem?_eq_some_iff.mp z).1
    obtain ⟨v, e1, e2⟩ := dpa_get q (List.getElem?_eq_getElem hi)
    rw [z] at e1; cases e1
    exact ⟨F', Same.refl _, s2, fun _ _ _ => rfl, _, List.getElem?_eq_getElem hi, Dn.of (dp_same s1 _ _ e2)⟩
theorem yields_tup {K : PySem.W.Frag} {F : Hp} {a : Addr} {xs : List V} {l : List D} (h : F a = some (.tup xs)) (q : DpAll K F xs l) : Yields K F (Itt K a) l where
  go := fun i H F' s1 s2 hi => by
    have hx : i < xs.length := by rw [dpa_len q]; exact hi
    exact ⟨xs, xs[i], .inl (.inl ((s1.trans s2) _ _ h)), List.getElem?_eq_getElem hx⟩
  stop := fun i H F' s1 s2 hi => ⟨xs, .inl (.inl ((s1.trans s2) _ _ h)), by rw [dpa_len q]; exact hi⟩
  yld := fun i H F' x H' _ s1 s2 y => by
    obtain ⟨e, y⟩ := y
    subst e
    have z := y xs (.inl (.inl ((s1.trans s2) _ _ h)))
    have hi : i < l.length := by rw [← dpa_len q]; exact (List.getElem?_eq_some_iff.mp z).1
    obtain ⟨v, e1, e2⟩ := dpa_get q (List.getElem?_eq_getElem hi)
    rw [z] at e1; cases e1
    exact ⟨F', Same.refl _, s2, fun _ _ _ => rfl, _, List.getElem?_eq_getElem hi, Dn.of (dp_same s1 _ _ e2)⟩
theorem chars_len (l : List Nat) : (chars l).length = l.length := List.length_map ..
theorem yields_str {K : PySem.W.Frag} {F : Hp} (z : Str) : Yields K F (Its z) (chars (toL z)) where
  go := fun i H F' s1 s2 hi => by
    show i < z.cps.size
    rw [chars_len] at hi
    simpa [toL] using hi
  stop := fun i H F' s1 s2 hi => by
    show z.cps.size ≤ i
    rw [chars_len] at hi
    simpa [toL] using hi
  yld := fun i H F' x H' _ s1 s2 y => by
    obtain ⟨e, c, hc, ex⟩ := y
    subst e; subst ex
    refine ⟨F', Same.refl _, s2, fun _ _ _ => rfl, dS [c], ?_, Dp.str _⟩
    unfold chars toL
    rw [List.getElem?_map, Array.getElem?_toList, hc]
    rfl
theorem rangeFrom_get : ∀ (n : Nat) (i : Int) (k : Nat), (rangeFrom i n)[k]? = if k < n then some (.int (i + k)) else none
  | 0, i, k => by simp [rangeFrom]
  | n + 1, i, 0 => by simp [rangeFrom]
  | n + 1, i, k + 1 => by
    simp only [rangeFrom, List.getElem?_cons_succ]
    rw [rangeFrom_get n (i + 1) k]
    by_cases h : k < n
    · rw [if_pos h, if_pos (by omega)]; congr 2; omega
    · rw [if_neg h, if_neg (by omega)]
theorem rangeFrom_len : ∀ (n : Nat) (i : Int), (rangeFrom i n).length = n
  | 0, _ => rfl
  | n + 1, i => by simp [rangeFrom, rangeFrom_len n]
theorem yields_range {K : PySem.W.Frag} {F : Hp} (lo : Int) (n : Nat) : Yields K F (Itr lo n) (rangeFrom lo n) where
  go := fun i H F' s1 s2 hi => by rw [rangeFrom_len] at hi; exact hi
  stop := fun i H F' s1 s2 hi => by rw [rangeFrom_len] at hi; exact hi
  yld := fun i H F' x H' hi s1 s2 y => by
    obtain ⟨e, ex⟩ := y
    subst e; subst ex
    rw [rangeFrom_len] at hi
    exact ⟨F', Same.refl _, s2, fun _ _ _ => rfl, .int (lo + i), by rw [rangeFrom_get, if_pos hi], Dp.int _⟩
theorem enumFrom_get : ∀ (l : List D) (k i : Nat), (enumFrom k l)[i]? = (l[i]?).map fun x => .tuple [.int ((k + i : Nat) : Int), x]
  | [], k, i => by simp [enumFrom]
  | x :: r, k, 0 => by simp [enumFrom]
  | x :: r, k, i + 1 => by
    simp only [enumFrom, List.getElem?_cons_succ]
    rw [enumFrom_get r (k + 1) i]
    have : k + 1 + i = k + (i + 1) := by omega
    rw [this]
theorem enumFrom_len : ∀ (l : List D) (k : Nat), (enumFrom k l).length = l.length
  | [], _ => rfl
  | _ :: r, k => by simp [enumFrom, enumFrom_len r]
theorem enum_pair {K : PySem.W.Frag} {F' H : Hp} {T : Addr} {x : V} {i : Nat} {d : D} (s2 : Same F' H) (nT : H T = none) (e2 : Dp K F' x d) :
    ∃ F'', Same H (upd H T (.tup [.int (i : Nat), x])) ∧ Same F'' (upd H T (.tup [.int (i : Nat), x])) ∧ (∀ b u, H b = some u → F'' b = F' b) ∧ Dn K F'' (.ref T) (.tuple [.int ((i : Nat) : Int), d]) := by
  have g : Grow F' H (upd F' T (.tup [.int (i : Nat), x])) (upd H T (.tup [.int (i : Nat), x])) := Grow.alloc s2 nT
  refine ⟨_, same_upd nT, g.same, fun b u hb => (g.kp b u hb).1, Dp.tup upd_same (.cons (.int _) (.cons (dp_same (same_upd (s2.free nT)) _ _ e2) .nil))⟩
theorem yields_enumL {K : PySem.W.Frag} {F : Hp} {a : Addr} {xs : List V} {l : List D} (h : F a = some (.lst xs)) (q : DpAll K F xs l) : Yields K F (Ite K a) (enumFrom 0 l) where
  go := fun i H F' s1 s2 hi => by
    have hx : i < xs.length := by rw [dpa_len q]; rw [enumFrom_len] at hi; exact hi
    exact ⟨xs, xs[i], .inl (.inl ((s1.trans s2) _ _ h)), List.getElem?_eq_getElem hx⟩
  stop := fun i H F' s1 s2 hi => ⟨xs, .inl (.inl ((s1.trans s2) _ _ h)), by rw [dpa_len q]; rw [enumFrom_len] at hi; exact hi⟩
  yld := fun i H F' x H' _ s1 s2 y => by
    obtain ⟨T, v, ex, nT, eH, y⟩ := y
    subst ex; subst eH
    have z := y xs (.inl (.inl ((s1.trans s2) _ _ h)))
    have hi : i < l.length := by rw [← dpa_len q]; exact (List.getElem?_eq_some_iff.mp z).1
    obtain ⟨v', e1, e2⟩ := dpa_get q (List.getElem?_eq_getElem hi)
    rw [z] at e1; cases e1
    obtain ⟨F'', g1, g2, g3, g4⟩ := enum_pair (i := i) s2 nT (dp_same s1 _ _ e2)
    refine ⟨F'', g1, g2, g3, _, ?_, g4⟩
    rw [enumFrom_get, List.getElem?_eq_getElem hi, Nat.zero_add]
    rfl
theorem yields_enumT {K : PySem.W.Frag} {F : Hp} {a : Addr} {xs : List V} {l : List D} (h : F a = some (.tup xs)) (q : DpAll K F xs l) : Yields K F (IteT K a) (enumFrom 0 l) where
  go := fun i H F' s1 s2 hi => by
    have hx : i < xs.length := by rw [dpa_len q]; rw [enumFrom_len] at hi; exact hi
    exact ⟨xs, xs[i], .inl (.inl ((s1.trans s2) _ _ h)), List.getElem?_eq_getElem hx⟩
  stop := fun i H F' s1 s2 hi => ⟨xs, .inl (.inl ((s1.trans s2) _ _ h)), by rw [dpa_len q]; rw [enumFrom_len] at hi; exact hi⟩
  yld := fun i H F' x H' _ s1 s2 y => by
    obtain ⟨T, v, ex, nT, eH, y⟩ := y
    subst ex; subst eH
    have z := y xs (.inl (.inl ((s1.trans s2) _ _ h)))
    have hi : i < l.length := by rw [← dpa_len q]; exact (List.getElem?_eq_some_iff.mp z).1
    obtain ⟨v', e1, e2⟩ := dpa_get q (List.getElem?_eq_getElem hi)
    rw [z] at e1; cases e1
    obtain ⟨F'', g1, g2, g3, g4⟩ := enum_pair (i := i) s2 nT (dp_same s1 _ _ e2)
    refine ⟨F'', g1, g2, g3, _, ?_, g4⟩
    rw [enumFrom_get, List.getElem?_eq_getElem hi, Nat.zero_add]
    rfl
section
variable {X : Cx} {c : Cfg} {e e1 e2 : Expr} {es : List Expr} {a b m : E} {pos : Pos} {tg : Expr}
theorem si_seq (h : PE X e (TEv X.K c a)) : PI X tg e (TIv X.K c (.it .seq (.cons a .nil))) := by
  refine PI.mono (pi_any h) fun σ H R' ⟨F, r, x, h⟩ => ⟨F, r, x, ?_⟩
  simp only [den] at h
  cases ed : den c.call a r with
  | ok p =>
    obtain ⟨d, r1⟩ := p
    rw [ed] at h
    simp only [R.ok_bind] at h
    intro v F1 H1 x1 e1 s1 q1
    cases d with
    | list l =>
      have q1' : Dp X.K F1 v (.list l) := q1
      cases q1' with
      | lst h1 h2 => exact .inl ⟨_, rfl, ⟨_, .inl (.inl (x1.rel.same _ _ h1))⟩, h _ F1 H1 x1 e1 s1 (yields_list h1 h2)⟩
    | tuple l =>
      have q1' : Dp X.K F1 v (.tuple l) := q1
      cases q1' with
      | tup h1 h2 => exact .inr (.inl ⟨_, rfl, ⟨_, .inl (.inl (x1.rel.same _ _ h1))⟩, h _ F1 H1 x1 e1 s1 (yields_tup h1 h2)⟩)
    | str z =>
      have q1' : Dp X.K F1 v (.str z) := q1
      cases q1'
      exact .inr (.inr ⟨z, rfl, h _ F1 H1 x1 e1 s1 (yields_str z)⟩)
    | none => exact h.elim
    | bool _ => exact h.elim
    | int _ => exact h.elim
    | dict _ => exact h.elim
  | exc k => rw [ed] at h; exact h
  | stuck => rw [ed] at h; exact h
theorem tiv_it {K : PySem.W.Frag} {k : ItK} {σ : St} {H : Hp} {R' : It → Hp → Prop} {rr : List V → Hp → Prop} (h : TIv K c (.it k a) σ H R')
    (f : ∀ ds items vs F1 H1, DnAll K F1 vs ds → itD k ds = some items → Same F1 H1 → (∀ J, Yields K F1 J items → R' J H1) → rr vs H1) : TAv K c a σ H rr := by
  obtain ⟨F, r, x, h⟩ := h
  refine ⟨F, r, x, ?_⟩
  simp only [den] at h
  cases ed : den c.call a r with
  | ok p =>
    obtain ⟨d, r1⟩ := p
    rw [ed] at h
    simp only [R.ok_bind] at h
    cases d with
    | list ds =>
      simp only at h
      cases ei : itD k ds with
      | none => rw [ei] at h; exact h.elim
      | some items =>
        rw [ei] at h
        exact fun vs F1 H1 x1 e1 s1 q1 => f ds items vs F1 H1 q1 ei x1.rel.same fun J Y => h J F1 H1 x1 e1 s1 Y
    | none => exact h.elim
    | bool _ => exact h.elim
    | int _ => exact h.elim
    | str _ => exact h.elim
    | tuple _ => exact h.elim
    | dict _ => exact h.elim
  | exc k => rw [ed] at h; exact h
  | stuck => rw [ed] at h; exact h
theorem dn_int {K : PySem.W.Frag} {F : Hp} {v : V} {i : Int} (h : Dn K F v (.int i)) : v = .int i := by
  have h' : Dp K F v (.int i) := h
  cases h'; rfl
theorem si_range1 {p : Pos} (hg : Gl X "range") (hm : X.mg "range" = none) (ha : PA X [e] (TAv X.K c a)) (hs : starEach [e] X.env = [(false, eval e X.env)] := by rfl) : PI X tg (.Call (.Name "range" p) [e] [] pos) (TIv X.K c (.it .range1 a)) := by
  refine PI.mono (pi_range1 hg hm ha hs) fun σ H R h => tiv_it h fun ds items vs F1 H1 q ei sm hR => ?_
  match ds, q with
  | [d], .cons q1 .nil =>
    cases d with
    | int n =>
      simp only [itD, guardO] at ei
      by_cases hn : decide (-(lim : Int) ≤ n ∧ n ≤ lim) = true
      · rw [if_pos hn] at ei
        cases ei
        rw [decide_eq_true_eq] at hn
        have hv := dn_int q1
        subst hv
        have hl : (lim : Int) = 1000000 := rfl
        exact ⟨n, rfl, by omega, by omega, hR _ (yields_range 0 n.toNat)⟩
      · rw [if_neg hn] at ei; cases ei
    | none => cases ei
    | bool _ => cases ei
    | str _ => cases ei
    | list _ => cases ei
    | tuple _ => cases ei
    | dict _ => cases ei
  | [], .nil => cases ei
  | _ :: _ :: _, _ => simp [itD] at ei
theorem si_enum {p tpos : Pos} {elts : List Expr} {kk : Nat} (hg : Gl X "enumerate") (hm : X.mg "enumerate" = none) (ha : PA X [e] (TAv X.K c a)) (hs : starEach [e] X.env = [(false, eval e X.env)] := by rfl) :
    PI X (.Tuple elts kk tpos) (.Call (.Name "enumerate" p) [e] [] pos) (TIv X.K c (.it .enum a)) := by
  refine PI.mono (pi_enumA hg hm ha hs) fun σ H R h => tiv_it h fun ds items vs F1 H1 q ei sm hR => ?_
  match ds, q with
  | [d], .cons q1 .nil =>
    cases d with
    | list l =>
      simp only [itD] at ei
      cases ei
      have q1' : Dp X.K F1 _ (.list l) := q1
      cases q1' with
      | lst h1 h2 => exact .inl ⟨_, _, rfl, .inl (.inl (sm _ _ h1)), hR _ (yields_enumL h1 h2)⟩
    | tuple l =>
      simp only [itD] at ei
      cases ei
      have q1' : Dp X.K F1 _ (.tuple l) := q1
      cases q1' with
      | tup h1 h2 => exact .inr ⟨_, _, rfl, .inl (.inl (sm _ _ h1)), hR _ (yields_enumT h1 h2)⟩
    | _ => cases ei
  | [], .nil => cases ei
  | _ :: _ :: _, _ => simp [itD] at ei
theorem takesN0 {X : Cx} : L2N.Takes X (fun _ _ _ _ => False) := fun _ _ h => by
  obtain ⟨_, _, _, _, _, _, _, _, _, _, _, _, _, _, _, _, no⟩ := h
  exact no.elim
/-- the class x, at C: it may be raised with a text -/
structure ExcAt (K : PySem.W.Frag) (mg : Str → Option Value) (x : Str) (C : Addr) : Prop where
  g : mg x = some (.ref C)
  xn : PySem.W.excIn K C [.type "ValueError", .type "Exception", .type "BaseException", .type "object"] "ValueError.__new__" = true
  kp : PySem.W.keepIn K (.ref C) = true
  sub : PySem.W.subIn K (.ref C) (.type "BaseException") = some true
  ty : PySem.W.typeIn K (.ref C) = some (.type "type")
theorem ss_raise {x t : Str} {C : Addr} {k j : Nat} {p p2 p3 : Pos} (hc : X.calm = true) (tk : L2N.Takes X fun cls d _ H => c.E cls d H) (q : ExcAt X.K X.mg x C) (hC : c.cl k = .ref C) (hg : Gl X x) (hdb : (x == ("__debug__" : Str)) = false := by decide) :
    PS X (.Raise (some (.Call (.Name x p) [.Constant (.str t) j p2] [] p3)) none pos) (TSv X.K c (.raise k)) := by
  refine PS.mono (L2N.ps_raise hc tk (L2N.pmk_own PySem.F.excBase_ValueError q.xn q.g q.kp (raises_own q.sub q.ty) hg hdb)) fun D σ H ⟨F, r, x, h⟩ => ?_
  show c.E (.ref C) none H
  rw [← hC]
  exact h F H x.tie x.rel.same x.kp
theorem Stt.quiet {K : PySem.W.Frag} {r : Env} {σ : St} {H F : Hp} (x : Stt K c r σ H F) : Stt K (qt c) r σ H F := ⟨x.rel, x.tie, x.kp, x.own, x.pin⟩
theorem Stt.loud {K : PySem.W.Frag} {r : Env} {σ : St} {H F : Hp} (x : Stt K (qt c) r σ H F) : Stt K c r σ H F := ⟨x.rel, x.tie, x.kp, x.own, x.pin⟩
theorem getS_wipe (r : Env) (j : Nat) : ∀ is : List Nat, getS (wipeE r is) j = if j ∈ is then .un else getS r j
  | [] => by simp [wipeE]
  | i :: is => by
    have wl : ∀ is : List Nat, (wipeE r is).length = r.length := fun is => by
      induction is with
      | nil => rfl
      | cons i is ih => simp [wipeE, putS, ih]
    simp only [wipeE]
    rw [getS_put, getS_wipe r j is, wl]
    by_cases h : i = j
    · subst h
      simp only [List.mem_cons, true_or, if_true, true_and]
      by_cases h2 : i < r.length
      · rw [if_pos h2]
      · rw [if_neg h2]
        have : getS r i = .un := by
          unfold getS
          rw [List.getD_eq_getElem?_getD, List.getElem?_eq_none (by omega)]
          rfl
        rw [this]
        simp
    · rw [if_neg (fun z => h z.1)]
      simp only [List.mem_cons, show ¬ j = i from fun z => h z.symm, false_or]
theorem wipe_at (σ : St) (j : Nat) : ∀ is : List Nat, vAt (wipe σ is) j = if j ∈ is then none else vAt σ j
  | [] => by simp [wipe]
  | i :: is => by
    simp only [wipe]
    rw [vAt_set, wipe_at σ j is, wipe_length]
    by_cases h : i = j
    · subst h
      simp only [List.mem_cons, true_or, if_true, true_and]
      by_cases h2 : i < σ.length
      · rw [if_pos h2]
      · rw [if_neg h2]
        have : vAt σ i = none := by
          unfold vAt
          rw [List.getElem?_eq_none (by omega)]
          rfl
        rw [this]
        simp
    · rw [if_neg (fun z => h z.1)]
      simp only [List.mem_cons, show ¬ j = i from fun z => h z.symm, false_or]
theorem wipeE_len (r : Env) : ∀ is : List Nat, (wipeE r is).length = r.length
  | [] => rfl
  | i :: is => by simp [wipeE, putS, wipeE_len r is]
theorem backE_len (r' r : Env) : ∀ is : List Nat, (backE r' r is).length = r'.length
  | [] => rfl
  | i :: is => by simp [backE, putS, backE_len r' r is]
theorem getS_back (r' r : Env) (j : Nat) : ∀ is : List Nat, r'.length = r.length → getS (backE r' r is) j = if j ∈ is then getS r j else getS r' j
  | [], _ => by simp [backE]
  | i :: is, hl => by
    simp only [backE]
    rw [getS_put, getS_back r' r j is hl, backE_len]
    by_cases h : i = j
    · subst h
      simp only [List.mem_cons, true_or, if_true, true_and]
      by_cases h2 : i < r'.length
      · rw [if_pos h2]
      · rw [if_neg h2]
        have e1 : getS r i = .un := by
          unfold getS
          rw [List.getD_eq_getElem?_getD, List.getElem?_eq_none (by omega)]
          rfl
        have e2 : getS r' i = .un := by
          unfold getS
          rw [List.getD_eq_getElem?_getD, List.getElem?_eq_none (by omega)]
          rfl
        rw [e1, e2]
        simp
    · rw [if_neg (fun z => h z.1)]
      simp only [List.mem_cons, show ¬ j = i from fun z => h z.symm, false_or]
theorem Ef.transG {r r1 : Env} {σ σ1 : St} {H F H1 F1 H2 F2 : Hp} (a : Ef r σ F H F1 H1) (b : Ef r1 σ1 F1 H1 F2 H2) (s : ∀ a, Own r1 σ1 a → Own r σ a) : Ef r σ F H F2 H2 := fun c o h n => by
  have h1 := a c o h n
  have n1 : ¬ Own r1 σ1 c := fun q => n (s c q)
  obtain ⟨o1, e1⟩ := h1.2.ex
  refine ⟨(b c o1 e1 n1).1.trans h1.1, h1.2.trans fun o' e' => (b c o' e' n1).2⟩
theorem own_wipe {r : Env} {σ : St} {is : List Nat} {i : Nat} {a : Addr} (h : OwnAt (wipeE r is) (wipe σ is) i a) : i ∉ is ∧ OwnAt r σ i a := by
  obtain ⟨h1, h2⟩ := h
  rw [getS_wipe] at h1
  rw [wipe_at] at h2
  by_cases hi : i ∈ is
  · rw [if_pos hi] at h1; cases h1
  · rw [if_neg hi] at h1 h2; exact ⟨hi, h1, h2⟩
theorem Stt.wiped {K : PySem.W.Frag} {r : Env} {σ : St} {H F : Hp} (x : Stt K c r σ H F) (is : List Nat) (hz : ZOk c is) : Stt K c (wipeE r is) (wipe σ is) H F := by
  refine ⟨⟨?_, x.rel.same, fun i => ?_, fun i j a p q => x.rel.inj i j a (own_wipe p).2 (own_wipe q).2⟩, x.tie, x.kp, fun b ⟨i, q⟩ => x.own b ⟨i, (own_wipe q).2⟩, fun i => by
    rw [wipe_at]
    by_cases hi : i ∈ is
    · rw [if_pos hi]; exact hz.at hi _
    · rw [if_neg hi]; exact x.pin i⟩
  · rw [wipeE_len, wipe_length]; exact x.rel.len
  · rw [getS_wipe, wipe_at]
    by_cases hi : i ∈ is
    · rw [if_pos hi]; trivial
    · rw [if_neg hi, if_neg hi]; exact x.rel.ok i
theorem st_ext {σ σ' : St} (h : ∀ i : Nat, σ[i]? = σ'[i]?) : σ = σ' := List.ext_getElem? h
theorem wipe_get (σ : St) (j : Nat) : ∀ is : List Nat, (wipe σ is)[j]? = if j ∈ is ∧ j < σ.length then some none else σ[j]?
  | [] => by simp [wipe]
  | i :: is => by
    simp only [wipe]
    rw [List.getElem?_set, wipe_get σ j is, wipe_length]
    by_cases h : i = j
    · subst h
      by_cases h2 : i < σ.length
      · simp [h2]
      · simp [h2]
    · simp [h, Ne.symm h]
theorem wipe_same {σ σ' : St} {is : List Nat} (h : ∀ i, i ∉ is → σ'[i]? = σ[i]?) (hl : σ'.length = σ.length) : wipe σ' is = wipe σ is := st_ext fun i => by
  rw [wipe_get, wipe_get, hl]
  by_cases hi : i ∈ is ∧ i < σ.length
  · rw [if_pos hi, if_pos hi]
  · rw [if_neg hi, if_neg hi]
    by_cases h2 : i ∈ is
    · have : ¬ i < σ.length := fun z => hi ⟨h2, z⟩
      rw [List.getElem?_eq_none (by omega), List.getElem?_eq_none (by omega)]
    · exact h i h2
theorem wipe_wipe (σ : St) (is : List Nat) : wipe (wipe σ is) is = wipe σ is := wipe_same (fun i hi => by rw [wipe_get, if_neg (fun z => hi z.1)]) (wipe_length σ is)
/-- behind the block: its own names as they were -/
theorem Stt.back {K : PySem.W.Frag} {r1 r2 : Env} {σ : St} {H1 F1 H F : Hp} {is : List Nat} (x1 : Stt K c r1 σ H1 F1) (x : Stt K c (wipeE r2 is) (wipe σ is) H F) (ef : Ef (wipeE r1 is) (wipe σ is) F1 H1 F H) (hl : r2.length = r1.length) (ow : ∀ a, Own (wipeE r2 is) (wipe σ is) a → Own (wipeE r1 is) (wipe σ is) a) :
    Stt K c (backE r2 r1 is) σ H F ∧ Ef r1 σ F1 H1 F H ∧ ∀ a, Own (backE r2 r1 is) σ a → Own r1 σ a := by
  have ef1 : Ef r1 σ F1 H1 F H := fun b o h n => ef b o h fun ⟨i, q⟩ => n ⟨i, (own_wipe q).2⟩
  have sF : Same F1 F := ef1.same x1.rel
  have key : ∀ i a, OwnAt (backE r2 r1 is) σ i a → (i ∈ is ∧ OwnAt r1 σ i a) ∨ (i ∉ is ∧ OwnAt (wipeE r2 is) (wipe σ is) i a) := fun i a ⟨h1, h2⟩ => by
    rw [getS_back _ _ _ _ hl] at h1
    by_cases hi : i ∈ is
    · rw [if_pos hi] at h1; exact .inl ⟨hi, h1, h2⟩
    · rw [if_neg hi] at h1; exact .inr ⟨hi, by rw [getS_wipe, if_neg hi]; exact h1, by rw [wipe_at, if_neg hi]; exact h2⟩
  have kept : ∀ i a, i ∈ is → OwnAt r1 σ i a → ¬ Own (wipeE r1 is) (wipe σ is) a := fun i a hi q ⟨j, z⟩ => by
    have z' := own_wipe z
    exact z'.1 (x1.rel.inj i j a q z'.2 ▸ hi)
  have ob : ∀ a, Own (backE r2 r1 is) σ a → Own r1 σ a := fun a ⟨i, q⟩ => by
    rcases key i a q with ⟨_, q⟩ | ⟨_, q⟩
    · exact ⟨i, q⟩
    · obtain ⟨j, z⟩ := ow a ⟨i, q⟩
      exact ⟨j, (own_wipe z).2⟩
  refine ⟨⟨⟨?_, x.rel.same, fun i => ?_, fun i j a p q => ?_⟩, x.tie, x.kp, fun b q => x1.own b (ob b q), x1.pin⟩, ef1, ob⟩
  · rw [backE_len, hl]; exact x1.rel.len
  · rw [getS_back _ _ _ _ hl]
    by_cases hi : i ∈ is
    · rw [if_pos hi]
      refine slot_same sF (fun a o1 o2 hf ⟨o, ho, mu⟩ => ?_) (aside_ef x1.rel ef1) (x1.rel.ok i)
      have z := ef a o ho (kept i a hi ⟨o1, o2⟩)
      exact ⟨z.1.trans hf, (z.2.mut mu).trans ho.symm⟩
    · rw [if_neg hi]
      have z := x.rel.ok i
      rw [getS_wipe, if_neg hi, wipe_at, if_neg hi] at z
      exact z
  · rcases key i a p with ⟨hi, p⟩ | ⟨hi, p⟩
    · rcases key j a q with ⟨hj, q⟩ | ⟨hj, q⟩
      · exact x1.rel.inj i j a p q
      · exact absurd (ow a ⟨j, q⟩) (kept i a hi p)
    · rcases key j a q with ⟨hj, q⟩ | ⟨hj, q⟩
      · exact absurd (ow a ⟨i, p⟩) (kept j a hj q)
      · exact x.rel.inj i j a p q
end
end Bm
end
section
set_option Elab.async false
set_option linter.all false
set_option maxRecDepth 100000
set_option maxHeartbeats 1000000
namespace Bm
open PySem PySem.Spec L2
section
variable {X : Cx} {c : Cfg} {e e1 e2 : Expr} {es : List Expr} {a b m : E} {pos : Pos} {tg : Expr}
theorem PTs.mono {ifs : List Expr} {t u : TT} (h : PTs X ifs t) (i : ∀ σ H Q, u σ H Q → t σ H Q) : PTs X ifs u := ⟨fun pins s σ H Q I q => h.run pins s σ H Q I (i σ H Q q)⟩
theorem st_nil : PTs X [] (TTv X.K c (.lit (.bool true))) := PTs.mono pts_nil fun σ H Q ⟨F, r, x, h⟩ => by
  obtain ⟨k, e, q⟩ := h (.bl true) F H x Ef.refl (fun _ z => z) (Dp.bl true)
  cases e
  exact q
theorem st_one (h : PT X e (TTv X.K c m)) : PTs X [e] (TTv X.K c m) := pts_one h
def tgs : Tg → List Nat
  | .name i => [i]
  | .tup is => is
  | .lst is => is
theorem putAll_length : ∀ {is : List Nat} {ds : List D} {r r' : Env}, putAll r is ds = some r' → r'.length = r.length
  | [], [], _, _, h => by simp only [putAll] at h; cases h; rfl
  | _ :: _, _ :: _, _, _, h => by simp only [putAll] at h; rw [putAll_length h]; simp [putS]
  | [], _ :: _, _, _, h => by cases h
  | _ :: _, [], _, _, h => by cases h
theorem own_put_sh {r : Env} {σ : St} {i : Nat} {d : D} {v : V} (hl : r.length = σ.length) {b : Addr} (h : Own (putS r i (.sh d)) (σ.set i (some v)) b) : Own r σ b := by
  obtain ⟨j, h1, h2⟩ := h
  rw [getS_put] at h1
  rw [vAt_set] at h2
  by_cases hj : i = j ∧ i < σ.length
  · rw [if_pos ⟨hj.1, by omega⟩] at h1; cases h1
  · rw [if_neg (by rw [hl]; exact hj)] at h1
    rw [if_neg hj] at h2
    exact ⟨j, h1, h2⟩
/-- what a target leaves: nothing more is owned -/
def TGo (K : PySem.W.Frag) (c : Cfg) (tg : Tg) (g : TG) : Prop := ZOk c (tgs tg) ∧ ∀ (v : V) (d : D) (r r' : Env) (σ : St) (F H : Hp) (Q : St → Hp → Prop), Stt K c r σ H F → Dn K F v d → bindT tg d r = some r' →
  (∀ σ', Stt K c r' σ' H F → (∀ i, i ∉ tgs tg → σ'[i]? = σ[i]?) → σ'.length = σ.length → (∀ b, Own r' σ' b → Own r σ b) → Q σ' H) → g v σ H Q
theorem to_name {K : PySem.W.Frag} {i : Nat} (hz : ZOk c [i] := by exact ⟨_, by assumption, by decide⟩) : TGo K c (.name i) (gName i) := by
  refine ⟨hz, ?_⟩
  intro v d r r' σ F H Q x q e h
  simp only [bindT] at e
  cases e
  refine h _ (x.put_sh hz q) (fun j hj => ?_) (List.length_set ..) fun b z => own_put_sh x.rel.len z
  rw [List.getElem?_set_ne (fun z => hj (by simp [tgs, z]))]
theorem to_names {K : PySem.W.Frag} : ∀ (is : List Nat) (hz : ZOk c is) (vs : List V) (ds : List D) (r r' : Env) (σ : St) (F H : Hp) (Q : St → Hp → Prop), Stt K c r σ H F → DpAll K F vs ds → putAll r is ds = some r' →
    (∀ σ', Stt K c r' σ' H F → (∀ i, i ∉ is → σ'[i]? = σ[i]?) → σ'.length = σ.length → (∀ b, Own r' σ' b → Own r σ b) → Q σ' H) → gNames is vs σ H Q
  | [], hz, vs, ds, r, r', σ, F, H, Q, x, q, e, h => by
    cases ds with
    | nil =>
      cases q
      simp only [putAll] at e
      cases e
      exact ⟨rfl, h σ x (fun _ _ => rfl) rfl fun _ z => z⟩
    | cons d ds => cases e
  | i :: is, hz, vs, ds, r, r', σ, F, H, Q, x, q, e, h => by
    cases ds with
    | nil => cases e
    | cons d ds =>
      cases q with
      | cons q1 q2 =>
        simp only [putAll] at e
        refine ⟨_, _, rfl, to_names is hz.tail _ _ _ _ _ F H Q (x.put_sh hz.head (Dn.of q1)) q2 e fun σ' x' k hl ow => h σ' x' (fun j hj => ?_) (hl.trans (List.length_set ..)) fun b z => own_put_sh x.rel.len (ow b z)⟩
        rw [k j (fun z => hj (List.mem_cons_of_mem _ z)), List.getElem?_set_ne (fun z => hj (by rw [z]; exact List.mem_cons_self))]
theorem to_tup {K : PySem.W.Frag} {is : List Nat} {n : Nat} (hn : is.length = n) (hz : ZOk c is := by exact ⟨_, by assumption, by decide⟩) : TGo K c (.tup is) (gTup K n (gNames is)) := by
  refine ⟨hz, ?_⟩
  intro v d r r' σ F H Q x q e h
  cases d with
  | tuple ds =>
    have q' : Dp K F v (.tuple ds) := q
    cases q' with
    | tup h1 h2 =>
      simp only [bindT] at e
      refine ⟨_, _, rfl, .inl (.inl (x.rel.same _ _ h1)), ?_, to_names is hz _ ds r r' σ F H Q x h2 e h⟩
      rw [dpa_len h2, putAll_len e, hn]
  | _ => cases e
def OkL (K : PySem.W.Frag) (c : Cfg) (r : Env) (σ : St) (F H : Hp) (y : R (D × Env)) (Q : VK) : Prop :=
  match y with
  | .ok (.list ys, r') => ∀ (A : Addr) (vs : List V) (F' H' : Hp), Stt K c r' σ H' F' → Ef r σ F H F' H' → (∀ a, Own r' σ a → Own r σ a) → H' A = some (.lst vs) → F' A = none → ¬ Own r' σ A → DpAll K F' vs ys → (c.W.O0 A ∨ c.W.H0 A = none) → (∀ b o, H b = some o → ¬ Own r σ b → A ≠ b) → Q (.ref A) H'
  | .exc k => ∀ (F' H' : Hp), c.J H' → Same F' H' → Kp c.W F' H' → c.E (c.cl k) none H'
  | _ => False
def lcEnd (r1 : Env) (is : List Nat) (y : R (List D × Env)) : R (D × Env) := y.bind fun p => if p.1.length ≤ lim then .ok (.list p.1, backE p.2 r1 is) else .stuck
theorem den_lc (call : CallS) (is : List Nat) (t : Tg) (src cond elt : E) (r : Env) : den call (.lc is t src cond elt) r = (den call src r).bind fun (x, r1) => match x with
    | .list l => lcEnd r1 is (lcLoop (fun d r => bindT t d (wipeE r is)) (den call cond) (den call elt) l r1 [])
    | _ => .stuck := by
  simp only [den]
  cases den call src r with
  | ok p => obtain ⟨d, r1⟩ := p; cases d <;> rfl
  | exc k => rfl
  | stuck => rfl
theorem OkL.stuck_of {K : PySem.W.Frag} {r : Env} {σ : St} {F H : Hp} {Q : VK} {P : Prop} (h : OkL K c r σ F H .stuck Q) : P := h.elim
theorem bindT_len {t : Tg} {d : D} {r r' : Env} (h : bindT t d r = some r') : r'.length = r.length := by
  cases t with
  | name i => simp only [bindT] at h; cases h; simp [putS]
  | tup is =>
    cases d with
    | tuple ds => exact putAll_length h
    | _ => cases h
  | lst is =>
    cases d with
    | list ds => exact putAll_length h
    | _ => cases h
theorem lcLoop_acc {bind : D → Env → Option Env} {cond elt : Env → R (D × Env)} : ∀ {xs : List D} {r r2 : Env} {acc ys : List D}, lcLoop bind cond elt xs r acc = .ok (ys, r2) → acc.length ≤ ys.length
  | [], r, r2, acc, ys, h => by
    simp only [lcLoop] at h
    cases h
    rw [List.length_reverse]
    exact Nat.le_refl _
  | x :: xs, r, r2, acc, ys, h => by
    simp only [lcLoop] at h
    split at h
    · cases h
    · split at h
      · split at h
        · split at h
          · have := lcLoop_acc h
            rw [List.length_cons] at this
            omega
          · cases h
        · cases h
      · exact lcLoop_acc h
      · cases h
theorem lcLoop_exc {bind : D → Env → Option Env} {cond elt : Env → R (D × Env)} {k : Nat} : ∀ {xs : List D} {r : Env} {acc : List D}, lcLoop bind cond elt xs r acc ≠ .exc k
  | [], r, acc => by simp [lcLoop]
  | x :: xs, r, acc => by
    simp only [lcLoop]
    split
    · nofun
    · split
      · split
        · split
          · exact lcLoop_exc
          · nofun
        · nofun
      · exact lcLoop_exc
      · nofun
theorem lcLoop_lim {K : PySem.W.Frag} {r r1 r' : Env} {is : List Nat} {σ : St} {F H : Hp} {Q : VK} {bind : D → Env → Option Env} {cond elt : Env → R (D × Env)} {xs acc : List D} (h : OkL K c r σ F H (lcEnd r1 is (lcLoop bind cond elt xs r' acc)) Q) : acc.length ≤ lim := by
  cases e : lcLoop bind cond elt xs r' acc with
  | ok p =>
    obtain ⟨ys, r2⟩ := p
    rw [e] at h
    simp only [lcEnd, R.ok_bind] at h
    by_cases hl : ys.length ≤ lim
    · exact Nat.le_trans (lcLoop_acc e) hl
    · rw [if_neg hl] at h; exact h.elim
  | exc k => exact absurd e lcLoop_exc
  | stuck => rw [e] at h; exact h.elim
/-- what nobody owns and what is not frozen may be written -/
theorem Stt.poke {K : PySem.W.Frag} {r : Env} {σ : St} {H F : Hp} (x : Stt K c r σ H F) {p : Addr} {o o0 : HO} (h : H p = some o0) (mu0 : isMut o0) (mu : isMut o) (f : F p = none) (no : ¬ Own r σ p) (w : c.W.O0 p ∨ c.W.H0 p = none) : Stt K c r σ (upd H p o) F := by
  refine ⟨⟨x.rel.len, fun b u hb => ?_, fun i => ?_, x.rel.inj⟩, ?_, fun b u hb n => ?_, x.own, x.pin⟩
  · have nb : b ≠ p := fun z => by rw [z, f] at hb; cases hb
    rw [upd_ne nb]; exact x.rel.same b u hb
  · refine slot_same (Same.refl F) (fun b o1 o2 hf _ => ⟨hf, ?_⟩) (aside_upd h mu0) (x.rel.ok i)
    have nb : b ≠ p := fun z => no ⟨i, o1, z ▸ o2⟩
    rw [upd_ne nb]
  · refine c.hJ H _ (fun b u hb => ?_) x.tie
    by_cases nb : b = p
    · subst nb; rw [h] at hb; cases hb; exact .inr mu0
    · rw [upd_ne nb]; exact .inl hb
  · have k := x.kp b u hb n
    have nb : b ≠ p := fun z => by
      rcases w with w | w
      · exact n (z ▸ w)
      · rw [← z, hb] at w; cases w
    rw [upd_ne nb]; exact k
/-- the block's loop -/
theorem tev_lc {K : PySem.W.Frag} {t : Tg} {g : TG} {src cond elt : E} {σ : St} {H : Hp} {Q : VK} (ht : TGo K (qt c) t g) {F : Hp} {r : Env} (x : Stt K c r σ H F)
    (hx : OkL K c r σ F H (den c.call (.lc (tgs t) t src cond elt) r) Q) : tLc (TIv K c src) g (TTv K (qt c) cond) (TEv K (qt c) elt) (tgs t) σ H Q := by
  rw [den_lc] at hx
  refine ⟨F, r, x, ?_⟩
  cases es : den c.call src r with
  | ok p =>
    obtain ⟨d, r1⟩ := p
    rw [es] at hx
    simp only [R.ok_bind] at hx
    cases d with
    | list items =>
      intro J F1 H1 x1 e1 s1 Y A nA
      simp only at hx
      have oA := x1.fresh nA
      have dA : ∀ b o, H b = some o → ¬ Own r σ b → A ≠ b := ef_ne e1 nA
      have nOw : ¬ Own (wipeE r1 (tgs t)) (wipe σ (tgs t)) A := fun z => by
        obtain ⟨i, q⟩ := z
        exact not_own x1.rel nA ⟨i, (own_wipe q).2⟩
      refine ⟨fun i k H2 => ∃ F' r' acc vs, Stt K (qt c) (wipeE r' (tgs t)) (wipe σ (tgs t)) H2 F' ∧ Ef (wipeE r1 (tgs t)) (wipe σ (tgs t)) F1 H1 F' H2 ∧ (∀ a, Own (wipeE r' (tgs t)) (wipe σ (tgs t)) a → Own (wipeE r1 (tgs t)) (wipe σ (tgs t)) a) ∧ r'.length = r1.length ∧ k = items.length - i ∧
          H2 A = some (.lst vs) ∧ F' A = none ∧ DpAll K F' vs acc.reverse ∧
          OkL K c r σ F H (lcEnd r1 (tgs t) (lcLoop (fun d r => bindT t d (wipeE r (tgs t))) (den c.call cond) (den c.call elt) (items.drop i) r' acc)) Q, ⟨_, F1, r1, [], [], ?_, ?_, fun _ z => z, rfl, rfl, upd_same, x1.rel.same.free nA, .nil, hx⟩, fun i k H2 hW => ?_⟩
      · exact (Grow.lay x1.rel.same nA).stt ((x1.quiet).wiped (tgs t) ht.1) (x1.jup nA)
      · exact (Grow.lay x1.rel.same nA).ef
      · obtain ⟨F', r', acc, vs, x2, ef2, ow2, hl2, ek, hA, fA, dA2, ok⟩ := hW
        have sF : Same F1 F' := ef2.same (((x1.quiet).wiped (tgs t) ht.1).rel)
        by_cases hi : i < items.length
        · refine .inr ⟨Y.go i H2 F' sF x2.rel.same hi, fun H3 => ∃ F' r' acc vs, Stt K (qt c) (wipeE r' (tgs t)) (wipe σ (tgs t)) H3 F' ∧ Ef (wipeE r1 (tgs t)) (wipe σ (tgs t)) F1 H1 F' H3 ∧ (∀ a, Own (wipeE r' (tgs t)) (wipe σ (tgs t)) a → Own (wipeE r1 (tgs t)) (wipe σ (tgs t)) a) ∧ r'.length = r1.length ∧
              H3 A = some (.lst vs) ∧ F' A = none ∧ DpAll K F' vs acc.reverse ∧
              OkL K c r σ F H (lcEnd r1 (tgs t) (lcLoop (fun d r => bindT t d (wipeE r (tgs t))) (den c.call cond) (den c.call elt) (items.drop (i + 1)) r' acc)) Q,
              fun H3 ⟨F3, r3, acc3, vs3, z1, z2, z3, z4, z5, z6, z7, z8⟩ => ⟨items.length - (i + 1), by omega, F3, r3, acc3, vs3, z1, z2, z3, z4, rfl, z5, z6, z7, z8⟩, fun v H3 y => ?_⟩
          obtain ⟨F3, g1, g2, g3, d, ed, qd⟩ := Y.yld i H2 F' v H3 hi sF x2.rel.same y
          obtain ⟨x3, ef3⟩ := x2.grown g1 g2 g3
          have ed' : items.drop i = d :: items.drop (i + 1) := by
            rw [List.getElem?_eq_getElem hi] at ed
            cases ed
            exact List.drop_eq_getElem_cons hi
          rw [ed'] at ok
          simp only [lcLoop] at ok
          cases eb : bindT t d (wipeE r' (tgs t)) with
          | none => rw [eb] at ok; exact ok.stuck_of
          | some r4 =>
            rw [eb] at ok
            simp only at ok
            refine ht.2 v d _ r4 _ F3 H3 _ x3 qd eb fun σ4 x4 hk hlen ow4 => ⟨?_, ?_⟩
            · rw [wipe_same hk hlen, wipe_wipe]
            have hw4 : wipe σ4 (tgs t) = wipe σ (tgs t) := by rw [wipe_same hk hlen, wipe_wipe]
            have l4 : r4.length = r1.length := by rw [bindT_len eb, wipeE_len, hl2]
            have A3 : H3 A = some (.lst vs) := g1 _ _ hA
            have fA3 : F3 A = none := (g3 _ _ hA).trans fA
            have efA : Ef (wipeE r1 (tgs t)) (wipe σ (tgs t)) F1 H1 F3 H3 := ef2.transG ef3 ow2
            have own4 : ∀ b, Own r4 σ4 b → Own (wipeE r1 (tgs t)) (wipe σ (tgs t)) b := fun b z => ow2 b (ow4 b z)
            have nA4 : ∀ {r5 : Env}, (∀ b, Own r5 σ4 b → Own r4 σ4 b) → ¬ Own r5 σ4 A := fun h z => nOw (own4 _ (h _ z))
            -- a state with the names of the block, as the state between two turns
            have fin : ∀ {r5 : Env} {F5 H5 : Hp} {acc5 : List D} {vs5 : List V}, Stt K (qt c) r5 σ4 H5 F5 → Ef r4 σ4 F3 H3 F5 H5 → (∀ b, Own r5 σ4 b → Own r4 σ4 b) → r5.length = r1.length →
                Stt K (qt c) (wipeE r5 (tgs t)) (wipe σ (tgs t)) H5 F5 ∧ Ef (wipeE r1 (tgs t)) (wipe σ (tgs t)) F1 H1 F5 H5 ∧ (∀ a, Own (wipeE r5 (tgs t)) (wipe σ (tgs t)) a → Own (wipeE r1 (tgs t)) (wipe σ (tgs t)) a) := fun {r5 F5 H5 acc5 vs5} y1 y2 y3 y4 => by
              refine ⟨hw4 ▸ y1.wiped (tgs t) ht.1, efA.transG y2 own4, fun b z => own4 b (y3 b ?_)⟩
              rw [← hw4] at z
              obtain ⟨j, z⟩ := z
              exact ⟨j, (own_wipe z).2⟩
            refine ⟨F3, r4, x4, ?_⟩
            cases ec : den c.call cond r4 with
            | ok p =>
              obtain ⟨dc, r5⟩ := p
              show OkE K (qt c) r4 σ4 F3 H3 (den c.call cond r4) _
              rw [ec] at ok ⊢
              intro u F5 H5 x5 e5 s5 q5
              have l5 : r5.length = r1.length := by rw [x5.rel.len, ← x4.rel.len, l4]
              have sF5 : Same F3 F5 := e5.same x4.rel
              have zA := e5 A _ A3 (nA4 fun _ z => z)
              cases dc with
              | bool kk =>
                refine ⟨kk, dn_bool q5, ?_⟩
                cases kk with
                | true =>
                  simp only at ok
                  refine iteT ⟨F5, r5, x5, ?_⟩
                  cases ee : den c.call elt r5 with
                  | ok p =>
                    obtain ⟨de, r6⟩ := p
                    show OkE K (qt c) r5 σ4 F5 H5 (den c.call elt r5) _
                    rw [ee] at ok ⊢
                    simp only at ok
                    intro w F6 H6 x6 e6 s6 q6
                    cases hn : nd de with
                    | false => rw [hn] at ok; exact ok.stuck_of
                    | true =>
                      rw [hn, if_pos rfl] at ok
                      have A5 : H5 A = some (.lst vs) := zA.2.mut trivial
                      have zA6 := e6 A _ A5 (nA4 s5)
                      have A6 : H6 A = some (.lst vs) := zA6.2.mut trivial
                      have fA6 : F6 A = none := zA6.1.trans (zA.1.trans fA3)
                      have sF6 : Same F5 F6 := e6.same x5.rel
                      have dvs : DpAll K F6 (vs ++ [w]) (de :: acc).reverse := by
                        rw [List.reverse_cons]
                        exact dpa_app (dpa_same (((Ef.same x2.rel ef3).trans sF5).trans sF6) _ _ dA2) (.cons (q6.dp (nd_of hn)) .nil)
                      refine ⟨vs, A6, ?_, ?_⟩
                      · have := lcLoop_lim ok
                        rw [List.length_cons] at this
                        have hv := dpa_len dA2
                        rw [List.length_reverse] at hv
                        rw [hv]
                        exact Nat.lt_of_lt_of_le (by omega) sizeLine_big
                      · have y6 := Stt.poke (o := .lst (vs ++ [w])) x6 A6 trivial trivial fA6 (nA4 fun b z => s5 b (s6 b z)) oA
                        have ef6 : Ef r4 σ4 F3 H3 F6 H6 := e5.trans e6 s5
                        obtain ⟨y1, y2, y3⟩ := fin (acc5 := acc) (vs5 := vs) x6 ef6 (fun b z => s5 b (s6 b z)) (by rw [x6.rel.len, ← x4.rel.len, l4])
                        have y1' := Stt.poke (o := .lst (vs ++ [w])) y1 A6 trivial trivial fA6 (fun z => nOw (y3 _ z)) oA
                        refine ⟨F6, r6, de :: acc, vs ++ [w], y1', fun b o hb nb => ?_, y3, by rw [x6.rel.len, ← x4.rel.len, l4], upd_same, fA6, dvs, ok⟩
                        have nb' : b ≠ A := ne_of_none hb nA
                        rw [upd_ne nb']
                        exact y2 b o hb nb
                  | exc k => rw [ee] at ok; exact ok.stuck_of
                  | stuck => rw [ee] at ok; exact ok.stuck_of
                | false =>
                  refine iteF ?_
                  simp only at ok
                  obtain ⟨y1, y2, y3⟩ := fin (acc5 := acc) (vs5 := vs) x5 e5 s5 l5
                  exact ⟨F5, r5, acc, vs, y1, y2, y3, l5, zA.2.mut trivial, zA.1.trans fA3, dpa_same ((Ef.same x2.rel ef3).trans sF5) _ _ dA2, ok⟩
              | none => exact ok.stuck_of
              | int _ => exact ok.stuck_of
              | str _ => exact ok.stuck_of
              | list _ => exact ok.stuck_of
              | tuple _ => exact ok.stuck_of
              | dict _ => exact ok.stuck_of
            | exc k => rw [ec] at ok; exact ok.stuck_of
            | stuck => rw [ec] at ok; exact ok.stuck_of
        · refine .inl ⟨Y.stop i H2 F' sF x2.rel.same (by omega), ?_⟩
          rw [List.drop_eq_nil_of_le (by omega)] at ok
          simp only [lcLoop, lcEnd, R.ok_bind] at ok
          by_cases hlim : acc.reverse.length ≤ lim
          · rw [if_pos hlim] at ok
            obtain ⟨y1, y2, y3⟩ := Stt.back x1 x2.loud ef2 hl2 ow2
            refine ok A vs F' H2 y1 (e1.trans y2 s1) (fun a z => s1 a (y3 a z)) hA fA (fun z => ?_) dA2 oA dA
            exact not_own x1.rel nA (y3 A z)
          · rw [if_neg hlim] at ok; exact ok.stuck_of
    | none => exact hx.elim
    | bool _ => exact hx.elim
    | int _ => exact hx.elim
    | str _ => exact hx.elim
    | tuple _ => exact hx.elim
    | dict _ => exact hx.elim
  | exc k => rw [es] at hx; exact hx
  | stuck => rw [es] at hx; exact hx
theorem lc_list_of {is : List Nat} {t : Tg} {src cnd el : E} {r r' : Env} {d : D} (h : den c.call (.lc is t src cnd el) r = .ok (d, r')) : ∃ ys, d = .list ys := by
  rw [den_lc] at h
  cases es : den c.call src r with
  | ok p =>
    obtain ⟨ds, r1⟩ := p
    rw [es] at h
    simp only [R.ok_bind] at h
    cases ds with
    | list l =>
      simp only [lcEnd] at h
      cases el2 : lcLoop (fun d r => bindT t d (wipeE r is)) (den c.call cnd) (den c.call el) l r1 [] with
      | ok p =>
        rw [el2] at h
        simp only [R.ok_bind] at h
        by_cases hl : p.1.length ≤ lim
        · rw [if_pos hl] at h; cases h; exact ⟨_, rfl⟩
        · rw [if_neg hl] at h; cases h
      | exc k => rw [el2] at h; cases h
      | stuck => rw [el2] at h; cases h
    | none => cases h
    | bool _ => cases h
    | int _ => cases h
    | str _ => cases h
    | tuple _ => cases h
    | dict _ => cases h
  | exc k => rw [es] at h; cases h
  | stuck => rw [es] at h; cases h
/-- [elt for tg in iter if ..] -/
theorem sv_lc {elt iter : Expr} {ifs : List Expr} {scope : Scope} {own : List (Str × Nat)} {t : Tg} {g : TG} {src cnd el : E} (hc : X.calm = true) (hN : X.N.Nodup) (hi : PI X tg iter (TIv X.K c src)) (ok : BlkOk X.N X.env.scope scope own) (ht : TGo X.K (qt c) t g) (ho : own.map (·.2) = tgs t)
    (hg : ∀ (s : Shared) (H : Hp) (C : Addr) (cl : List (Str × Addr)) (fp : List Addr), PG (X.blk s H scope (compEnvC scope cl C X.env) fp) tg g)
    (hif : ∀ (s : Shared) (H : Hp) (C : Addr) (cl : List (Str × Addr)) (fp : List Addr), PTs (X.blk s H scope (compEnvC scope cl C X.env) fp) ifs (TTv X.K (qt c) cnd))
    (he : ∀ (s : Shared) (H : Hp) (C : Addr) (cl : List (Str × Addr)) (fp : List Addr), PE (X.blk s H scope (compEnvC scope cl C X.env) fp) elt (TEv X.K (qt c) el)) (hs : ∀ x, foldedSetIterable iter X.env x = pure x := by intro _; rfl) :
    PE X (.ListComp elt [⟨tg, iter, ifs, 0⟩] scope pos) (TEv X.K c (.lc (tgs t) t src cnd el)) := by
  refine PE.mono (pe_lc hc hN hi ok hg hif he hs) fun σ H Q ⟨F, r, x, h⟩ => ?_
  rw [ho]
  refine tev_lc ht x ?_
  cases ed : den c.call (.lc (tgs t) t src cnd el) r with
  | ok p =>
    obtain ⟨d, r'⟩ := p
    rw [ed] at h
    obtain ⟨ys, rfl⟩ := lc_list_of ed
    · intro A vs F' H' x' ef ow hA fA nO dA oA dD
      refine h (.ref A) (upd F' A (.lst vs)) H' ?_ ?_ ow (Dp.lst upd_same (dpa_same (same_upd fA) _ _ dA))
      · refine ⟨⟨x'.rel.len, fun b o hb => ?_, fun i => ?_, x'.rel.inj⟩, x'.tie, fun b o hb n => ?_, x'.own, x'.pin⟩
        · by_cases hbA : b = A
          · subst hbA; rw [upd_same] at hb; cases hb; exact hA
          · rw [upd_ne hbA] at hb; exact x'.rel.same b o hb
        · refine slot_same (same_upd fA) (fun b o1 o2 hf _ => ⟨?_, rfl⟩) Aside.refl (x'.rel.ok i)
          rw [upd_ne (fun (z : b = A) => nO ⟨i, o1, z ▸ o2⟩)]; exact hf
        · have k := x'.kp b o hb n
          refine ⟨?_, k.2⟩
          rw [upd_ne (fun z => ?_)]
          · exact k.1
          · rcases oA with w | w
            · exact n (by rw [z]; exact w)
            · rw [← z, hb] at w; cases w
      · intro b o hb nb
        have k := ef b o hb nb
        refine ⟨?_, k.2⟩
        rw [upd_ne (fun z => dD b o hb nb z.symm)]; exact k.1
  | exc k => rw [ed] at h; exact h
  | stuck => rw [ed] at h; exact h
/-- y = [elt for ..], the store within the block -/
theorem ss_lcM {i : Nat} {y : Str} {py spos : Pos} {elt iter : Expr} {ifs : List Expr} {scope : Scope} {own : List (Str × Nat)} {t : Tg} {g : TG} {src cnd el : E} (hc : X.calm = true) (hN : X.N.Nodup) (hy : X.N[i]? = some y) (hyl : X.env.scope.names.lookup y = some .local)
    (hsw : swapsWith (.ListComp elt [⟨tg, iter, ifs, 0⟩] scope pos) (some (.Name y py)) spos.line X.env = pure true) (hi : PI X tg iter (TIv X.K c src)) (ok : BlkOk X.N X.env.scope scope own) (ht : TGo X.K (qt c) t g) (ho : own.map (·.2) = tgs t)
    (hg : ∀ (s : Shared) (H : Hp) (C : Addr) (cl : List (Str × Addr)) (fp : List Addr), PG (X.blk s H scope (compEnvC scope cl C X.env) fp) tg g)
    (hif : ∀ (s : Shared) (H : Hp) (C : Addr) (cl : List (Str × Addr)) (fp : List Addr), PTs (X.blk s H scope (compEnvC scope cl C X.env) fp) ifs (TTv X.K (qt c) cnd))
    (he : ∀ (s : Shared) (H : Hp) (C : Addr) (cl : List (Str × Addr)) (fp : List Addr), PE (X.blk s H scope (compEnvC scope cl C X.env) fp) elt (TEv X.K (qt c) el)) (hs : ∀ x, foldedSetIterable iter X.env x = pure x := by intro _; rfl) (hz : ZOk c [i] := by exact ⟨_, by assumption, by decide⟩) :
    PS X (.Assign [.Name y py] (.ListComp elt [⟨tg, iter, ifs, 0⟩] scope pos) spos) (TSv X.K c (.asgM i 1 (.lc (tgs t) t src cnd el))) := by
  refine PS.mono (ps_setLc hc hN hy hyl hsw hi ok hg hif he hs) fun D σ H ⟨F, r, x, h⟩ => ?_
  show tLc _ _ _ _ _ σ H _
  rw [ho]
  refine tev_lc ht x ?_
  rw [denS_asgM] at h
  cases ed : den c.call (.lc (tgs t) t src cnd el) r with
  | ok p =>
    obtain ⟨d, r'⟩ := p
    rw [ed] at h
    obtain ⟨ys, rfl⟩ := lc_list_of ed
    simp only [slotM] at h
    intro A vs F' H' x' ef ow hA fA nO dA oA dD
    have fr : FrOk X.K r' σ F' H' 1 (.ref A) (.list ys) := ⟨A, rfl, fA, nO, vs, ys, rfl, hA, dA⟩
    exact h _ H' F' (x'.putF hz fr (fun a k _ ev => by cases ev; exact oA) rfl) (ef.same x.rel)
  | exc k => rw [ed] at h; exact h
  | stuck => rw [ed] at h; exact h
/-- .. shared -/
theorem Stt.frz1 {K : PySem.W.Frag} {r : Env} {σ : St} {H F : Hp} (x : Stt K c r σ H F) {A : Addr} {vs : List V} {l : List D} (hA : H A = some (.lst vs)) (fA : F A = none) (nO : ¬ Own r σ A) (oA : c.W.O0 A ∨ c.W.H0 A = none) (dA : DpAll K F vs l) :
    Stt K c r σ H (upd F A (.lst vs)) ∧ Same F (upd F A (.lst vs)) ∧ Dn K (upd F A (.lst vs)) (.ref A) (.list l) := by
  refine ⟨⟨⟨x.rel.len, fun b o hb => ?_, fun i => ?_, x.rel.inj⟩, x.tie, fun b o hb n => ?_, x.own, x.pin⟩, same_upd fA, Dp.lst upd_same (dpa_same (same_upd fA) _ _ dA)⟩
  · by_cases hbA : b = A
    · subst hbA; rw [upd_same] at hb; cases hb; exact hA
    · rw [upd_ne hbA] at hb; exact x.rel.same b o hb
  · refine slot_same (same_upd fA) (fun b o1 o2 hf _ => ⟨?_, rfl⟩) Aside.refl (x.rel.ok i)
    rw [upd_ne (fun (z : b = A) => nO ⟨i, o1, z ▸ o2⟩)]; exact hf
  · have k := x.kp b o hb n
    refine ⟨?_, k.2⟩
    rw [upd_ne (fun z => ?_)]
    · exact k.1
    · rcases oA with w | w
      · exact n (by rw [z]; exact w)
      · rw [← z, hb] at w; cases w
theorem ss_lcS {i : Nat} {y : Str} {py spos : Pos} {elt iter : Expr} {ifs : List Expr} {scope : Scope} {own : List (Str × Nat)} {t : Tg} {g : TG} {src cnd el : E} (hc : X.calm = true) (hN : X.N.Nodup) (hy : X.N[i]? = some y) (hyl : X.env.scope.names.lookup y = some .local)
    (hsw : swapsWith (.ListComp elt [⟨tg, iter, ifs, 0⟩] scope pos) (some (.Name y py)) spos.line X.env = pure true) (hi : PI X tg iter (TIv X.K c src)) (ok : BlkOk X.N X.env.scope scope own) (ht : TGo X.K (qt c) t g) (ho : own.map (·.2) = tgs t)
    (hg : ∀ (s : Shared) (H : Hp) (C : Addr) (cl : List (Str × Addr)) (fp : List Addr), PG (X.blk s H scope (compEnvC scope cl C X.env) fp) tg g)
    (hif : ∀ (s : Shared) (H : Hp) (C : Addr) (cl : List (Str × Addr)) (fp : List Addr), PTs (X.blk s H scope (compEnvC scope cl C X.env) fp) ifs (TTv X.K (qt c) cnd))
    (he : ∀ (s : Shared) (H : Hp) (C : Addr) (cl : List (Str × Addr)) (fp : List Addr), PE (X.blk s H scope (compEnvC scope cl C X.env) fp) elt (TEv X.K (qt c) el)) (hs : ∀ x, foldedSetIterable iter X.env x = pure x := by intro _; rfl) (hz : ZOk c [i] := by exact ⟨_, by assumption, by decide⟩) :
    PS X (.Assign [.Name y py] (.ListComp elt [⟨tg, iter, ifs, 0⟩] scope pos) spos) (TSv X.K c (.asg (.name i) (.lc (tgs t) t src cnd el))) := by
  refine PS.mono (ps_setLc hc hN hy hyl hsw hi ok hg hif he hs) fun D σ H ⟨F, r, x, h⟩ => ?_
  show tLc _ _ _ _ _ σ H _
  rw [ho]
  refine tev_lc ht x ?_
  rw [denS_asg] at h
  cases ed : den c.call (.lc (tgs t) t src cnd el) r with
  | ok p =>
    obtain ⟨d, r'⟩ := p
    rw [ed] at h
    obtain ⟨ys, rfl⟩ := lc_list_of ed
    simp only [bindT] at h
    intro A vs F' H' x' ef ow hA fA nO dA oA dD
    obtain ⟨y1, y2, y3⟩ := x'.frz1 hA fA nO oA dA
    exact h _ H' _ (y1.put_sh hz y3) ((ef.same x.rel).trans y2)
  | exc k => rw [ed] at h; exact h
  | stuck => rw [ed] at h; exact h
end
end Bm
end
section
set_option Elab.async false
set_option linter.all false
set_option maxRecDepth 100000
set_option maxHeartbeats 1000000
namespace Bm
open PySem PySem.Spec L2
/-- what an operation that gives a scalar, or lays a new object, has to show -/
abbrev Wish (K : PySem.W.Frag) (F H : Hp) (d : D) (Q : VK) : Prop := ∀ (v : V) (F' H' : Hp), Same H H' → Same F' H' → (∀ b u, H b = some u → F' b = F b) → Dn K F' v d → Q v H'
theorem Wish.here {K : PySem.W.Frag} {F H : Hp} {d : D} {Q : VK} (w : Wish K F H d Q) (s : Same F H) {v : V} (h : Dn K F v d) : Q v H := w v F H (Same.refl _) s (fun _ _ _ => rfl) h
theorem Wish.lay {K : PySem.W.Frag} {F H : Hp} {d : D} {Q : VK} (w : Wish K F H d Q) (s : Same F H) {p : Addr} {o : HO} (np : H p = none) (h : Dn K (upd F p o) (.ref p) d) : Q (.ref p) (upd H p o) :=
  w _ (upd F p o) (upd H p o) (same_upd np) (Grow.alloc s np).same (fun b u hb => upd_ne (ne_of_none hb np)) h
theorem Wish.lst {K : PySem.W.Frag} {F H : Hp} {l : List D} {Q : VK} (w : Wish K F H (.list l) Q) (s : Same F H) {p : Addr} {vs : List V} (np : H p = none) (h : DpAll K F vs l) : Q (.ref p) (upd H p (.lst vs)) :=
  w.lay s np (Dp.lst upd_same (dpa_same (same_upd (s.free np)) _ _ h))
theorem Wish.tup {K : PySem.W.Frag} {F H : Hp} {l : List D} {Q : VK} (w : Wish K F H (.tuple l) Q) (s : Same F H) {p : Addr} {vs : List V} (np : H p = none) (h : DpAll K F vs l) : Q (.ref p) (upd H p (.tup vs)) :=
  w.lay s np (Dp.tup upd_same (dpa_same (same_upd (s.free np)) _ _ h))
theorem guardO_some {α : Type} {b : Bool} {x : Option α} {a : α} (h : guardO b x = some a) : b = true ∧ x = some a := by
  unfold guardO at h
  cases b with
  | true => exact ⟨rfl, h⟩
  | false => cases h
theorem dn_str {K : PySem.W.Frag} {F : Hp} {v : V} {z : Str} (h : Dn K F v (.str z)) : v = .str z := by
  have h' : Dp K F v (.str z) := h
  cases h'; rfl
theorem dn_list {K : PySem.W.Frag} {F : Hp} {v : V} {l : List D} (h : Dn K F v (.list l)) : ∃ a vs, v = .ref a ∧ F a = some (.lst vs) ∧ DpAll K F vs l := by
  have h' : Dp K F v (.list l) := h
  cases h' with | lst h1 h2 => exact ⟨_, _, rfl, h1, h2⟩
theorem dn_tuple {K : PySem.W.Frag} {F : Hp} {v : V} {l : List D} (h : Dn K F v (.tuple l)) : ∃ a vs, v = .ref a ∧ F a = some (.tup vs) ∧ DpAll K F vs l := by
  have h' : Dp K F v (.tuple l) := h
  cases h' with | tup h1 h2 => exact ⟨_, _, rfl, h1, h2⟩
theorem len_toL (s : Str) : (toL s).length = s.length := by simp [toL, Str.length]
theorem st_app (a b : Str) : st (toL a ++ toL b) = a ++ b := by
  cases a; cases b
  show Str.mk _ = Str.append _ _
  unfold Str.append
  simp [toL]
theorem lim_line {n : Nat} (h : n ≤ lim) : n ≤ sizeLine := Nat.le_trans h sizeLine_big
/-- two operands: the shape of OpS -/
theorem ops2 {K : PySem.W.Frag} {o : Op} {rr : R2} (h : ∀ (d1 d2 d : D) (x y : V) (F H : Hp) (Q : VK), Same F H → Dn K F x d1 → Dn K F y d2 → opD o [d1, d2] = some d → Wish K F H d Q → rr x y H Q)
    (n : ∀ l, l.length ≠ 2 → opD o l = none) : OpS K o fun vs H Q => ∃ x y, vs = [x, y] ∧ rr x y H Q := by
  intro ds d vs F H Q s q e w
  match ds, q with
  | [d1, d2], .cons q1 (.cons q2 .nil) => exact ⟨_, _, rfl, h d1 d2 d _ _ F H Q s q1 q2 e w⟩
  | [], _ => rw [n [] (by simp)] at e; cases e
  | [_], _ => rw [n _ (by simp)] at e; cases e
  | _ :: _ :: _ :: _, _ => rw [n _ (by simp)] at e; cases e
section
variable {X : Cx} {c : Cfg} {e e1 e2 e3 : Expr} {es : List Expr} {a b m : E} {pos : Pos}
def rAddA (K : PySem.W.Frag) : R2 := fun x y H Q => (rI0 fun i j => .int (i + j)) x y H Q ∨ (∃ i j, x = .str i ∧ y = .str j ∧ i.length + j.length ≤ sizeLine ∧ Q (.str (i ++ j)) H) ∨ rCat x y H Q ∨ rCatA K x y H Q
theorem op_addA : OpR X (binaryOp .Add) (rAddA X.K) := op_add.or (op_add_str.or (op_cat.or op_catA))
theorem os_add {K : PySem.W.Frag} : OpS K .add fun vs H Q => ∃ x y, vs = [x, y] ∧ rAddA K x y H Q := by
  refine ops2 (fun d1 d2 d x y F H Q s q1 q2 e w => ?_) (fun l hl => ?_)
  · cases d1 with
    | int i =>
      cases d2 with
      | int j =>
        simp only [opD, dop_add] at e; cases e
        have h1 := dn_int q1; have h2 := dn_int q2
        subst h1; subst h2
        exact .inl ⟨i, j, rfl, rfl, w.here s (Dp.int _)⟩
      | _ => cases e
    | str i =>
      cases d2 with
      | str j =>
        simp only [opD, dop_add] at e
        obtain ⟨hl, e⟩ := guardO_some e
        cases e
        have h1 := dn_str q1; have h2 := dn_str q2
        subst h1; subst h2
        rw [decide_eq_true_eq, len_toL, len_toL] at hl
        refine .inr (.inl ⟨i, j, rfl, rfl, lim_line hl, w.here s ?_⟩)
        rw [show dS (toL i ++ toL j) = .str (i ++ j) by unfold dS; rw [st_app]]
        exact Dp.str _
      | _ => cases e
    | list i =>
      cases d2 with
      | list j =>
        simp only [opD, dop_add] at e
        obtain ⟨hl, e⟩ := guardO_some e
        cases e
        obtain ⟨a1, vs, rfl, h1, h2⟩ := dn_list q1
        obtain ⟨a2, us, rfl, h3, h4⟩ := dn_list q2
        rw [decide_eq_true_eq, ← dpa_len h2, ← dpa_len h4] at hl
        exact .inr (.inr (.inl ⟨a1, a2, vs, us, rfl, rfl, s _ _ h1, s _ _ h3, lim_line hl, fun p np => w.lst s np (dpa_app h2 h4)⟩))
      | _ => cases e
    | tuple i =>
      cases d2 with
      | tuple j =>
        simp only [opD, dop_add] at e
        obtain ⟨hl, e⟩ := guardO_some e
        cases e
        obtain ⟨a1, vs, rfl, h1, h2⟩ := dn_tuple q1
        obtain ⟨a2, us, rfl, h3, h4⟩ := dn_tuple q2
        rw [decide_eq_true_eq, ← dpa_len h2, ← dpa_len h4] at hl
        refine .inr (.inr (.inr ⟨a1, a2, vs, us, rfl, rfl, .inl (.inl (s _ _ h1)), .inl (.inl (s _ _ h3)), lim_line hl, fun z => ?_, fun _ z => ?_, fun _ _ p np => w.tup s np (dpa_app h2 h4)⟩))
        · subst z; cases h2
          exact w.here s q2
        · subst z; cases h4
          rw [List.append_nil] at w
          exact w.here s q1
      | _ => cases e
    | _ => cases e
  · match l, hl with
    | [], _ => rfl
    | [x], _ => cases x <;> rfl
    | x :: y :: z :: r, _ => cases x <;> cases y <;> rfl
    | [_, _], h => exact absurd rfl h
theorem sv_add (ha : PE X e1 (TEv X.K c a)) (hb : PE X e2 (TEv X.K c b)) : PE X (.BinOp e1 .Add e2 pos) (TEv X.K c (.op .add (.cons a (.cons b .nil)))) := sv_bin os_add op_addA ha hb
/-- ints alone -/
theorem os_int2 {K : PySem.W.Frag} {o : Op} {C : Int → Int → Prop} {f : Int → Int → Int} (h : ∀ l d, opD o l = some d → ∃ i j, l = [.int i, .int j] ∧ d = .int (f i j) ∧ C i j) : OpS K o fun vs H Q => ∃ x y, vs = [x, y] ∧ (rI C fun i j => .int (f i j)) x y H Q := by
  intro ds d vs F H Q s q e w
  obtain ⟨i, j, rfl, rfl, hC⟩ := h ds d e
  match q with
  | .cons q1 (.cons q2 .nil) =>
    have h1 := dn_int q1; have h2 := dn_int q2
    subst h1; subst h2
    exact ⟨_, _, rfl, i, j, rfl, rfl, hC, Wish.here w s (Dp.int _)⟩
theorem os_cmp2 {K : PySem.W.Frag} {o : Op} {f : Int → Int → Bool} (h : ∀ l d, opD o l = some d → ∃ i j, l = [.int i, .int j] ∧ d = .bool (f i j)) : OpS K o fun vs H Q => ∃ x y, vs = [x, y] ∧ (rI0 fun i j => .bl (f i j)) x y H Q := by
  intro ds d vs F H Q s q e w
  obtain ⟨i, j, rfl, rfl⟩ := h ds d e
  match q with
  | .cons q1 (.cons q2 .nil) =>
    have h1 := dn_int q1; have h2 := dn_int q2
    subst h1; subst h2
    exact ⟨_, _, rfl, i, j, rfl, rfl, Wish.here w s (Dp.bl _)⟩
theorem op_subT : OpR X (binaryOp .Sub) (rI (fun _ _ => True) fun i j => .int (i - j)) := opI fun _ _ _ _ _ _ _ _ q => PyProof.Rows.sub_int q
theorem sub_of {l : List D} {d : D} (h : opD .sub l = some d) : ∃ i j, l = [.int i, .int j] ∧ d = .int (i - j) ∧ True := by
  simp only [opD] at h
  unfold dop_sub at h
  split at h
  · cases h; exact ⟨_, _, rfl, rfl, trivial⟩
  · cases h
theorem sv_sub (ha : PE X e1 (TEv X.K c a)) (hb : PE X e2 (TEv X.K c b)) : PE X (.BinOp e1 .Sub e2 pos) (TEv X.K c (.op .sub (.cons a (.cons b .nil)))) := sv_bin (os_int2 fun _ _ h => sub_of h) op_subT ha hb
theorem mod_of {l : List D} {d : D} (h : opD .mod l = some d) : ∃ i j, l = [.int i, .int j] ∧ d = .int (i % j) ∧ 0 < j := by
  simp only [opD] at h
  unfold dop_mod at h
  split at h
  · obtain ⟨h1, h2⟩ := guardO_some h
    cases h2
    exact ⟨_, _, rfl, rfl, of_decide_eq_true h1⟩
  · cases h
theorem sv_mod (ha : PE X e1 (TEv X.K c a)) (hb : PE X e2 (TEv X.K c b)) : PE X (.BinOp e1 .Mod e2 pos) (TEv X.K c (.op .mod (.cons a (.cons b .nil)))) := sv_bin (os_int2 (C := fun _ j => 0 < j) fun _ _ h => mod_of h) op_mod ha hb
theorem fdiv_of {l : List D} {d : D} (h : opD .fdiv l = some d) : ∃ i j, l = [.int i, .int j] ∧ d = .int (i / j) ∧ CDivW i j := by
  simp only [opD] at h
  unfold dop_fdiv at h
  split at h
  · obtain ⟨h1, h2⟩ := guardO_some h
    cases h2
    have h1 := of_decide_eq_true h1
    refine ⟨_, _, rfl, rfl, h1.1, ?_⟩
    exact Nat.lt_trans (PySem.Flt.log2_lt_of (by decide) h1.2) (by decide)
  · cases h
theorem sv_fdiv (ha : PE X e1 (TEv X.K c a)) (hb : PE X e2 (TEv X.K c b)) : PE X (.BinOp e1 .FloorDiv e2 pos) (TEv X.K c (.op .fdiv (.cons a (.cons b .nil)))) := sv_bin (os_int2 (C := CDivW) fun _ _ h => fdiv_of h) op_fdivW ha hb
theorem pow_of {l : List D} {d : D} (h : opD .pow l = some d) : ∃ i j, l = [.int i, .int j] ∧ d = .int (i ^ j.toNat) ∧ CPow i j := by
  simp only [opD] at h
  unfold dop_pow at h
  split at h
  · obtain ⟨h1, h2⟩ := guardO_some h
    cases h2
    have h1 := of_decide_eq_true h1
    exact ⟨_, _, rfl, rfl, h1.1, by omega, by omega⟩
  · cases h
theorem sv_pow (ha : PE X e1 (TEv X.K c a)) (hb : PE X e2 (TEv X.K c b)) : PE X (.BinOp e1 .Pow e2 pos) (TEv X.K c (.op .pow (.cons a (.cons b .nil)))) := sv_bin (os_int2 (C := CPow) fun _ _ h => pow_of h) op_pow ha hb
theorem le_of {l : List D} {d : D} (h : opD .le l = some d) : ∃ i j, l = [.int i, .int j] ∧ d = .bool (decide (i ≤ j)) := by
  simp only [opD] at h; unfold dop_le at h
  split at h
  · cases h; exact ⟨_, _, rfl, rfl⟩
  · cases h
theorem ge_of {l : List D} {d : D} (h : opD .ge l = some d) : ∃ i j, l = [.int i, .int j] ∧ d = .bool (decide (j ≤ i)) := by
  simp only [opD] at h; unfold dop_ge at h
  split at h
  · cases h; exact ⟨_, _, rfl, rfl⟩
  · cases h
theorem os_le {K : PySem.W.Frag} : OpS K .le fun vs H Q => ∃ x y, vs = [x, y] ∧ (rI0 fun i j => .bl (decide (i ≤ j))) x y H Q := os_cmp2 fun _ _ h => le_of h
theorem os_ge {K : PySem.W.Frag} : OpS K .ge fun vs H Q => ∃ x y, vs = [x, y] ∧ (rI0 fun i j => .bl (decide (j ≤ i))) x y H Q := os_cmp2 fun _ _ h => ge_of h
def rLtA : R2 := fun x y H Q => (rI0 fun i j => .bl (decide (i < j))) x y H Q ∨ ∃ i j, x = .str i ∧ y = .str j ∧ Q (.bl (decide (i.cps.toList < j.cps.toList))) H
theorem op_ltA : OpR X (compareOp .Lt) rLtA := op_lt.or op_lt_str
theorem os_lt {K : PySem.W.Frag} : OpS K .lt fun vs H Q => ∃ x y, vs = [x, y] ∧ rLtA x y H Q := by
  intro ds d vs F H Q s q e w
  simp only [opD] at e; unfold dop_lt at e
  split at e
  · cases e
    match q with
    | .cons q1 (.cons q2 .nil) =>
      have h1 := dn_int q1; have h2 := dn_int q2
      subst h1; subst h2
      exact ⟨_, _, rfl, .inl ⟨_, _, rfl, rfl, Wish.here w s (Dp.bl _)⟩⟩
  · cases e
    match q with
    | .cons q1 (.cons q2 .nil) =>
      have h1 := dn_str q1; have h2 := dn_str q2
      subst h1; subst h2
      exact ⟨_, _, rfl, .inr ⟨_, _, rfl, rfl, Wish.here w s (Dp.bl _)⟩⟩
  · cases e
/-- == and != of data -/
theorem plain_nd {d : D} (h : d.plain = true) : nd d = true := by
  cases d <;> first | rfl | cases h
end
end Bm
end
section
set_option Elab.async false
set_option linter.all false
set_option maxRecDepth 100000
set_option maxHeartbeats 1000000
namespace Bm
open PySem PySem.Spec L2
section
variable {X : Cx} {c : Cfg} {e e1 e2 e3 : Expr} {es : List Expr} {a b m : E} {pos : Pos}
def rD2 (K : PySem.W.Frag) (G : D → D → D → Prop) (f : D → D → Bool) : R2 := fun x y H Q => ∃ F d e, Same F H ∧ Dp K F x d ∧ Dp K F y e ∧ G d e d ∧ Q (.bl (f d e)) H
def gEq : D → D → D → Prop := fun d e _ => d.plain = true ∧ e.plain = true ∧ d.depth ≤ 60
theorem op_eqP' (hu : X.A.units + 64 < cLine) : OpR X (compareOp .Eq) (rD2 X.K gEq fun d e => PyData.eqv d e) := by
  intro pins s σ H x y v u Q I rx ry h
  obtain ⟨F, d, e, sm, hd, he, ⟨pd, pe, dd⟩, q⟩ := h
  obtain ⟨as, r1⟩ := L2.Dp.reads I d x v (Dp.l2 sm _ _ hd) rx
  obtain ⟨bs, r2⟩ := L2.Dp.reads I e y u (Dp.l2 sm _ _ he) ry
  exact PySem.SeqAt.eq_plain r1 r2 pd pe (by have := Nat.min_le_left d.depth e.depth; omega) ⟨.bl _, H, I, rfl, q⟩
theorem op_neP' (hu : X.A.units + 64 < cLine) : OpR X (compareOp .NotEq) (rD2 X.K gEq fun d e => !PyData.eqv d e) := by
  intro pins s σ H x y v u Q I rx ry h
  obtain ⟨F, d, e, sm, hd, he, ⟨pd, pe, dd⟩, q⟩ := h
  obtain ⟨as, r1⟩ := L2.Dp.reads I d x v (Dp.l2 sm _ _ hd) rx
  obtain ⟨bs, r2⟩ := L2.Dp.reads I e y u (Dp.l2 sm _ _ he) ry
  exact PySem.SeqAt.ne_plain r1 r2 pd pe (by have := Nat.min_le_left d.depth e.depth; omega) ⟨.bl _, H, I, rfl, q⟩
theorem os_eq {K : PySem.W.Frag} : OpS K .eq fun vs H Q => ∃ x y, vs = [x, y] ∧ rD2 K gEq (fun d e => PyData.eqv d e) x y H Q := by
  intro ds d vs F H Q s q e w
  simp only [opD] at e; unfold dop_eq at e
  split at e
  · obtain ⟨h1, h2⟩ := guardO_some e
    cases h2
    simp only [Bool.and_eq_true, decide_eq_true_eq] at h1
    match q with
    | .cons q1 (.cons q2 .nil) => exact ⟨_, _, rfl, F, _, _, s, q1.dp (nd_of (plain_nd h1.1.1)), q2.dp (nd_of (plain_nd h1.1.2)), ⟨h1.1.1, h1.1.2, h1.2⟩, Wish.here w s (Dp.bl _)⟩
  · cases e
theorem os_ne {K : PySem.W.Frag} : OpS K .ne fun vs H Q => ∃ x y, vs = [x, y] ∧ rD2 K gEq (fun d e => !PyData.eqv d e) x y H Q := by
  intro ds d vs F H Q s q e w
  simp only [opD] at e; unfold dop_ne at e
  split at e
  · obtain ⟨h1, h2⟩ := guardO_some e
    cases h2
    simp only [Bool.and_eq_true, decide_eq_true_eq] at h1
    match q with
    | .cons q1 (.cons q2 .nil) => exact ⟨_, _, rfl, F, _, _, s, q1.dp (nd_of (plain_nd h1.1.1)), q2.dp (nd_of (plain_nd h1.1.2)), ⟨h1.1.1, h1.1.2, h1.2⟩, Wish.here w s (Dp.bl _)⟩
  · cases e
theorem sv_eq (hu : X.A.units + 64 < cLine) (ha : PE X e1 (TEv X.K c a)) (hb : PE X e2 (TEv X.K c b)) : PE X (.Compare e1 [.Eq] [e2] pos) (TEv X.K c (.op .eq (.cons a (.cons b .nil)))) := sv_cmp os_eq (op_eqP' hu) ha hb (nomark _)
theorem sv_ne (hu : X.A.units + 64 < cLine) (ha : PE X e1 (TEv X.K c a)) (hb : PE X e2 (TEv X.K c b)) : PE X (.Compare e1 [.NotEq] [e2] pos) (TEv X.K c (.op .ne (.cons a (.cons b .nil)))) := sv_cmp os_ne (op_neP' hu) ha hb (nomark _)
theorem sw_eq (hu : X.A.units + 64 < cLine) (ha : PE X e1 (TEv X.K c a)) (hb : PE X e2 (TEv X.K c b)) : PT X (.Compare e1 [.Eq] [e2] pos) (TTv X.K c (.op .eq (.cons a (.cons b .nil)))) := sw_cmp os_eq (op_eqP' hu) ha hb (nomark _)
theorem sw_ne (hu : X.A.units + 64 < cLine) (ha : PE X e1 (TEv X.K c a)) (hb : PE X e2 (TEv X.K c b)) : PT X (.Compare e1 [.NotEq] [e2] pos) (TTv X.K c (.op .ne (.cons a (.cons b .nil)))) := sw_cmp os_ne (op_neP' hu) ha hb (nomark _)
theorem sw_lt (ha : PE X e1 (TEv X.K c a)) (hb : PE X e2 (TEv X.K c b)) : PT X (.Compare e1 [.Lt] [e2] pos) (TTv X.K c (.op .lt (.cons a (.cons b .nil)))) := sw_cmp os_lt op_ltA ha hb (nomark _)
theorem sw_ge (ha : PE X e1 (TEv X.K c a)) (hb : PE X e2 (TEv X.K c b)) : PT X (.Compare e1 [.GtE] [e2] pos) (TTv X.K c (.op .ge (.cons a (.cons b .nil)))) := sw_cmp os_ge op_ge ha hb (nomark _)
/-- a <= b <= c -/
theorem sv_lele {d : E} (h1 : PE X e1 (TEv X.K c a)) (h2 : PE X e2 (TEv X.K c b)) (h3 : PE X e3 (TEv X.K c d)) : PE X (.Compare e1 [.LtE, .LtE] [e2, e3] pos) (TEv X.K c (.chain .le .le a b d)) :=
  sv_chain os_le os_le op_le op_le h1 h2 h3 (by unfold lastMarks; unfold lastMarks; exact nomark _)
/-- a is None -/
theorem none_dec {K : PySem.W.Frag} {F : Hp} {v : V} {d : D} (q : Dn K F v d) : decide (v = .non) = !notNone d := by
  cases d with
  | none => have q' : Dp K F v .none := q; cases q'; rfl
  | bool _ => have q' : Dp K F v (.bool _) := q; cases q'; rfl
  | int _ => have q' : Dp K F v (.int _) := q; cases q'; rfl
  | str _ => have q' : Dp K F v (.str _) := q; cases q'; rfl
  | list _ => have q' : Dp K F v (.list _) := q; cases q'; rfl
  | tuple _ => have q' : Dp K F v (.tuple _) := q; cases q'; rfl
  | dict _ => obtain ⟨a, kv, e, _⟩ := q; subst e; rfl
theorem tev_un {K : PySem.W.Frag} {o : Op} {σ : St} {H : Hp} {Q : VK} {G : V → Hp → Prop} (h : TEv K c (.op o (.cons a .nil)) σ H Q) (g : ∀ d d' v F1 H1, Same F1 H1 → Dn K F1 v d → opD o [d] = some d' → Wish K F1 H1 d' Q → G v H1) : TEv K c a σ H G := by
  obtain ⟨F, r, x, h⟩ := h
  simp only [den] at h
  refine ⟨F, r, x, ?_⟩
  cases ea : den c.call a r with
  | ok p =>
    obtain ⟨d, r1⟩ := p
    rw [ea] at h
    simp only [R.ok_bind] at h
    intro v F1 H1 x1 e1 s1 q1
    cases eo : opD o [d] with
    | none => rw [eo] at h; exact h.elim
    | some d' =>
      rw [eo] at h
      refine g d d' v F1 H1 x1.rel.same q1 eo fun v' F' H' h1 h2 h3 q' => ?_
      obtain ⟨x', ef⟩ := x1.grown h1 h2 h3
      exact h v' F' H' x' (e1.trans ef s1) s1 q'
  | exc k => rw [ea] at h; exact h
  | stuck => rw [ea] at h; exact h.elim
theorem notN_go {K : PySem.W.Frag} {σ : St} {H : Hp} {Q : VK} (h : TEv K c (.op .notN (.cons a .nil)) σ H Q) : tNotN (TEv K c a) σ H Q := tev_un h fun d d' v F1 H1 s q e w => by
  simp only [opD, dop_notN] at e
  cases e
  rw [none_dec q]
  rw [Bool.not_not]
  exact w.here s (Dp.bl _)
theorem sw_notN {j} {pn : Pos} (ha : PE X e1 (TEv X.K c a)) : PT X (.Compare e1 [.IsNot] [.Constant .none j pn] pos) (TTv X.K c (.op .notN (.cons a .nil))) := PT.mono (pt_cmp (pc_notN ha)) fun _ _ _ h => notN_go h
theorem sign1_eq {s : Str} {k : Nat} (h : sign1 s = some k) : s = ⟨#[k]⟩ := by
  unfold sign1 at h
  split at h
  · rename_i c e
    cases h
    rw [← st_toL s, e]
    rfl
  · cases h
def rIn (K : PySem.W.Frag) (neg : Bool) : R2 := fun x y H Q => (∃ i z, x = .str ⟨#[i]⟩ ∧ y = .str z ∧ Q (.bl (neg ^^ decide (i ∈ toL z))) H) ∨
  ∃ F d l, Same F H ∧ Dp K F x d ∧ (Dp K F y (.list l) ∨ Dp K F y (.tuple l)) ∧ d.plain = true ∧ PyData.plainAll l = true ∧ d.depth ≤ 60 ∧ Q (.bl (neg ^^ (l.any fun d' => PyData.eqv d' d))) H
theorem op_inA (hu : X.A.units + 64 < cLine) : OpR X (compareOp .In) (rIn X.K false) := by
  intro pins s σ H x y v u Q I rx ry h
  rcases h with ⟨i, z, rfl, rfl, q⟩ | ⟨F, d, l, sm, hd, hl, pd, pl, dd, q⟩
  · refine op_in_str pins s σ H _ _ v u Q I rx ry ⟨_, _, rfl, rfl, ?_⟩
    rw [PySem.StrLaws.found_one z i]
    rw [Bool.false_xor] at q
    exact q
  · obtain ⟨as, r1⟩ := L2.Dp.reads I d x v (Dp.l2 sm _ _ hd) rx
    rw [Bool.false_xor] at q
    have hm := Nat.min_le_right (PyData.depthAll l) d.depth
    rcases hl with hl | hl
    · obtain ⟨bs, r2⟩ := L2.Dp.reads I _ y u (Dp.l2 sm _ _ hl) ry
      exact PySem.SeqAt.in_list_data r2 r1 pl pd (by omega) ⟨.bl _, H, I, rfl, q⟩
    · obtain ⟨bs, r2⟩ := L2.Dp.reads I _ y u (Dp.l2 sm _ _ hl) ry
      exact PySem.SeqAt.in_tuple_data r2 r1 pl pd (by omega) ⟨.bl _, H, I, rfl, q⟩
theorem op_notInA (hu : X.A.units + 64 < cLine) : OpR X (compareOp .NotIn) (rIn X.K true) := by
  intro pins s σ H x y v u Q I rx ry h
  rcases h with ⟨i, z, rfl, rfl, q⟩ | ⟨F, d, l, sm, hd, hl, pd, pl, dd, q⟩
  · refine op_notin_str pins s σ H _ _ v u Q I rx ry ⟨_, _, rfl, rfl, ?_⟩
    rw [PySem.StrLaws.found_one z i]
    rw [Bool.true_xor] at q
    exact q
  · obtain ⟨as, r1⟩ := L2.Dp.reads I d x v (Dp.l2 sm _ _ hd) rx
    rw [Bool.true_xor] at q
    have hm := Nat.min_le_right (PyData.depthAll l) d.depth
    rcases hl with hl | hl
    · obtain ⟨bs, r2⟩ := L2.Dp.reads I _ y u (Dp.l2 sm _ _ hl) ry
      exact PySem.SeqAt.notIn_list_data r2 r1 pl pd (by omega) ⟨.bl _, H, I, rfl, q⟩
    · obtain ⟨bs, r2⟩ := L2.Dp.reads I _ y u (Dp.l2 sm _ _ hl) ry
      exact PySem.SeqAt.notIn_tuple_data r2 r1 pl pd (by omega) ⟨.bl _, H, I, rfl, q⟩
theorem os_in {K : PySem.W.Frag} : OpS K .isin fun vs H Q => ∃ x y, vs = [x, y] ∧ rIn K false x y H Q := by
  intro ds d vs F H Q s q e w
  simp only [opD] at e; unfold dop_isin at e
  split at e
  · rename_i i z
    cases e1 : sign1 i with
    | none => rw [e1] at e; cases e
    | some k =>
      rw [e1] at e
      cases e
      match q with
      | .cons q1 (.cons q2 .nil) =>
        have h1 := dn_str q1; have h2 := dn_str q2
        subst h1; subst h2
        refine ⟨_, _, rfl, .inl ⟨k, z, by rw [sign1_eq e1], rfl, ?_⟩⟩
        rw [Bool.false_xor]
        exact Wish.here w s (Dp.bl _)
  · obtain ⟨h1, h2⟩ := guardO_some e
    cases h2
    simp only [Bool.and_eq_true, decide_eq_true_eq] at h1
    match q with
    | .cons q1 (.cons q2 .nil) =>
      refine ⟨_, _, rfl, .inr ⟨F, _, _, s, q1.dp (nd_of (plain_nd h1.1.1)), .inl q2, h1.1.1, h1.1.2, h1.2, ?_⟩⟩
      rw [Bool.false_xor]
      exact Wish.here w s (Dp.bl _)
  · obtain ⟨h1, h2⟩ := guardO_some e
    cases h2
    simp only [Bool.and_eq_true, decide_eq_true_eq] at h1
    match q with
    | .cons q1 (.cons q2 .nil) =>
      refine ⟨_, _, rfl, .inr ⟨F, _, _, s, q1.dp (nd_of (plain_nd h1.1.1)), .inr q2, h1.1.1, h1.1.2, h1.2, ?_⟩⟩
      rw [Bool.false_xor]
      exact Wish.here w s (Dp.bl _)
  · cases e
theorem os_notin {K : PySem.W.Frag} : OpS K .notin fun vs H Q => ∃ x y, vs = [x, y] ∧ rIn K true x y H Q := by
  intro ds d vs F H Q s q e w
  simp only [opD] at e; unfold dop_notin at e
  split at e
  · rename_i i z
    cases e1 : sign1 i with
    | none => rw [e1] at e; cases e
    | some k =>
      rw [e1] at e
      cases e
      match q with
      | .cons q1 (.cons q2 .nil) =>
        have h1 := dn_str q1; have h2 := dn_str q2
        subst h1; subst h2
        refine ⟨_, _, rfl, .inl ⟨k, z, by rw [sign1_eq e1], rfl, ?_⟩⟩
        rw [Bool.true_xor]
        exact Wish.here w s (Dp.bl _)
  · obtain ⟨h1, h2⟩ := guardO_some e
    cases h2
    simp only [Bool.and_eq_true, decide_eq_true_eq] at h1
    match q with
    | .cons q1 (.cons q2 .nil) =>
      refine ⟨_, _, rfl, .inr ⟨F, _, _, s, q1.dp (nd_of (plain_nd h1.1.1)), .inl q2, h1.1.1, h1.1.2, h1.2, ?_⟩⟩
      rw [Bool.true_xor]
      exact Wish.here w s (Dp.bl _)
  · obtain ⟨h1, h2⟩ := guardO_some e
    cases h2
    simp only [Bool.and_eq_true, decide_eq_true_eq] at h1
    match q with
    | .cons q1 (.cons q2 .nil) =>
      refine ⟨_, _, rfl, .inr ⟨F, _, _, s, q1.dp (nd_of (plain_nd h1.1.1)), .inr q2, h1.1.1, h1.1.2, h1.2, ?_⟩⟩
      rw [Bool.true_xor]
      exact Wish.here w s (Dp.bl _)
  · cases e
theorem sw_in (hu : X.A.units + 64 < cLine) (ha : PE X e1 (TEv X.K c a)) (hb : PE X e2 (TEv X.K c b)) (hm : behindInMarks .In e2 = false := by rfl) : PT X (.Compare e1 [.In] [e2] pos) (TTv X.K c (.op .isin (.cons a (.cons b .nil)))) := sw_cmp os_in (op_inA hu) ha hb hm
theorem sw_notin (hu : X.A.units + 64 < cLine) (ha : PE X e1 (TEv X.K c a)) (hb : PE X e2 (TEv X.K c b)) (hm : behindInMarks .NotIn e2 = false := by rfl) : PT X (.Compare e1 [.NotIn] [e2] pos) (TTv X.K c (.op .notin (.cons a (.cons b .nil)))) := sw_cmp os_notin (op_notInA hu) ha hb hm
theorem sv_isi {T : String} {x : Str} {p px : Pos} {o : Op} {f : D → Bool} (ho : ∀ l d, opD o l = some d → ∃ y, l = [y] ∧ nd y = true ∧ d = .bool (f y))
    (hr : ∀ (prog : Program) (w : World) (A : Around) (E : Value → Shared → Prop) (s : Shared) (Q : Value → Shared → Prop) (v : Value) (d : D) (as : List Addr), Reads s.heap v d as → (∀ tk, s.toks ≤ tk → Q (.bool (f d)) { s with toks := tk }) → wpAny (model prog w) A (call (.builtin "isinstance") [v, .type T]) Q E s)
    (hg : Gl X "isinstance") (hm : X.mg "isinstance" = none) (hgT : Gl X x) (hmT : X.mg x = none) (hvT : bootBuiltins x = some (.type T)) (ha : PE X e (TEv X.K c a)) (hv : bootBuiltins "isinstance" = some (.builtin "isinstance") := by decide +kernel) (hnT : x ≠ "__name__" := by decide) (hdT : (x == ("__debug__" : Str)) = false := by decide)
    (he : starEach [e, .Name x px] X.env = (false, eval e X.env) :: starEach [.Name x px] X.env := by rfl) (hpl : (backTo pos (starEach [.Name x px] X.env)).any (·.1) = false := by rfl) (he2 : starEach [.Name x px] X.env = (false, eval (.Name x px) X.env) :: starEach [] X.env := by rfl) :
    PE X (.Call (.Name "isinstance" p) [e, .Name x px] [] pos) (TEv X.K c (.op o (.cons a .nil))) := by
  have hc : CallR X (.builtin "isinstance") (fun xs H Q => ∃ F d y, xs = [y, .ty T] ∧ Same F H ∧ Dp X.K F y d ∧ Q (.bl (f d)) H) := by
    intro pins s σ H xs us Q I rr h
    obtain ⟨F, d, y, rfl, sm, hd, q⟩ := h
    obtain ⟨u1, u2, rfl, r1, r2⟩ := vals2 rr
    have e2 : u2 = .type T := r2
    subst e2
    obtain ⟨as, r1'⟩ := L2.Dp.reads I d y u1 (Dp.l2 sm _ _ hd) r1
    exact hr _ _ _ _ _ _ _ _ _ r1' fun tk _ => ⟨.bl _, H, I.tok _, rfl, q⟩
  refine PE.mono (pe_callB hc hg hm hv (pa_cons ha (pa_cons (pe_bltn (v := .ty T) hgT hmT hvT rfl hnT hdT) pa_nil he2) he) (by decide) (by decide) he hpl) fun σ H Q h => ?_
  exact tev_un h fun d d' v F1 H1 s q ed w => by
    obtain ⟨y, e1, e2, e3⟩ := ho _ _ ed
    cases e1
    subst e3
    exact ⟨F1, _, v, rfl, s, q.dp (nd_of e2), w.here s (Dp.bl _)⟩
theorem isint_of {l : List D} {d : D} (h : opD .isint l = some d) : ∃ y, l = [y] ∧ nd y = true ∧ d = .bool y.isInt := by
  simp only [opD] at h; unfold dop_isint at h
  split at h
  · obtain ⟨h1, h2⟩ := guardO_some h; cases h2; exact ⟨_, rfl, h1, rfl⟩
  · cases h
theorem isbool_of {l : List D} {d : D} (h : opD .isbool l = some d) : ∃ y, l = [y] ∧ nd y = true ∧ d = .bool y.isBool := by
  simp only [opD] at h; unfold dop_isbool at h
  split at h
  · obtain ⟨h1, h2⟩ := guardO_some h; cases h2; exact ⟨_, rfl, h1, rfl⟩
  · cases h
theorem isstr_of {l : List D} {d : D} (h : opD .isstr l = some d) : ∃ y, l = [y] ∧ nd y = true ∧ d = .bool y.isStr := by
  simp only [opD] at h; unfold dop_isstr at h
  split at h
  · obtain ⟨h1, h2⟩ := guardO_some h; cases h2; exact ⟨_, rfl, h1, rfl⟩
  · cases h
theorem istup_of {l : List D} {d : D} (h : opD .istup l = some d) : ∃ y, l = [y] ∧ nd y = true ∧ d = .bool y.isTuple := by
  simp only [opD] at h; unfold dop_istup at h
  split at h
  · obtain ⟨h1, h2⟩ := guardO_some h; cases h2; exact ⟨_, rfl, h1, rfl⟩
  · cases h
theorem boot_bool' : bootBuiltins "bool" = some (.type "bool") := by decide +kernel
theorem boot_int' : bootBuiltins "int" = some (.type "int") := by decide +kernel
theorem boot_str' : bootBuiltins "str" = some (.type "str") := by decide +kernel
theorem boot_tup' : bootBuiltins "tuple" = some (.type "tuple") := by decide +kernel
theorem boot_isi' : bootBuiltins "isinstance" = some (.builtin "isinstance") := by decide +kernel
theorem boot_len' : bootBuiltins "len" = some (.builtin "len") := by decide +kernel
theorem boot_all' : bootBuiltins "all" = some (.builtin "all") := by decide +kernel
theorem boot_any' : bootBuiltins "any" = some (.builtin "any") := by decide +kernel
theorem boot_min' : bootBuiltins "min" = some (.builtin "min") := by decide +kernel
theorem boot_max' : bootBuiltins "max" = some (.builtin "max") := by decide +kernel
theorem boot_sorted' : bootBuiltins "sorted" = some (.builtin "sorted") := by decide +kernel
theorem sv_isint {p px : Pos} (hg : Gl X "isinstance") (hm : X.mg "isinstance" = none) (hgT : Gl X "int") (hmT : X.mg "int" = none) (ha : PE X e (TEv X.K c a)) (he : starEach [e, .Name "int" px] X.env = (false, eval e X.env) :: starEach [.Name "int" px] X.env := by rfl) :
    PE X (.Call (.Name "isinstance" p) [e, .Name "int" px] [] pos) (TEv X.K c (.op .isint (.cons a .nil))) := sv_isi (fun _ _ h => isint_of h) (fun _ _ _ _ _ _ _ _ _ r h => PySem.W.isinstance_int_data r h) hg hm hgT hmT boot_int' ha boot_isi' (by decide) (by decide) he
theorem sv_isbool {p px : Pos} (hg : Gl X "isinstance") (hm : X.mg "isinstance" = none) (hgT : Gl X "bool") (hmT : X.mg "bool" = none) (ha : PE X e (TEv X.K c a)) (he : starEach [e, .Name "bool" px] X.env = (false, eval e X.env) :: starEach [.Name "bool" px] X.env := by rfl) :
    PE X (.Call (.Name "isinstance" p) [e, .Name "bool" px] [] pos) (TEv X.K c (.op .isbool (.cons a .nil))) := sv_isi (fun _ _ h => isbool_of h) (fun _ _ _ _ _ _ _ _ _ r h => PySem.W.isinstance_bool_data r h) hg hm hgT hmT boot_bool' ha boot_isi' (by decide) (by decide) he
theorem sv_isstr {p px : Pos} (hg : Gl X "isinstance") (hm : X.mg "isinstance" = none) (hgT : Gl X "str") (hmT : X.mg "str" = none) (ha : PE X e (TEv X.K c a)) (he : starEach [e, .Name "str" px] X.env = (false, eval e X.env) :: starEach [.Name "str" px] X.env := by rfl) :
    PE X (.Call (.Name "isinstance" p) [e, .Name "str" px] [] pos) (TEv X.K c (.op .isstr (.cons a .nil))) := sv_isi (fun _ _ h => isstr_of h) (fun _ _ _ _ _ _ _ _ _ r h => PySem.W.isinstance_str_data r h) hg hm hgT hmT boot_str' ha boot_isi' (by decide) (by decide) he
theorem sv_istup {p px : Pos} (hg : Gl X "isinstance") (hm : X.mg "isinstance" = none) (hgT : Gl X "tuple") (hmT : X.mg "tuple" = none) (ha : PE X e (TEv X.K c a)) (he : starEach [e, .Name "tuple" px] X.env = (false, eval e X.env) :: starEach [.Name "tuple" px] X.env := by rfl) :
    PE X (.Call (.Name "isinstance" p) [e, .Name "tuple" px] [] pos) (TEv X.K c (.op .istup (.cons a .nil))) := sv_isi (fun _ _ h => istup_of h) (fun _ _ _ _ _ _ _ _ _ r h => PySem.W.isinstance_tuple_data r h) hg hm hgT hmT boot_tup' ha boot_isi' (by decide) (by decide) he
end
end Bm
end
section
set_option Elab.async false
set_option linter.all false
set_option maxRecDepth 100000
set_option maxHeartbeats 1000000
namespace Bm
open PySem PySem.Spec L2
section
variable {X : Cx} {c : Cfg} {e e1 e2 e3 : Expr} {es : List Expr} {a b m : E} {pos : Pos}
theorem atI_ix {α : Type} {xs : List α} {i : Int} {k : Nat} {v : α} (h : ixOf xs.length i = some k) (hv : xs[k]? = some v) : atI xs i = some v := by
  unfold atI
  rw [← ixOf_N, h]
  exact hv
theorem os_item {K : PySem.W.Frag} : OpS K .item fun vs H Q => ∃ x y, vs = [x, y] ∧ (rIxL K x y H Q ∨ rIxT K x y H Q ∨ rIxS x y H Q) := by
  intro ds d vs F H Q s q e w
  simp only [opD] at e; unfold dop_item at e
  split at e
  · rename_i l i
    match q with
    | .cons q1 (.cons q2 .nil) =>
      obtain ⟨p, xs, rfl, h1, h2⟩ := dn_list q1
      have h3 := dn_int q2; subst h3
      cases ek : ixOf l.length i with
      | none => rw [ek] at e; cases e
      | some k =>
        rw [ek] at e
        obtain ⟨v, hv, hd⟩ := dpa_get h2 (show l[k]? = some d from e)
        rw [← dpa_len h2] at ek
        exact ⟨_, _, rfl, .inl ⟨p, xs, i, v, rfl, rfl, .inl (.inl (s _ _ h1)), atI_ix ek hv, Wish.here w s (Dn.of hd)⟩⟩
  · rename_i l i
    match q with
    | .cons q1 (.cons q2 .nil) =>
      obtain ⟨p, xs, rfl, h1, h2⟩ := dn_tuple q1
      have h3 := dn_int q2; subst h3
      cases ek : ixOf l.length i with
      | none => rw [ek] at e; cases e
      | some k =>
        rw [ek] at e
        obtain ⟨v, hv, hd⟩ := dpa_get h2 (show l[k]? = some d from e)
        rw [← dpa_len h2] at ek
        exact ⟨_, _, rfl, .inr (.inl ⟨p, xs, i, v, rfl, rfl, .inl (.inl (s _ _ h1)), atI_ix ek hv, Wish.here w s (Dn.of hd)⟩)⟩
  · rename_i z i
    match q with
    | .cons q1 (.cons q2 .nil) =>
      have h1 := dn_str q1; subst h1
      have h3 := dn_int q2; subst h3
      obtain ⟨hl, e⟩ := guardO_some e
      rw [decide_eq_true_eq, len_toL] at hl
      cases ek : ixOf (toL z).length i with
      | none => rw [ek] at e; cases e
      | some k =>
        rw [ek] at e
        cases ec : (toL z)[k]? with
        | none => simp only [Option.bind_some, ec] at e; cases e
        | some ch =>
          simp only [Option.bind_some, ec] at e
          cases e
          exact ⟨_, _, rfl, .inr (.inr ⟨z, i, ch, rfl, rfl, lim_line hl, atI_ix (xs := z.cps.toList) ek ec, Wish.here w s (Dp.str _)⟩)⟩
  · cases e
theorem sv_item (ha : PE X e1 (TEv X.K c a)) (hb : PE X e2 (TEv X.K c b)) (hs : PlainIx e2 := by exact fun _ _ => rfl) : PE X (.Subscript e1 e2 pos) (TEv X.K c (.op .item (.cons a (.cons b .nil)))) :=
  PE.mono (pe_ix ix_seq ha hb hs) fun _ _ _ h => tev_op2 (rr := rIx X.K) os_item h
/-- x[k], x an owned list -/
theorem sv_oitem {i : Nat} {x : Str} {px : Pos} (hx : PE X (.Name x px) (tVar i)) (hb : PE X e2 (TEv X.K c b)) (hs : PlainIx e2 := by exact fun _ _ => rfl) : PE X (.Subscript (.Name x px) e2 pos) (TEv X.K c (.oitem i b)) := by
  refine PE.mono (pe_ix ix_list hx hb hs) fun σ H Q ⟨F, r, x, h⟩ => ?_
  simp only [den] at h
  cases eo : isOwnL (getS r i) with
  | false => rw [eo] at h; exact h.elim
  | true =>
    rw [eo, if_pos rfl] at h
    obtain ⟨l0, el⟩ := isOwnL_ex eo
    have q0 := x.rel.ok i
    rw [el] at q0
    obtain ⟨a0, vs0, qv, _⟩ := q0
    refine ⟨.ref a0, vAt_some qv, F, r, x, OkE.bind h fun d r1 v F1 H1 ⟨x1, e1, s1, q1⟩ h1 => ?_⟩
    cases d with
    | int k =>
      simp only at h1
      cases eg : getS r1 i with
      | own l =>
        rw [eg] at h1
        simp only at h1
        have z := x1.rel.ok i
        rw [eg] at z
        obtain ⟨a1, ws, z1, z2, z3, z4⟩ := z
        rw [qv] at z1; cases z1
        have hk := dn_int q1; subst hk
        cases ep : ixOf l.length k with
        | none => rw [ep] at h1; exact h1.elim
        | some p =>
          rw [ep] at h1
          simp only [Option.bind_some] at h1
          cases ev : l[p]? with
          | none => rw [ev] at h1; exact h1.elim
          | some d =>
            rw [ev] at h1
            obtain ⟨u, hu, hd⟩ := dpa_get z4 ev
            rw [← dpa_len z4] at ep
            exact ⟨a0, ws, k, u, rfl, rfl, SqL.of z3, atI_ix ep hu, h1 u F1 H1 x1 Ef.refl (fun _ z => z) (Dn.of hd)⟩
      | un => rw [eg] at h1; exact h1.elim
      | sh d => rw [eg] at h1; exact h1.elim
      | dicT d => rw [eg] at h1; exact h1.elim
      | dicK d => rw [eg] at h1; exact h1.elim
      | ins d => rw [eg] at h1; exact h1.elim
      | lck d => rw [eg] at h1; exact h1.elim
      | exs d => rw [eg] at h1; exact h1.elim
    | none => exact h1.elim
    | bool _ => exact h1.elim
    | str _ => exact h1.elim
    | list _ => exact h1.elim
    | tuple _ => exact h1.elim
    | dict _ => exact h1.elim
theorem clamp_ix {n k d : Nat} {z : D} (h : clamp n d z = some k) : (z = .none ∧ k = d) ∨ ∃ i, z = .int i ∧ k = HT.sIx n d (some i) := by
  cases z with
  | none => simp only [clamp] at h; cases h; exact .inl ⟨rfl, rfl⟩
  | int i =>
    simp only [clamp] at h
    cases h
    refine .inr ⟨i, rfl, ?_⟩
    show _ = if i < 0 then (i + (n : Int)).toNat else min i.toNat n
    by_cases hi : 0 ≤ i
    · rw [if_pos hi, if_neg (by omega)]
    · rw [if_neg hi, if_pos (by omega)]
      omega
  | _ => cases h
theorem cut_eq {α : Type} (l : List α) (lo hi : Nat) : cut l lo hi = (l.drop lo).take (hi - lo) := by
  unfold cut
  rw [List.drop_take]
def rSl (K : PySem.W.Frag) : V → Option Int → Option Int → Hp → VK → Prop := fun x lo hi H Q => rSlL K x lo hi H Q ∨ rSlA K x lo hi H Q ∨ rSlS x lo hi H Q
theorem sl_any : SlR X (rSl X.K) := sl_list.or (sl_tupA.or sl_str)
theorem cut_dp {K : PySem.W.Frag} {F : Hp} {vs : List V} {l : List D} (h : DpAll K F vs l) (lo hi : Nat) : DpAll K F ((vs.drop lo).take (hi - lo)) (cut l lo hi) := by
  rw [cut_eq]
  exact dpa_take _ (dpa_drop _ h)
/-- a slice by its parts' data -/
theorem slice_go {K : PySem.W.Frag} {F H : Hp} {Q : VK} {x : V} {dx dl dh d : D} {lo hi : Option Int} (s : Same F H) (q : Dn K F x dx) (hlo : (dl = .none ∧ lo = none) ∨ ∃ i, dl = .int i ∧ lo = some i) (hhi : (dh = .none ∧ hi = none) ∨ ∃ i, dh = .int i ∧ hi = some i)
    (e : opD .slice [dx, dl, dh] = some d) (w : Wish K F H d Q) : rSl K x lo hi H Q := by
  have key : ∀ (n dd k : Nat) (z : D) (o : Option Int), ((z = .none ∧ o = none) ∨ ∃ i, z = .int i ∧ o = some i) → clamp n dd z = some k → k = HT.sIx n dd o := fun n dd k z o hz hc => by
    rcases clamp_ix hc with ⟨e1, e2⟩ | ⟨i, e1, e2⟩
    · rcases hz with ⟨_, e3⟩ | ⟨j, e3, _⟩
      · rw [e3, e2]; rfl
      · rw [e1] at e3; cases e3
    · rcases hz with ⟨e3, _⟩ | ⟨j, e3, e4⟩
      · rw [e1] at e3; cases e3
      · rw [e1] at e3; cases e3; rw [e4]; exact e2
  simp only [opD] at e
  cases dx with
  | list l =>
    simp only [dop_slice] at e
    obtain ⟨p, xs, rfl, h1, h2⟩ := dn_list q
    cases ea : clamp l.length 0 dl with
    | none => rw [ea] at e; cases e
    | some k1 =>
      rw [ea] at e
      cases eb : clamp l.length l.length dh with
      | none => simp only [Option.bind_some, eb] at e; cases e
      | some k2 =>
        simp only [Option.bind_some, eb, Option.map_some] at e
        cases e
        refine .inl ⟨p, xs, rfl, .inl (.inl (s _ _ h1)), fun p' np => ?_⟩
        have := cut_dp h2 k1 k2
        rw [key _ _ _ _ _ hlo ea, key _ _ _ _ _ hhi eb, ← dpa_len h2] at this
        rw [key _ _ _ _ _ hlo ea, key _ _ _ _ _ hhi eb, ← dpa_len h2] at w
        exact w.lst s np this
  | tuple l =>
    simp only [dop_slice] at e
    obtain ⟨p, xs, rfl, h1, h2⟩ := dn_tuple q
    cases ea : clamp l.length 0 dl with
    | none => rw [ea] at e; cases e
    | some k1 =>
      rw [ea] at e
      cases eb : clamp l.length l.length dh with
      | none => simp only [Option.bind_some, eb] at e; cases e
      | some k2 =>
        simp only [Option.bind_some, eb, Option.map_some] at e
        cases e
        have hk1 := key _ _ _ _ _ hlo ea
        have hk2 := key _ _ _ _ _ hhi eb
        refine .inr (.inl ⟨p, xs, rfl, .inl (.inl (s _ _ h1)), fun z => ?_, fun _ p' np => ?_⟩)
        · rw [dpa_len h2, ← hk1, ← hk2] at z
          have ec : cut l k1 k2 = l := by rw [z.1, z.2, cut_eq]; simp
          rw [ec] at w
          exact w.here s q
        · have := cut_dp h2 k1 k2
          rw [hk1, hk2, ← dpa_len h2] at this
          rw [hk1, hk2, ← dpa_len h2] at w
          exact w.tup s np this
  | str z =>
    simp only [dop_slice] at e
    have h1 := dn_str q; subst h1
    obtain ⟨hl, e⟩ := guardO_some e
    rw [decide_eq_true_eq, len_toL] at hl
    cases ea : clamp (toL z).length 0 dl with
    | none => rw [ea] at e; cases e
    | some k1 =>
      rw [ea] at e
      cases eb : clamp (toL z).length (toL z).length dh with
      | none => simp only [Option.bind_some, eb] at e; cases e
      | some k2 =>
        simp only [Option.bind_some, eb, Option.map_some] at e
        cases e
        refine .inr (.inr ⟨z, rfl, lim_line hl, ?_⟩)
        have hk1 := key _ _ _ _ _ hlo ea
        have hk2 := key _ _ _ _ _ hhi eb
        have : dS (cut (toL z) k1 k2) = .str (cutS z lo hi) := by
          unfold cutS dS st
          rw [cut_eq, hk1, hk2, len_toL]
          rfl
        rw [this] at w
        exact w.here s (Dp.str _)
  | none => cases e
  | bool _ => cases e
  | int _ => cases e
  | dict _ => cases e
theorem TEv.imp {K : PySem.W.Frag} {σ : St} {H : Hp} {Q Q' : VK} (h : TEv K c m σ H Q) (f : ∀ v H, Q v H → Q' v H) : TEv K c m σ H Q' := by
  obtain ⟨F, r, x, h⟩ := h
  refine ⟨F, r, x, ?_⟩
  cases e : den c.call m r with
  | ok p => rw [e] at h; exact fun v F' H' a b c d => f _ _ (h v F' H' a b c d)
  | exc k => rw [e] at h; exact h
  | stuck => rw [e] at h; exact h
theorem wish_of {K : PySem.W.Frag} {o : Op} {ds : List D} {r : Env} {σ : St} {F H : Hp} {Q : VK} (x : Stt K c r σ H F) (h : OkE K c r σ F H ((R.opt (opD o ds)).bind fun d => .ok (d, r)) Q) : ∃ d', opD o ds = some d' ∧ Wish K F H d' Q := by
  cases e : opD o ds with
  | none => rw [e] at h; exact h.elim
  | some d =>
    rw [e] at h
    refine ⟨d, rfl, fun v F' H' h1 h2 h3 q' => ?_⟩
    obtain ⟨x', ef⟩ := x.grown h1 h2 h3
    exact h v F' H' x' ef (fun _ z => z) q'
end
end Bm
end
section
set_option Elab.async false
set_option linter.all false
set_option maxRecDepth 100000
set_option maxHeartbeats 1000000
namespace Bm
open PySem PySem.Spec L2
section
open PySem.Builtin.Str PySem.StrLaws
theorem subAt1 (x : Str) (k i : Nat) (hi : i + 1 ≤ x.length) : subAt x ⟨#[k]⟩ i = decide ((toL x)[i]? = some k) := by
  have h := subAt_one x k i
  have hl : (⟨#[k]⟩ : Str).length = 1 := rfl
  rw [hl] at h
  by_cases hk : (toL x)[i]? = some k
  · rw [decide_eq_true hk]; exact (h.mpr hk).2
  · rw [decide_eq_false hk]
    cases hs : subAt x ⟨#[k]⟩ i with
    | false => rfl
    | true => exact absurd (h.mp ⟨hi, hs⟩) hk
/-- the loop over the places, for one sign -/
theorem occ1_loop (x : Str) (k limit : Nat) : ∀ (n a : Nat) (f : Array Nat) (free : Nat), a + n = x.length + 1 → free ≤ a →
    (forIn (List.range' a n) (f, free) (occBody x ⟨#[k]⟩ x.length limit)).run.fst.toList = f.toList ++ ((List.range' a n).filter fun i => decide ((toL x)[i]? = some k)).take (limit - f.size)
  | 0, a, f, free, _, _ => by simp
  | n + 1, a, f, free, ha, hf => by
    rw [List.range'_succ, List.forIn_cons]
    have hlk : (⟨#[k]⟩ : Str).length = 1 := rfl
    unfold occBody
    rw [hlk]
    by_cases hk : (toL x)[a]? = some k
    · have hlt : a < x.length := by
        have := (List.getElem?_eq_some_iff.mp hk).1
        rw [len_toL] at this; exact this
      rw [show (a :: List.range' (a + 1) n).filter (fun i => decide ((toL x)[i]? = some k)) = a :: (List.range' (a + 1) n).filter (fun i => decide ((toL x)[i]? = some k)) by rw [List.filter_cons, if_pos (decide_eq_true hk)]]
      by_cases hs : f.size < limit
      · rw [if_pos ⟨⟨⟨hs, hf⟩, by omega⟩, by rw [subAt1 x k a (by omega)]; exact decide_eq_true hk⟩]
        have ih := occ1_loop x k limit n (a + 1) (f.push a) (a + 1) (by omega) (Nat.le_refl _)
        unfold occBody at ih
        rw [hlk] at ih
        refine ih.trans ?_
        rw [Array.toList_push, Array.size_push, List.append_assoc]
        congr 1
        obtain ⟨j, hj⟩ : ∃ j, limit - f.size = j + 1 := ⟨limit - f.size - 1, by omega⟩
        rw [hj, List.take_succ_cons, show limit - (f.size + 1) = j by omega]
        rfl
      · rw [if_neg (fun z => hs z.1.1.1)]
        have ih := occ1_loop x k limit n (a + 1) f free (by omega) (by omega)
        unfold occBody at ih
        rw [hlk] at ih
        refine ih.trans ?_
        have hz : limit - f.size = 0 := by omega
        rw [hz, List.take_zero, List.take_zero]
    · rw [show (a :: List.range' (a + 1) n).filter (fun i => decide ((toL x)[i]? = some k)) = (List.range' (a + 1) n).filter (fun i => decide ((toL x)[i]? = some k)) by rw [List.filter_cons, if_neg (by simp [hk])]]
      have ih := occ1_loop x k limit n (a + 1) f free (by omega) (by omega)
      unfold occBody at ih
      rw [hlk] at ih
      by_cases hle : a + 1 ≤ x.length
      · rw [if_neg (fun z => by rw [subAt1 x k a hle] at z; exact hk (of_decide_eq_true z.2))]
        exact ih
      · rw [if_neg (fun z => hle z.1.2)]
        exact ih
theorem occ1 (x : Str) (k lo limit : Nat) (h : lo ≤ x.length) : occurrences x ⟨#[k]⟩ lo x.length limit = ((List.range' lo (x.length + 1 - lo)).filter fun i => decide ((toL x)[i]? = some k)).take limit := by
  rw [occ_eq, occ1_loop x k limit _ lo #[] lo (by omega) (Nat.le_refl _)]
  simp
/-- its places as a list's places -/
theorem filter_pos (l : List Nat) (k : Nat) : ∀ (n a : Nat), a + n = l.length + 1 → (((List.range' a n).filter fun i => decide (l[i]? = some k)).head? = posFrom k l a ∧ ((List.range' a n).filter fun i => decide (l[i]? = some k)).length = ((l.drop a).filter fun c => c == k).length)
  | 0, a, h => by
    have : l.drop a = [] := List.drop_eq_nil_of_le (by omega)
    simp [posFrom, this, posOf]
  | n + 1, a, h => by
    rw [List.range'_succ]
    obtain ⟨i1, i2⟩ := filter_pos l k n (a + 1) (by omega)
    by_cases hl : a < l.length
    · have hd : l.drop a = l[a] :: l.drop (a + 1) := List.drop_eq_getElem_cons hl
      have hg : l[a]? = some l[a] := List.getElem?_eq_getElem hl
      by_cases hk : l[a] = k
      · rw [List.filter_cons_of_pos (by rw [hg, hk]; simp)]
        unfold posFrom
        rw [hd]
        simp only [posOf, hk, if_true, List.head?_cons, Option.map_some, Nat.zero_add, List.length_cons]
        refine ⟨trivial, ?_⟩
        rw [List.filter_cons_of_pos (by simp), List.length_cons, i2]
      · rw [List.filter_cons_of_neg (by rw [hg]; simpa using hk)]
        refine ⟨?_, ?_⟩
        · rw [i1]
          unfold posFrom
          rw [hd]
          simp only [posOf, hk, if_false, Option.map_map]
          congr 1
          funext z
          simp only [Function.comp]
          omega
        · rw [i2, hd, List.filter_cons_of_neg (by simpa using hk)]
    · have hn : l[a]? = none := List.getElem?_eq_none (by omega)
      have hn0 : n = 0 := by omega
      subst hn0
      have hd : l.drop a = [] := List.drop_eq_nil_of_le (by omega)
      simp [hn, posFrom, hd, posOf]
theorem head_take {l : List Nat} : (match l.take 1 with | i :: _ => (i : Int) | [] => -1) = posInt l.head? := by
  cases l <;> rfl
theorem find1_eq (x : Str) (k : Nat) : Txt.find x ⟨#[k]⟩ = posInt (posOf k (toL x)) := by
  unfold Txt.find
  rw [occ1 x k 0 1 (Nat.zero_le _)]
  refine (head_take (l := ((List.range' 0 (x.length + 1 - 0)).filter fun i => decide ((toL x)[i]? = some k)))).trans ?_
  have := (filter_pos (toL x) k (x.length + 1 - 0) 0 (by rw [len_toL]; omega)).1
  rw [this]
  unfold posFrom
  rw [List.drop_zero]
  simp
theorem find3_eq (x : Str) (k : Nat) (i : Int) (h0 : 0 ≤ i) (h1 : i.toNat ≤ (toL x).length) : Txt.find3 x ⟨#[k]⟩ i = posInt (posFrom k (toL x) i.toNat) := by
  unfold Txt.find3
  have hf : fromIndex x.length i = i.toNat := by
    unfold fromIndex
    rw [if_neg (by omega)]
    omega
  rw [hf, occ1 x k i.toNat 1 (by rw [len_toL] at h1; exact h1)]
  refine (head_take (l := ((List.range' i.toNat (x.length + 1 - i.toNat)).filter fun i => decide ((toL x)[i]? = some k)))).trans ?_
  rw [(filter_pos (toL x) k (x.length + 1 - i.toNat) i.toNat (by rw [len_toL] at h1 ⊢; omega)).1]
theorem count1_eq (x : Str) (k : Nat) : Txt.count x ⟨#[k]⟩ = (((toL x).filter fun c => c == k).length : Nat) := by
  unfold Txt.count
  rw [occ1 x k 0 _ (Nat.zero_le _)]
  have h2 := (filter_pos (toL x) k (x.length + 1 - 0) 0 (by rw [len_toL]; omega)).2
  rw [List.drop_zero] at h2
  rw [List.length_take, h2]
  have : ((toL x).filter fun c => c == k).length ≤ x.length := by rw [← len_toL]; exact List.length_filter_le _ _
  congr 1
  omega
end
section
variable {X : Cx} {c : Cfg} {e e1 e2 e3 : Expr} {es : List Expr} {a b m : E} {pos : Pos}
theorem isI_int {K : PySem.W.Frag} {F : Hp} {v : V} {d : D} (q : Dn K F v d) (h : isI d = true) : ∃ i, d = .int i ∧ v = .int i := by
  cases d with
  | int i => exact ⟨i, rfl, dn_int q⟩
  | _ => cases h
theorem sv_slcL {p2 : Pos} {lo : E} (h1 : PE X e1 (TEv X.K c a)) (h2 : PE X e2 (TEv X.K c lo)) : PE X (.Subscript e1 (.Slice (some e2) none none p2) pos) (TEv X.K c (.slcL a lo)) := by
  refine PE.mono (pe_slice sl_any h1 (po_some h2) po_none) fun σ H Q ⟨F, r, x, h⟩ => ?_
  simp only [den] at h
  refine ⟨F, r, x, OkE.bind h fun d1 r1 v F1 H1 ⟨x1, _, _, q1⟩ h1 => ⟨F1, r1, x1, OkE.bind h1 fun d2 r2 u F2 H2 ⟨x2, e2, _, q2⟩ h2 => ?_⟩⟩
  simp only at h2
  cases hp2 : isI d2 with
  | false => rw [hp2] at h2; exact h2.elim
  | true =>
    rw [hp2, if_pos rfl] at h2
    obtain ⟨i, rfl, rfl⟩ := isI_int q2 hp2
    obtain ⟨d', ed, w⟩ := wish_of (o := .slice) (ds := [d1, .int i, .none]) x2 h2
    exact ⟨i, rfl, slice_go x2.rel.same (dn_same (e2.same x1.rel) q1) (.inr ⟨i, rfl, rfl⟩) (.inl ⟨rfl, rfl⟩) ed w⟩
theorem sv_slcH {p2 : Pos} {hi : E} (h1 : PE X e1 (TEv X.K c a)) (h2 : PE X e2 (TEv X.K c hi)) : PE X (.Subscript e1 (.Slice none (some e2) none p2) pos) (TEv X.K c (.slcH a hi)) := by
  refine PE.mono (pe_slice sl_any h1 po_none (po_some h2)) fun σ H Q ⟨F, r, x, h⟩ => ?_
  simp only [den] at h
  refine ⟨F, r, x, OkE.bind h fun d1 r1 v F1 H1 ⟨x1, _, _, q1⟩ h1 => ⟨F1, r1, x1, OkE.bind h1 fun d2 r2 u F2 H2 ⟨x2, e2, _, q2⟩ h2 => ?_⟩⟩
  simp only at h2
  cases hp2 : isI d2 with
  | false => rw [hp2] at h2; exact h2.elim
  | true =>
    rw [hp2, if_pos rfl] at h2
    obtain ⟨i, rfl, rfl⟩ := isI_int q2 hp2
    obtain ⟨d', ed, w⟩ := wish_of (o := .slice) (ds := [d1, .none, .int i]) x2 h2
    exact ⟨i, rfl, slice_go x2.rel.same (dn_same (e2.same x1.rel) q1) (.inl ⟨rfl, rfl⟩) (.inr ⟨i, rfl, rfl⟩) ed w⟩
theorem os_len {K : PySem.W.Frag} : OpS K .len (fun xs H Q => ∃ x n, xs = [x] ∧ LenV K x H n ∧ Q (.int n) H) := by
  intro ds d vs F H Q s q e w
  simp only [opD] at e; unfold dop_len at e
  split at e
  · obtain ⟨hl, e⟩ := guardO_some e
    cases e
    match q with
    | .cons q1 .nil =>
      have h1 := dn_str q1; subst h1
      rw [decide_eq_true_eq, len_toL] at hl
      rw [len_toL] at w
      exact ⟨_, _, rfl, ⟨lim_line hl, rfl⟩, Wish.here w s (Dp.int _)⟩
  · cases e
    match q with
    | .cons q1 .nil =>
      obtain ⟨p, xs, rfl, h1, h2⟩ := dn_list q1
      rw [← dpa_len h2] at w
      exact ⟨_, _, rfl, .inl ⟨xs, SqL.of (s _ _ h1), rfl⟩, Wish.here w s (Dp.int _)⟩
  · cases e
    match q with
    | .cons q1 .nil =>
      obtain ⟨p, xs, rfl, h1, h2⟩ := dn_tuple q1
      rw [← dpa_len h2] at w
      exact ⟨_, _, rfl, .inr ⟨xs, SqT.of (s _ _ h1), rfl⟩, Wish.here w s (Dp.int _)⟩
  · cases e
theorem sv_len {p : Pos} (hg : Gl X "len") (hm : X.mg "len" = none) (ha : PE X e (TEv X.K c a)) (he : starEach [e] X.env = (false, eval e X.env) :: starEach [] X.env := by rfl) : PE X (.Call (.Name "len" p) [e] [] pos) (TEv X.K c (.op .len (.cons a .nil))) :=
  sv_callB os_len call_len hg hm boot_len' (sa_cons ha sa_nil he) (by decide) (by decide) he rfl
theorem allBool_of {K : PySem.W.Frag} {F : Hp} : ∀ {l : List D} {bs : List Bool} {vs : List V}, allBool l = some bs → DpAll K F vs l → vs = bs.map V.bl
  | [], bs, vs, h, q => by cases h; cases q; rfl
  | d :: r, bs, vs, h, q => by
    cases d with
    | bool b =>
      simp only [allBool] at h
      cases hr : allBool r with
      | none => rw [hr] at h; cases h
      | some bs' =>
        rw [hr] at h; cases h
        cases q with
        | cons q1 q2 => cases q1; rw [allBool_of hr q2]; rfl
    | _ => cases h
theorem allStr_of {K : PySem.W.Frag} {F : Hp} : ∀ {l : List D} {bs : List (List Nat)} {vs : List V}, allStr l = some bs → DpAll K F vs l → vs = (bs.map st).map V.str
  | [], bs, vs, h, q => by cases h; cases q; rfl
  | d :: r, bs, vs, h, q => by
    cases d with
    | str b =>
      simp only [allStr] at h
      cases hr : allStr r with
      | none => rw [hr] at h; cases h
      | some bs' =>
        rw [hr] at h; cases h
        cases q with
        | cons q1 q2 => cases q1; rw [allStr_of hr q2]; simp
    | _ => cases h
theorem os_all {K : PySem.W.Frag} : OpS K .all (rAll K) := by
  intro ds d vs F H Q s q e w
  simp only [opD] at e; unfold dop_all at e
  split at e
  · rename_i l
    cases hb : allBool l with
    | none => rw [hb] at e; cases e
    | some bs =>
      rw [hb] at e; cases e
      match q with
      | .cons q1 .nil =>
        obtain ⟨p, xs, rfl, h1, h2⟩ := dn_list q1
        have hv := allBool_of hb h2
        subst hv
        exact ⟨p, bs, rfl, SqL.of (s _ _ h1), Wish.here w s (Dp.bl _)⟩
  · cases e
theorem os_any {K : PySem.W.Frag} : OpS K .any (rAny K) := by
  intro ds d vs F H Q s q e w
  simp only [opD] at e; unfold dop_any at e
  split at e
  · rename_i l
    cases hb : allBool l with
    | none => rw [hb] at e; cases e
    | some bs =>
      rw [hb] at e; cases e
      match q with
      | .cons q1 .nil =>
        obtain ⟨p, xs, rfl, h1, h2⟩ := dn_list q1
        have hv := allBool_of hb h2
        subst hv
        exact ⟨p, bs, rfl, SqL.of (s _ _ h1), Wish.here w s (Dp.bl _)⟩
  · cases e
theorem sv_all {p : Pos} (hc : X.calm = true) (hg : Gl X "all") (hm : X.mg "all" = none) (ha : PE X e (TEv X.K c a)) (he : starEach [e] X.env = (false, eval e X.env) :: starEach [] X.env := by rfl) : PE X (.Call (.Name "all" p) [e] [] pos) (TEv X.K c (.op .all (.cons a .nil))) :=
  sv_callB os_all (cr_all hc) hg hm boot_all' (sa_cons ha sa_nil he) (by decide) (by decide) he rfl
theorem sv_any {p : Pos} (hc : X.calm = true) (hg : Gl X "any") (hm : X.mg "any" = none) (ha : PE X e (TEv X.K c a)) (he : starEach [e] X.env = (false, eval e X.env) :: starEach [] X.env := by rfl) : PE X (.Call (.Name "any" p) [e] [] pos) (TEv X.K c (.op .any (.cons a .nil))) :=
  sv_callB os_any (cr_any hc) hg hm boot_any' (sa_cons ha sa_nil he) (by decide) (by decide) he rfl
theorem os_tuple {K : PySem.W.Frag} : OpS K .tuple (fun xs H Q => ∃ p ys, xs = [.ref p] ∧ ((SqL K H p ys ∧ ∀ l, H l = none → Q (.ref l) (upd H l (.tup ys))) ∨ (SqT K H p ys ∧ Q (.ref p) H))) := by
  intro ds d vs F H Q s q e w
  simp only [opD] at e; unfold dop_tuple at e
  split at e
  · cases e
    match q with
    | .cons q1 .nil =>
      obtain ⟨p, xs, rfl, h1, h2⟩ := dn_list q1
      exact ⟨p, xs, rfl, .inl ⟨SqL.of (s _ _ h1), fun l nl => Wish.tup w s nl h2⟩⟩
  · cases e
theorem sv_tuple {p : Pos} (hg : Gl X "tuple") (hm : X.mg "tuple" = none) (ha : PE X e (TEv X.K c a)) (he : starEach [e] X.env = (false, eval e X.env) :: starEach [] X.env := by rfl) : PE X (.Call (.Name "tuple" p) [e] [] pos) (TEv X.K c (.op .tuple (.cons a .nil))) :=
  sv_callTy os_tuple call_tuple_of hg hm boot_tup' (sa_cons ha sa_nil he) (by decide) (by decide) he rfl
theorem dna_dpa {K : PySem.W.Frag} {F : Hp} : ∀ {vs : List V} {ds : List D}, DnAll K F vs ds → ds.all nd = true → DpAll K F vs ds
  | _, _, .nil, _ => .nil
  | _, _, .cons h t, ha => by
    rw [List.all_cons, Bool.and_eq_true] at ha
    exact .cons (h.dp (nd_of ha.1)) (dna_dpa t ha.2)
theorem sv_mkt {k} (ha : PA X es (TAv X.K c a)) : PE X (.Tuple es k pos) (TEv X.K c (.op .mkt a)) := by
  refine PE.mono (pe_tup ha) fun σ H Q h => ?_
  refine tev_op (rr := fun xs H1 Q => xs.length ≤ sizeLine ∧ ∀ p, H1 p = none → Q (.ref p) (upd H1 p (.tup xs))) ?_ h
  intro ds d vs F H Q s q e w
  simp only [opD] at e; unfold dop_mkt at e
  obtain ⟨h1, e⟩ := guardO_some e
  cases e
  rw [Bool.and_eq_true, decide_eq_true_eq] at h1
  have qd := dna_dpa q h1.2
  exact ⟨by rw [dpa_len qd]; exact lim_line h1.1, fun p np => Wish.tup w s np qd⟩
theorem sv_mkl (ha : PA X es (TAv X.K c a)) : PE X (.List es pos) (TEv X.K c (.op .mkl a)) := by
  refine PE.mono (pe_lst ha) fun σ H Q h => ?_
  refine tev_op (rr := fun xs H1 Q => xs.length ≤ sizeLine ∧ ∀ p, H1 p = none → Q (.ref p) (upd H1 p (.lst xs))) ?_ h
  intro ds d vs F H Q s q e w
  simp only [opD] at e; unfold dop_mkl at e
  obtain ⟨h1, e⟩ := guardO_some e
  cases e
  rw [Bool.and_eq_true, decide_eq_true_eq] at h1
  have qd := dna_dpa q h1.2
  exact ⟨by rw [dpa_len qd]; exact lim_line h1.1, fun p np => Wish.lst w s np qd⟩
end
end Bm
end
section
set_option Elab.async false
set_option linter.all false
set_option maxRecDepth 100000
set_option maxHeartbeats 1000000
namespace Bm
open PySem PySem.Spec L2
section
variable {X : Cx} {c : Cfg} {e e1 e2 e3 : Expr} {es : List Expr} {a b m : E} {pos : Pos}
/-- x.m(e), x a text -/
theorem tev_meth {K : PySem.W.Frag} {o : Op} {σ : St} {H : Hp} {Q : VK} {G : V → List V → Hp → Prop} (h : TEv K c (.meth o a b) σ H Q)
    (g : ∀ z ds d' vs F2 H2, Same F2 H2 → DnAll K F2 vs ds → opD o (.str z :: ds) = some d' → Wish K F2 H2 d' Q → G (.str z) vs H2) : TEv K c a σ H fun x H1 => (∃ z, x = .str z) ∧ TAv K c b σ H1 fun vs H2 => G x vs H2 := by
  obtain ⟨F, r, x, h⟩ := h
  simp only [den] at h
  refine ⟨F, r, x, OkE.bind h fun d1 r1 v F1 H1 ⟨x1, _, _, q1⟩ h1 => ?_⟩
  cases d1 with
  | str z =>
    simp only at h1
    have hv := dn_str q1; subst hv
    refine ⟨⟨z, rfl⟩, F1, r1, x1, OkA.bind h1 ?_ ?_⟩
    · intro d r1 nl
      cases d <;> first | rfl | exact absurd rfl (nl _)
    · intro ds r2 vs F2 H2 x2 e2 s2 q2 h2
      obtain ⟨d', ed, w⟩ := wish_of (ds := .str z :: ds) x2 h2
      exact g z ds d' vs F2 H2 x2.rel.same q2 ed w
  | none => exact h1.elim
  | bool _ => exact h1.elim
  | int _ => exact h1.elim
  | list _ => exact h1.elim
  | tuple _ => exact h1.elim
  | dict _ => exact h1.elim
theorem tyV_str {K : PySem.W.Frag} {H : Hp} {x : V} (h : ∃ z, x = .str z) : tyV K "str" x H := by
  obtain ⟨z, rfl⟩ := h
  rfl
theorem sv_meth {o : Op} {name : Str} {id : String} {apos cpos : Pos} {rr : V → List V → Hp → VK → Prop} (slot : PySem.Slot "str" name id) (hty : typeOf (.builtin id) = pure (.type "method_descriptor")) (hm : MtR X id rr)
    (hr : ∀ z ds d' vs F H Q, Same F H → DnAll X.K F vs ds → opD o (.str z :: ds) = some d' → Wish X.K F H d' Q → rr (.str z) vs H Q)
    (ho : PE X e1 (TEv X.K c a)) (ha : PA X (e :: es) (TAv X.K c b)) (hbase : attributeBase e1 name X.env (eval e1 X.env) = eval e1 X.env := by rfl)
    (hfew : ((backTo cpos (starEach (e :: es) X.env)).all (fun x => !x.1) && (backToKw cpos (keywordEach [] X.env)).all (fun x => x.1.isSome)
      && decide ((e :: es).length + ([] : List Keyword).length + (if ([] : List Keyword).isEmpty then 0 else 1) < 30)) = true := by rfl)
    (hline : (apos.endLine == cpos.line) = true := by rfl) (hs : starEach (e :: es) X.env = (false, eval e X.env) :: starEach es X.env := by rfl) (hplain : (backTo cpos (starEach es X.env)).any (·.1) = false := by rfl) :
    PE X (.Call (.Attribute e1 name apos) (e :: es) [] cpos) (TEv X.K c (.meth o a b)) := by
  refine PE.mono (pe_bm PySem.F.plainAttrs_str slot hty hm ho ha hbase hfew hline hs hplain) fun σ H Q h => ?_
  have h2 := tev_meth (G := fun x vs H2 => rr x vs H2 Q) h fun z ds d' vs F2 H2 s q e w => hr z ds d' vs F2 H2 Q s q e w
  exact TEv.imp h2 fun x H1 ⟨h3, h4⟩ => ⟨tyV_str h3, h4⟩
theorem rr_find {K : PySem.W.Frag} : ∀ z ds d' vs F H Q, Same F H → DnAll K F vs ds → opD .find (.str z :: ds) = some d' → Wish K F H d' Q → (fun (x : V) (xs : List V) (H : Hp) (Q : VK) => ∃ a b, x = .str a ∧ xs = [.str b] ∧ Q (.int (Txt.find a b)) H) (.str z) vs H Q := by
  intro z ds d' vs F H Q s q e w
  simp only [opD] at e; unfold dop_find at e
  split at e
  · rename_i z' t heq
    cases heq
    match q with
    | .cons q1 .nil =>
      have h1 := dn_str q1; subst h1
      cases hk : sign1 t with
      | none => rw [hk] at e; cases e
      | some k =>
        rw [hk] at e; cases e
        refine ⟨z, t, rfl, rfl, ?_⟩
        rw [sign1_eq hk, find1_eq]
        exact w.here s (Dp.int _)
  · cases e
theorem rr_find2 {K : PySem.W.Frag} : ∀ z ds d' vs F H Q, Same F H → DnAll K F vs ds → opD .find2 (.str z :: ds) = some d' → Wish K F H d' Q → (fun (x : V) (xs : List V) (H : Hp) (Q : VK) => ∃ (a b : Str) (i : Int), x = .str a ∧ xs = [.str b, .int i] ∧ Q (.int (Txt.find3 a b i)) H) (.str z) vs H Q := by
  intro z ds d' vs F H Q s q e w
  simp only [opD] at e; unfold dop_find2 at e
  split at e
  · rename_i z' t i heq
    cases heq
    obtain ⟨hg, e⟩ := guardO_some e
    rw [decide_eq_true_eq] at hg
    match q with
    | .cons q1 (.cons q2 .nil) =>
      have h1 := dn_str q1; subst h1
      have h2 := dn_int q2; subst h2
      cases hk : sign1 t with
      | none => rw [hk] at e; cases e
      | some k =>
        rw [hk] at e; cases e
        refine ⟨z, t, i, rfl, rfl, ?_⟩
        rw [sign1_eq hk, find3_eq _ _ _ hg.1 hg.2]
        exact w.here s (Dp.int _)
  · cases e
theorem rr_count {K : PySem.W.Frag} : ∀ z ds d' vs F H Q, Same F H → DnAll K F vs ds → opD .count (.str z :: ds) = some d' → Wish K F H d' Q → (fun (x : V) (xs : List V) (H : Hp) (Q : VK) => ∃ a b, x = .str a ∧ xs = [.str b] ∧ Q (.int (Txt.count a b)) H) (.str z) vs H Q := by
  intro z ds d' vs F H Q s q e w
  simp only [opD] at e; unfold dop_count at e
  split at e
  · rename_i z' t heq
    cases heq
    match q with
    | .cons q1 .nil =>
      have h1 := dn_str q1; subst h1
      cases hk : sign1 t with
      | none => rw [hk] at e; cases e
      | some k =>
        rw [hk] at e; cases e
        refine ⟨z, t, rfl, rfl, ?_⟩
        rw [sign1_eq hk, count1_eq]
        exact w.here s (Dp.int _)
  · cases e
theorem joinL_eq (sep : List Nat) : ∀ l : List (List Nat), joinL sep l = TL.joinL sep l
  | [] => rfl
  | [_] => rfl
  | x :: y :: r => by
    show x ++ sep ++ joinL sep (y :: r) = x ++ (sep ++ TL.joinL sep (y :: r))
    rw [joinL_eq sep (y :: r), List.append_assoc]
theorem join_dS (sep : Str) (ss : List (List Nat)) : dS (joinL (toL sep) ss) = .str (Txt.join sep (ss.map st)) := by
  unfold dS
  congr 1
  rw [TL.join_eq]
  refine TL.ext_tl ?_
  rw [TL.tl_join]
  show toL (st _) = _
  rw [toL_st, joinL_eq]
  congr 1
  rw [List.map_map]
  conv => lhs; rw [← List.map_id ss]
  refine List.map_congr_left fun x _ => ?_
  show x = toL (st x)
  rw [toL_st]
theorem len_st (l : List Nat) : (st l).length = l.length := by simp [st, Str.length]
theorem rr_join {K : PySem.W.Frag} : ∀ z ds d' vs F H Q, Same F H → DnAll K F vs ds → opD .join (.str z :: ds) = some d' → Wish K F H d' Q → (fun (x : V) (xs : List V) (H : Hp) (Q : VK) => ∃ a p, ∃ ys : List Str, x = .str a ∧ xs = [.ref p] ∧ (SqL K H p (ys.map V.str) ∨ SqT K H p (ys.map V.str)) ∧
    (ys.map (·.length)).sum + ys.length * a.length ≤ 16777216 ∧ Q (.str (Txt.join a ys)) H) (.str z) vs H Q := by
  intro z ds d' vs F H Q s q e w
  have bnd : ∀ ss : List (List Nat), (ss.map List.length).sum + ss.length * (toL z).length ≤ lim → ((ss.map st).map (·.length)).sum + (ss.map st).length * z.length ≤ 16777216 := fun ss h => by
    rw [List.map_map, List.length_map]
    have e1 : ss.map ((fun x : Str => x.length) ∘ st) = ss.map List.length := List.map_congr_left fun x _ => len_st x
    rw [e1, ← len_toL]
    exact Nat.le_trans h (by decide)
  simp only [opD] at e; unfold dop_join at e
  split at e
  · rename_i z' l heq
    cases heq
    cases hs : allStr l with
    | none => rw [hs] at e; cases e
    | some ss =>
      rw [hs] at e
      obtain ⟨hg, e⟩ := guardO_some e
      cases e
      rw [decide_eq_true_eq] at hg
      match q with
      | .cons q1 .nil =>
        obtain ⟨p, xs, rfl, h1, h2⟩ := dn_list q1
        have hv := allStr_of hs h2
        subst hv
        refine ⟨z, p, ss.map st, rfl, rfl, .inl (SqL.of (s _ _ h1)), bnd ss hg, ?_⟩
        rw [join_dS] at w
        exact w.here s (Dp.str _)
  · rename_i z' l heq
    cases heq
    cases hs : allStr l with
    | none => rw [hs] at e; cases e
    | some ss =>
      rw [hs] at e
      obtain ⟨hg, e⟩ := guardO_some e
      cases e
      rw [decide_eq_true_eq] at hg
      match q with
      | .cons q1 .nil =>
        obtain ⟨p, xs, rfl, h1, h2⟩ := dn_tuple q1
        have hv := allStr_of hs h2
        subst hv
        refine ⟨z, p, ss.map st, rfl, rfl, .inr (SqT.of (s _ _ h1)), bnd ss hg, ?_⟩
        rw [join_dS] at w
        exact w.here s (Dp.str _)
  · cases e
theorem splitBy_ne (k : Nat) : ∀ l, splitBy k l ≠ []
  | [] => by simp [splitBy]
  | a :: r => by
    simp only [splitBy]
    split
    · simp
    · split <;> simp
theorem spl_splitBy (k : Nat) : ∀ (l acc : List Nat), TL.spl [k] 0 acc l = (match splitBy k l with | x :: t => (acc ++ x) :: t | [] => [acc])
  | [], acc => by simp [TL.spl, splitBy]
  | a :: r, acc => by
    have hp : TL.pre [k] (a :: r) = decide (a = k) := by
      unfold TL.pre
      simp only [List.length_cons, List.length_nil, List.take_succ_cons, List.take_zero]
      by_cases h : a = k
      · simp [h]
      · simp [h]
    simp only [TL.spl, hp, splitBy]
    by_cases h : a = k
    · subst h
      simp only [decide_true, if_true, List.length_cons, List.length_nil]
      rw [spl_splitBy a r []]
      cases hs : splitBy a r with
      | nil => exact absurd hs (splitBy_ne a r)
      | cons x t => simp
    · simp only [h, decide_false, Bool.false_eq_true, if_false]
      rw [spl_splitBy k r (acc ++ [a])]
      cases hs : splitBy k r with
      | nil => exact absurd hs (splitBy_ne k r)
      | cons x t => simp
theorem split1_eq (z t : Str) (k : Nat) (ht : toL t = [k]) (hk : k < 128) : Txt.split z t = (splitBy k (toL z)).map st := by
  refine TL.map_tl_inj ?_
  have h1 : TL.tl t = [k] := ht
  rw [TL.split_spl z t (by rw [h1]; simp) (TL.kind_ok ?_), h1, spl_splitBy, List.map_map]
  · cases hs : splitBy k (TL.tl z) with
    | nil => exact absurd hs (splitBy_ne k _)
    | cons x r =>
      have e1 : splitBy k (toL z) = x :: r := hs
      rw [e1]
      simp only [List.nil_append]
      conv => lhs; rw [← List.map_id (x :: r)]
      refine List.map_congr_left fun y _ => ?_
      show y = toL (st y)
      rw [toL_st]
  · have e2 : t = ⟨#[k]⟩ := by rw [← st_toL t, ht]; rfl
    rw [e2]
    simp
    omega
theorem dpa_strs {K : PySem.W.Frag} {F : Hp} : ∀ l : List (List Nat), DpAll K F ((l.map st).map V.str) (l.map dS)
  | [] => .nil
  | x :: r => .cons (.str _) (dpa_strs r)
theorem rr_split {K : PySem.W.Frag} : ∀ z ds d' vs F H Q, Same F H → DnAll K F vs ds → opD .split (.str z :: ds) = some d' → Wish K F H d' Q → (fun (x : V) (xs : List V) (H : Hp) (Q : VK) => ∃ a b, x = .str a ∧ xs = [.str b] ∧ (b.length == 0) = false ∧ a.length + 2 ≤ sizeLine ∧ rNewStrs (Txt.split a b) H Q) (.str z) vs H Q := by
  intro z ds d' vs F H Q s q e w
  simp only [opD] at e; unfold dop_split at e
  split at e
  · rename_i z' t heq
    cases heq
    obtain ⟨hg, e⟩ := guardO_some e
    rw [decide_eq_true_eq, len_toL] at hg
    split at e
    · rename_i k hk
      obtain ⟨hk2, e⟩ := guardO_some e
      rw [decide_eq_true_eq] at hk2
      cases e
      match q with
      | .cons q1 .nil =>
        have h1 := dn_str q1; subst h1
        refine ⟨z, t, rfl, rfl, ?_, ?_, fun p np => ?_⟩
        · rw [← len_toL, hk]; rfl
        · have : lim = 1000000 := rfl
          rw [sizeLine_eq]; omega
        · rw [split1_eq z t k hk hk2]
          exact w.lst s np (dpa_strs _)
    · cases e
  · cases e
end
end Bm
end
section
set_option Elab.async false
set_option linter.all false
set_option maxRecDepth 100000
set_option maxHeartbeats 1000000
namespace Bm
open PySem PySem.Spec L2
theorem foldl_rep (cs : Array Nat) : ∀ (n : Nat) (acc : Array Nat), ((List.replicate n cs).foldl (· ++ ·) acc).toList = acc.toList ++ (List.replicate n cs.toList).flatten
  | 0, acc => by simp
  | n + 1, acc => by
    rw [List.replicate_succ, List.foldl_cons, foldl_rep cs n (acc ++ cs)]
    simp [List.replicate_succ]
section
variable {X : Cx} {c : Cfg} {e e1 e2 e3 : Expr} {es : List Expr} {a b m : E} {pos : Pos}
/-- text * n -/
theorem op_mulS : OpR X (binaryOp .Mult) (fun x y H Q => ∃ z i, x = .str z ∧ y = .int i ∧ 0 ≤ i ∧ i ≤ 1000 ∧ z.length ≤ 1000 ∧ Q (.str (st (List.replicate i.toNat (toL z)).flatten)) H) := by
  intro pins s σ H x y v u Q I rx ry h
  obtain ⟨z, i, rfl, rfl, h0, h1, hz, q⟩ := h
  obtain ⟨t, rfl⟩ := rx
  obtain ⟨t', rfl⟩ := ry
  have hlen : z.length * i.toNat ≤ 1000000 := by
    have : i.toNat ≤ 1000 := by omega
    calc z.length * i.toNat ≤ 1000 * 1000 := Nat.mul_le_mul hz this
      _ = 1000000 := rfl
  refine PySem.P.mul_str ?_ (fun h2 _ => ?_) (fun h2 _ => ?_) ?_
  · rw [Bool.or_eq_false_iff, decide_eq_false_iff_not, decide_eq_false_iff_not]; omega
  · have h3 : (1 : Int) ≤ i := by omega
    have h4 : (9000000000000000 : Int) ≤ (2 ^ 63 - 1) / i := by
      rw [Int.le_ediv_iff_mul_le (by omega)]
      have : 9000000000000000 * i ≤ 9000000000000000 * 1000 := Int.mul_le_mul_of_nonneg_left h1 (by decide)
      exact Int.le_trans this (by decide)
    omega
  · unfold PySem.Builtin.Str.tooLong
    rw [decide_eq_false_iff_not, sizeLine_eq]
    omega
  · have lenr : ∀ k : Nat, (List.replicate k (toL z)).flatten.length = k * z.length := fun k => by
      simp [len_toL]
    by_cases c1 : i < 1
    · rw [if_pos c1]
      refine ⟨by decide, .str Str.empty, H, I.tok _, ⟨_, rfl⟩, ?_⟩
      have e0 : i.toNat = 0 := by omega
      rw [e0] at q
      exact q
    · rw [if_neg c1]
      by_cases c2 : (i == 1 || z.length == 0) = true
      · rw [if_pos c2]
        refine ⟨.str z, H, I, ⟨_, rfl⟩, ?_⟩
        have e1 : st (List.replicate i.toNat (toL z)).flatten = z := by
          rw [Bool.or_eq_true, beq_iff_eq, beq_iff_eq] at c2
          rcases c2 with c2 | c2
          · subst c2
            show st (List.replicate 1 (toL z)).flatten = z
            simp
          · have hz0 : toL z = [] := List.eq_nil_of_length_eq_zero (by rw [len_toL]; exact c2)
            have : (List.replicate i.toNat (toL z)).flatten = toL z := by rw [hz0]; simp
            rw [this, st_toL]
        rw [e1] at q
        exact q
      · rw [if_neg c2]
        have e2 : (⟨(List.replicate i.toNat z.cps).foldl (· ++ ·) #[]⟩ : Str) = st (List.replicate i.toNat (toL z)).flatten := by
          refine TL.ext_tl ?_
          show ((List.replicate i.toNat z.cps).foldl (· ++ ·) #[]).toList = toL (st _)
          rw [foldl_rep, toL_st]
          rfl
        rw [e2]
        refine ⟨?_, .str _, H, I.tok _, ⟨_, rfl⟩, q⟩
        rw [len_st, lenr, sizeLine_eq]
        rw [Nat.mul_comm]
        omega
/-- tuple * 1: itself -/
theorem tuple_mul1 (l : Addr) (items : Array Value) (n : Nat) (dd : Option Addr) (sl : Array (Option Value)) (u : Tok) :
    Meets (Builtin.«tuple.__mul__» ⟨[.ref l, .int 1 u], []⟩) (fun _ R s => s.heap.get? l = some { cls := .type "tuple", dict := dd, data := .seq items n, slots := sl } ∧
      R (.ok (.ret (Value.ref l))) s) :=
  .of_wp fun prog w A R s h => by
    obtain ⟨hp, g, d, tk, os⟩ := s
    obtain ⟨hl, h⟩ := h
    have f1 := AutoSeq1.idx_int
    have c1 : (items.isEmpty || (1 : Int) == 1) = true := by simp
    wp_walk using wpAny_loadPart' hl
    exact ⟨_, rfl, h⟩
def rRepT1 (K : PySem.W.Frag) : R2 := fun x y H Q => ∃ l xs, x = .ref l ∧ y = .int 1 ∧ SqT K H l xs ∧ Q (.ref l) H
theorem op_repT1 : OpR X (binaryOp .Mult) (rRepT1 X.K) := by
  intro pins s σ H x y v u Q I rx ry h
  obtain ⟨l, xs, rfl, rfl, hT, q⟩ := h
  cases rx
  obtain ⟨t, rfl⟩ := ry
  obtain ⟨its, r, ⟨⟨cls, dd, data, sl⟩, ho, hc, n, hd⟩, hs⟩ := I.tuple hT
  simp only at hc hd
  subst hc hd
  exact wpAny_binaryOp_repeat_ref (T := "tuple") (U := "int") (by decide) ⟨_, ho, rfl⟩ (fun s' => typeIs_int s' 1 t) noFill_tuple_mul F.fills_int_mul F.slot_int_rmul repeat_tuple F.slot_int_index.lookup
    (call_meets F.slot_int_rmul (typeIs_int s 1 t) F.entry_int_rmul (F.args_int_rmul_2 _ _) (int_rmul_tuple 1 t l its.toArray n dd sl)
      ⟨ho, rfl, ⟨_, ho, rfl⟩, call_meets F.slot_tuple_mul ⟨_, ho, rfl⟩ F.entry_tuple_mul (F.args_tuple_mul_2 _ _) (tuple_mul1 l its.toArray n dd sl t) ⟨ho, ⟨.ref l, H, I, rfl, q⟩⟩⟩)
def rMulA (K : PySem.W.Frag) : R2 := fun x y H Q => (rI CMul fun i j => .int (i * j)) x y H Q ∨ (rI CMulW fun i j => .int (i * j)) x y H Q ∨ (∃ z i, x = .str z ∧ y = .int i ∧ 0 ≤ i ∧ i ≤ 1000 ∧ z.length ≤ 1000 ∧ Q (.str (st (List.replicate i.toNat (toL z)).flatten)) H) ∨ rRep x y H Q ∨ rRepT K x y H Q ∨ rRepT1 K x y H Q
theorem op_mulA : OpR X (binaryOp .Mult) (rMulA X.K) := op_mul.or (op_mulW.or (op_mulS.or (op_rep.or (op_repT.or op_repT1))))
theorem dpa_rep {K : PySem.W.Frag} {F : Hp} {vs : List V} {l : List D} (h : DpAll K F vs l) : ∀ n : Nat, DpAll K F (List.replicate n vs).flatten (List.replicate n l).flatten
  | 0 => .nil
  | n + 1 => by
    rw [List.replicate_succ, List.replicate_succ, List.flatten_cons, List.flatten_cons]
    exact dpa_app h (dpa_rep h n)
theorem os_mul {K : PySem.W.Frag} : OpS K .mul fun vs H Q => ∃ x y, vs = [x, y] ∧ rMulA K x y H Q := by
  intro ds d vs F H Q s q e w
  simp only [opD] at e; unfold dop_mul at e
  split at e
  · rename_i i j
    obtain ⟨hg, e⟩ := guardO_some e
    cases e
    match q with
    | .cons q1 (.cons q2 .nil) =>
      have h1 := dn_int q1; have h2 := dn_int q2
      subst h1; subst h2
      rw [Bool.or_eq_true, decide_eq_true_eq, decide_eq_true_eq] at hg
      rcases hg with hg | hg
      · exact ⟨_, _, rfl, .inr (.inl ⟨i, j, rfl, rfl, wide_mul hg.1 hg.2 (by decide) (by decide) (by decide), Wish.here w s (Dp.int _)⟩)⟩
      · exact ⟨_, _, rfl, .inl ⟨i, j, rfl, rfl, .inr hg, Wish.here w s (Dp.int _)⟩⟩
  · rename_i z j
    obtain ⟨hg, e⟩ := guardO_some e
    cases e
    rw [decide_eq_true_eq, len_toL] at hg
    match q with
    | .cons q1 (.cons q2 .nil) =>
      have h1 := dn_str q1; have h2 := dn_int q2
      subst h1; subst h2
      exact ⟨_, _, rfl, .inr (.inr (.inl ⟨z, j, rfl, rfl, hg.1, hg.2.1, hg.2.2, Wish.here w s (Dp.str _)⟩))⟩
  · rename_i l j
    obtain ⟨hg, e⟩ := guardO_some e
    cases e
    rw [decide_eq_true_eq] at hg
    match q with
    | .cons q1 (.cons q2 .nil) =>
      obtain ⟨p, xs, rfl, h1, h2⟩ := dn_list q1
      have h3 := dn_int q2; subst h3
      refine ⟨_, _, rfl, .inr (.inr (.inr (.inl ⟨p, j, xs, rfl, rfl, s _ _ h1, by omega, by omega, ?_, fun p' np => Wish.lst w s np (dpa_rep h2 _)⟩)))⟩
      rw [dpa_len h2, sizeLine_eq]
      have : j.toNat ≤ 1000 := by omega
      have := Nat.mul_le_mul hg.2.2 this
      omega
  · rename_i l j
    obtain ⟨hg, e⟩ := guardO_some e
    cases e
    rw [Bool.and_eq_true, decide_eq_true_eq] at hg
    match q with
    | .cons q1 (.cons q2 .nil) =>
      obtain ⟨p, xs, rfl, h1, h2⟩ := dn_tuple q1
      have h3 := dn_int q2; subst h3
      by_cases hj : j = 1
      · subst hj
        refine ⟨_, _, rfl, .inr (.inr (.inr (.inr (.inr ⟨p, xs, rfl, rfl, .inl (.inl (s _ _ h1)), Wish.here w s ?_⟩))))⟩
        have : (List.replicate (1 : Int).toNat l).flatten = l := by simp
        rw [this]
        exact Dp.tup h1 h2
      · refine ⟨_, _, rfl, .inr (.inr (.inr (.inr (.inl ⟨p, j, xs, rfl, rfl, .inl (.inl (s _ _ h1)), fun z => ?_, by omega, hg.1.2.1, by rw [dpa_len h2]; exact hg.1.2.2, fun p' np => Wish.tup w s np (dpa_rep h2 _)⟩))))⟩
        subst z; cases h2
        exact absurd hg.2 (by simp)
  · cases e
theorem sv_mul (ha : PE X e1 (TEv X.K c a)) (hb : PE X e2 (TEv X.K c b)) : PE X (.BinOp e1 .Mult e2 pos) (TEv X.K c (.op .mul (.cons a (.cons b .nil)))) := sv_bin os_mul op_mulA ha hb
theorem dle_le : (fun x y => dle x y) = PySem.W.dataLe false (fun d : D => d) := by
  rw [PySem.W.dataLe_eq]
  rfl
theorem dle_total : PySem.W.TotalLe dle := by
  have h : PySem.W.TotalLe (PySem.W.dataLe false (fun d : D => d)) := PySem.W.sortLe_total _ _ _
  rw [← dle_le] at h
  exact h
theorem ins_mem (x : D) : ∀ (l : List D) (y : D), y ∈ ins dle x l → y = x ∨ y ∈ l
  | [], y, h => by simp [ins] at h; exact .inl h
  | z :: r, y, h => by
    simp only [ins] at h
    split at h
    · rcases List.mem_cons.mp h with h | h
      · exact .inl h
      · exact .inr h
    · rcases List.mem_cons.mp h with h | h
      · exact .inr (h ▸ List.mem_cons_self)
      · rcases ins_mem x r y h with h | h
        · exact .inl h
        · exact .inr (List.mem_cons_of_mem _ h)
theorem ins_sorted (x : D) : ∀ l : List D, l.Pairwise (fun a b => dle a b = true) → (ins dle x l).Pairwise (fun a b => dle a b = true)
  | [], _ => by simp [ins]
  | z :: r, h => by
    simp only [ins]
    obtain ⟨h1, h2⟩ := List.pairwise_cons.mp h
    split
    · rename_i hx
      refine List.pairwise_cons.mpr ⟨fun y hy => ?_, h⟩
      rcases List.mem_cons.mp hy with hy | hy
      · subst hy; exact hx
      · exact dle_total.trans _ _ _ hx (h1 y hy)
    · rename_i hx
      refine List.pairwise_cons.mpr ⟨fun y hy => ?_, ins_sorted x r h2⟩
      rcases ins_mem x r y hy with hy | hy
      · subst hy
        rcases dle_total.total y z with t | t
        · exact absurd t hx
        · exact t
      · exact h1 y hy
theorem ins_filter (x c : D) : ∀ l : List D, l.Pairwise (fun a b => dle a b = true) → (ins dle x l).filter (PySem.W.sameRank dle c) = (x :: l).filter (PySem.W.sameRank dle c)
  | [], _ => rfl
  | z :: r, h => by
    simp only [ins]
    obtain ⟨h1, h2⟩ := List.pairwise_cons.mp h
    split
    · rfl
    · rename_i hx
      rw [List.filter_cons, ins_filter x c r h2, List.filter_cons, List.filter_cons, List.filter_cons]
      by_cases hxc : PySem.W.sameRank dle c x = true
      · by_cases hzc : PySem.W.sameRank dle c z = true
        · exfalso
          unfold PySem.W.sameRank at hxc hzc
          rw [Bool.and_eq_true] at hxc hzc
          exact hx (dle_total.trans _ _ _ hxc.2 hzc.1)
        · simp [hxc, hzc]
      · simp [hxc]
theorem isort_sorted : ∀ l : List D, (isort dle l).Pairwise (fun a b => dle a b = true)
  | [] => .nil
  | x :: r => ins_sorted x _ (isort_sorted r)
theorem isort_filter (c : D) : ∀ l : List D, (isort dle l).filter (PySem.W.sameRank dle c) = l.filter (PySem.W.sameRank dle c)
  | [] => rfl
  | x :: r => by
    show (ins dle x (isort dle r)).filter _ = _
    rw [ins_filter x c _ (isort_sorted r), List.filter_cons, List.filter_cons, isort_filter c r]
theorem isort_merge (l : List D) : isort dle l = l.mergeSort dle := PySem.W.sort_unique dle_total (isort_sorted l) fun c => isort_filter c l
theorem alikeAs_mem {x : D} : ∀ {l : List D}, alikeAs x l = true → ∀ y ∈ l, PySem.W.alike x y = true ∧ PySem.W.alike y x = true
  | [], _, y, h => by cases h
  | z :: r, h, y, hy => by
    simp only [alikeAs, Bool.and_eq_true] at h
    rcases List.mem_cons.mp hy with hy | hy
    · subst hy; exact h.1
    · exact alikeAs_mem h.2 y hy
theorem allAlike_mem : ∀ {l : List D}, allAlike l = true → PySem.W.AllAlike l
  | [], _ => fun d hd => by cases hd
  | x :: r, h => by
    simp only [allAlike, Bool.and_eq_true] at h
    intro d hd d' hd'
    rcases List.mem_cons.mp hd with z | z
    · rcases List.mem_cons.mp hd' with z' | z'
      · rw [z, z']; exact h.1.1
      · rw [z]; exact (alikeAs_mem h.1.2 d' z').1
    · rcases List.mem_cons.mp hd' with z' | z'
      · rw [z']; exact (alikeAs_mem h.1.2 d z).2
      · exact allAlike_mem h.2 d z d' z'
theorem sortable_of {l : List D} (h : sortable l = true) : PySem.W.Sortable l := by
  unfold sortable at h
  rw [Bool.or_eq_true] at h
  rcases h with h | h
  · refine .inl fun d hd => ?_
    have := List.all_eq_true.mp h d hd
    split at this
    · exact ⟨_, _, rfl⟩
    · cases this
  · refine .inr fun d hd => ?_
    have := List.all_eq_true.mp h d hd
    split at this
    · cases this
    · cases this
    · cases this
    · rename_i n1 n2 n3
      exact ⟨fun e => n1 e, fun xs e => n2 xs e⟩
theorem depth_mem : ∀ {l : List D} {d : D}, d ∈ l → d.depth ≤ PyData.depthAll l
  | x :: r, d, h => by
    rw [PyData.depthAll]
    rcases List.mem_cons.mp h with h | h
    · subst h; exact Nat.le_max_left _ _
    · exact Nat.le_trans (depth_mem h) (Nat.le_max_right _ _)
theorem each_of_dpa {K : PySem.W.Frag} {F : Hp} : ∀ {vs : List V} {ds : List D}, DpAll K F vs ds → ∀ p ∈ vs.zip ds, Dp K F p.1 p.2
  | _, _, .nil, p, h => by cases h
  | _, _, .cons h1 h2, p, h => by
    rw [List.zip_cons_cons] at h
    rcases List.mem_cons.mp h with h | h
    · subst h; exact h1
    · exact each_of_dpa h2 p h
theorem dpa_of_each {K : PySem.W.Frag} {F : Hp} : ∀ (bs : List (V × D)), (∀ p ∈ bs, Dp K F p.1 p.2) → DpAll K F (bs.map (·.1)) (bs.map (·.2))
  | [], _ => .nil
  | p :: r, h => .cons (h p List.mem_cons_self) (dpa_of_each r fun q hq => h q (List.mem_cons_of_mem _ hq))
theorem vals_each : ∀ {us : List Value} {bs : List (V × D)}, PySem.W.EachIs (fun (v : Value) (b : V × D) => RelV b.1 v) us bs → Vals (bs.map (·.1)) us
  | _, _, .nil => .nil
  | _, _, .cons h t => .cons h (vals_each t)
theorem each_zip {F H : Hp} {X : Cx} {pins : List (Addr × Obj)} {σ : St} {s : Shared} (I : Inv X pins σ H s) (sm : Same F H) : ∀ {vs : List V} {ds : List D} {us : List Value}, DpAll X.K F vs ds → Vals vs us →
    PySem.W.EachIs (fun (v : Value) (b : V × D) => RelV b.1 v) us (vs.zip ds) ∧ PySem.W.EachIs (fun (v : Value) (b : V × D) => ∃ as, Reads s.heap v b.2 as) us (vs.zip ds)
  | _, _, _, .nil, .nil => ⟨.nil, .nil⟩
  | _, _, _, .cons h1 h2, .cons r1 r2 => by
    obtain ⟨e1, e2⟩ := each_zip I sm h2 r2
    rw [List.zip_cons_cons]
    exact ⟨.cons r1 e1, .cons (L2.Dp.reads I _ _ _ (Dp.l2 sm _ _ h1) r1) e2⟩
def rSorted (K : PySem.W.Frag) : List V → Hp → VK → Prop := fun xs H Q => ∃ F a vs l, xs = [.ref a] ∧ Same F H ∧ F a = some (.lst vs) ∧ DpAll K F vs l ∧ allAlike l = true ∧ sortable l = true ∧ l.length ≤ lim ∧ PyData.depthAll l ≤ 60 ∧
  ∀ p us, H p = none → DpAll K F us (isort dle l) → Q (.ref p) (upd H p (.lst us))
theorem cr_sortedD (hu : X.A.units + 64 < cLine) : CallR X (.builtin "sorted") (rSorted X.K) := by
  intro pins s σ H xs us Q I rr h
  obtain ⟨F, a, vs, l, rfl, sm, ha, hd, al, so, hlim, dp, q⟩ := h
  obtain ⟨u, rfl, rx⟩ := vals1 rr
  cases rx
  obtain ⟨its, rv, pl, hz⟩ := I.list (SqL.of (sm _ _ ha))
  obtain ⟨ea, er⟩ := each_zip I sm hd rv
  have hm : (vs.zip l).map (·.2) = l := by
    rw [List.map_snd_zip]
    rw [dpa_len hd]; exact Nat.le_refl _
  refine PySem.W.sorted_data (bs := vs.zip l) (enc := (·.2)) (R := fun (v : Value) (b : V × D) => RelV b.1 v) pl.isList ea er (by rw [hm]; exact allAlike_mem al) (by rw [hm]; exact sortable_of so) ?_ (fun b hb => ?_) fun out hlen eo => ?_
  · rw [List.length_zip, dpa_len hd, Nat.min_self]; exact lim_line hlim
  · have hmem : b.2 ∈ l := by
      have : b.2 ∈ (vs.zip l).map (·.2) := List.mem_map.mpr ⟨b, hb, rfl⟩
      rw [hm] at this; exact this
    have := depth_mem hmem
    omega
  · have hk : ∀ b o, s.heap.get? b = some o → (PyProof.Rows.sortedAll s.heap its out.toArray).get? b = some o := fun b o e => PyProof.Rows.sortedAll_old e
    obtain ⟨ec, hc⟩ := PyProof.Rows.sortedAll_at s.heap its out.toArray
    have hv : Vals (((vs.zip l).mergeSort (PySem.W.dataLe false (·.2))).map (·.1)) out := vals_each eo
    have np : H (s.heap.objs.size + 1) = none := I.hok.fresh (Nat.le_succ _)
    have new : ObjOk X.prog X.w (upd H (s.heap.objs.size + 1) (.lst (((vs.zip l).mergeSort (PySem.W.dataLe false (·.2))).map (·.1)))) (PyProof.Rows.sortedAll s.heap its out.toArray) (s.heap.objs.size + 1) (.lst (((vs.zip l).mergeSort (PySem.W.dataLe false (·.2))).map (·.1))) := by
      refine ⟨?_, out, ec, hv, hc⟩
      rw [List.length_map, List.length_mergeSort, List.length_zip, dpa_len hd, Nat.min_self]; exact lim_line hlim
    refine ⟨.ref (s.heap.objs.size + 1), _, I.laid (t' := s.toks) hk (Nat.le_succ _) new, rfl, q _ _ np ?_⟩
    have hs : ((vs.zip l).mergeSort (PySem.W.dataLe false (·.2))).map (·.2) = isort dle l := by
      rw [isort_merge]
      conv => rhs; rw [← hm]
      exact PySem.W.sort_maps (fun p : V × D => p.2) fun a _ b _ => rfl
    rw [← hs]
    exact dpa_of_each _ fun p hp => each_of_dpa hd p ((List.mergeSort_perm _ _).mem_iff.mp hp)
theorem chars_alike (l : List Nat) : PySem.W.AllAlike (chars l) := fun d hd d' hd' => by
  obtain ⟨x, _, rfl⟩ := List.mem_map.mp hd
  obtain ⟨y, _, rfl⟩ := List.mem_map.mp hd'
  rfl
theorem chars_sortable (l : List Nat) : PySem.W.Sortable (chars l) := .inr fun d hd => by
  obtain ⟨x, _, rfl⟩ := List.mem_map.mp hd
  exact ⟨fun e => (by cases e), fun _ e => (by cases e)⟩
theorem signs_each {z : Str} {acc : Array Value} (h : ItemsOf (SignAt z) acc z.cps.size) (h' : Heap) :
    PySem.W.EachIs (fun (v : Value) (b : V × D) => RelV b.1 v) acc.toList ((toL z).map fun k => (V.str ⟨#[k]⟩, dS [k])) ∧ PySem.W.EachIs (fun (v : Value) (b : V × D) => ∃ as, Reads h' v b.2 as) acc.toList ((toL z).map fun k => (V.str ⟨#[k]⟩, dS [k])) := by
  have hl : acc.toList.length = ((toL z).map fun k => (V.str ⟨#[k]⟩, dS [k])).length := by
    rw [List.length_map, Array.length_toList, h.1]; rfl
  have key : ∀ p ∈ acc.toList.zip ((toL z).map fun k => (V.str ⟨#[k]⟩, dS [k])), ∃ k t, p = (Value.str ⟨#[k]⟩ t, (V.str ⟨#[k]⟩, dS [k])) := fun p hp => by
    obtain ⟨i, hi⟩ := List.getElem?_of_mem hp
    rw [List.getElem?_zip_eq_some] at hi
    obtain ⟨h1, h2⟩ := hi
    rw [Array.getElem?_toList] at h1
    obtain ⟨k, t, hk, hv⟩ := h.2 i _ h1
    rw [List.getElem?_map] at h2
    have hk' : (toL z)[i]? = some k := by unfold toL; rw [Array.getElem?_toList]; exact hk
    rw [hk'] at h2
    refine ⟨k, t, ?_⟩
    obtain ⟨p1, p2⟩ := p
    simp only at hv h2
    rw [hv]
    simp only [Option.map_some, Option.some.injEq] at h2
    rw [← h2]
  refine ⟨PySem.W.EachIs.of_zip hl fun p hp => ?_, PySem.W.EachIs.of_zip hl fun p hp => ?_⟩
  · obtain ⟨k, t, rfl⟩ := key p hp
    exact ⟨t, rfl⟩
  · obtain ⟨k, t, rfl⟩ := key p hp
    exact ⟨_, Reads.str _ _⟩
theorem laid_s {pins : List (Addr × Obj)} {σ : St} {H : Hp} {s s' : Shared} {p : Addr} {ob : HO} (I : Inv X pins σ H s) (k : ∀ b u, s.heap.get? b = some u → s'.heap.get? b = some u) (hp : s.heap.get? p = none) (hn : H p = none) (g : s'.gens = s.gens) (o : s'.os = s.os)
    (new : ObjOk X.prog X.w (upd H p ob) s'.heap p ob) : Inv X pins σ (upd H p ob) s' := by
  have J : Inv X pins σ (upd H p ob) { s with heap := s'.heap, gens := s'.gens, drawn := s'.drawn, toks := s'.toks } :=
    I.call (ch := []) (Un.laidN k hp hn) (I.hok.laidN k hn new) (by rw [g]; exact I.bare) (fun _ z => nomatch z)
  have e : s' = { s with heap := s'.heap, gens := s'.gens, drawn := s'.drawn, toks := s'.toks } := by
    cases s'
    cases s
    cases o
    rfl
  rw [e]
  exact J
def rSortedS (K : PySem.W.Frag) : List V → Hp → VK → Prop := fun xs H Q => ∃ F z, xs = [.str z] ∧ Same F H ∧ z.length ≤ lim ∧ ∀ p us, H p = none → DpAll K F us (isort dle (chars (toL z))) → Q (.ref p) (upd H p (.lst us))
theorem cr_sortedS' (hc : X.calm = true) (hu : X.A.units + 64 < cLine) : CallR X (.builtin "sorted") (rSortedS X.K) := by
  intro pins s σ H xs us Q I rr h
  obtain ⟨F, z, rfl, sm, hl, q⟩ := h
  obtain ⟨u, rfl, rx⟩ := vals1 rr
  obtain ⟨t, rfl⟩ := rx
  have hh : X.A.handled = none := I.ok.hd hc
  have hzl : z.cps.size ≤ sizeLine := lim_line hl
  refine PySem.Calls.call_function_entry PyProof.Rows.kind_sorted PyProof.Rows.plain_sorted PyProof.Rows.entry_sorted (PyProof.Rows.args_sorted1 _) ?_
  unfold Builtin.«sorted»
  refine wpAny_bind (m := checkCount "sorted" 1 1 _) (wpAny_pure ?_)
  refine wpAny_bind (wpAny_collect_str (A := X.A.in1) hh z t (fun s1 acc k1 g1 d1 o1 hacc => ?_) hzl)
  have hal : acc.toList.length = z.length := by rw [Array.length_toList, hacc.1]; rfl
  refine wpAny_bind (wpAny_newList ?_ (by rw [hal]; exact lim_line hl))
  have hoL : (s1.heap.push (PyProof.Rows.seqObj "list" acc.toList.toArray 0)).get? s1.heap.objs.size = some (PyProof.Rows.seqObj "list" acc.toList.toArray 0) := Heap.get?_push_size _ rfl
  have sg := signs_each hacc (PySem.W.sortingHeap (s1.heap.push (PyProof.Rows.seqObj "list" acc.toList.toArray 0)) s1.heap.objs.size acc.toList)
  have hm : ((toL z).map fun k => (V.str ⟨#[k]⟩, dS [k])).map (·.2) = chars (toL z) := by
    rw [List.map_map]; rfl
  have hbl : ((toL z).map fun k => (V.str ⟨#[k]⟩, dS [k])).length = z.length := by rw [List.length_map]; rfl
  have hal' : PySem.W.AllAlike (((toL z).map fun k => (V.str ⟨#[k]⟩, dS [k])).map (·.2)) := by rw [hm]; exact chars_alike _
  refine wpAny_bind (wpAny_holding (wpAny_call_entry PyProof.Rows.slot_list_sort ⟨_, hoL, rfl⟩ PyProof.Rows.entry_list_sort (PySem.W.list_sort_vals (κ := PySem.W.dataKind (PySem.W.sortingHeap (s1.heap.push (PyProof.Rows.seqObj "list" acc.toList.toArray 0)) s1.heap.objs.size acc.toList) (((toL z).map fun k => (V.str ⟨#[k]⟩, dS [k])).map (·.2))) hoL (PySem.W.SortsAt.data (PySem.W.each_map (R := fun v d => ∃ as, Reads (PySem.W.sortingHeap (s1.heap.push (PyProof.Rows.seqObj "list" acc.toList.toArray 0)) s1.heap.objs.size acc.toList) v d as) (fun p : V × D => p.2) sg.2) hal' (by rw [hm]; exact chars_sortable _) ?_) (by rw [hal]; exact lim_line hl) ⟨.none, rfl, ?_⟩) (PyProof.Rows.args_list_sort _)))
  · intro d hd
    rw [hm] at hd
    obtain ⟨k, _, rfl⟩ := List.mem_map.mp hd
    show _ + (PyData.str _).depth < _
    simp only [PyData.depth]
    omega
  · have eo := PySem.W.sortVals_data false sg.1 sg.2 hal'
    generalize PySem.W.sortVals _ false acc.toList acc.toList = out at eo
    obtain ⟨c, hc'⟩ := PyProof.Rows.sortedHeap_at (vs := acc.toList) (out := out.toArray) hoL
    have hv := vals_each eo
    have hn0 : s.heap.get? s1.heap.objs.size = none := by
      cases e : s.heap.get? s1.heap.objs.size with
      | none => rfl
      | some o => exact absurd (Heap.lt_size (k1 _ _ e)) (Nat.lt_irrefl _)
    have hH : H s1.heap.objs.size = none := (I.hok.kept k1).fresh (Nat.le_refl _)
    refine wpAny_pure ⟨_, rfl, .ref s1.heap.objs.size, _, laid_s (p := s1.heap.objs.size) (ob := .lst _) I (fun b u e => ?_) hn0 hH g1 o1 ⟨?_, out, c, hv, hc'⟩, rfl, q _ _ hH ?_⟩
    · have q := k1 b u e
      have hlt := Heap.lt_size q
      show (PyProof.Rows.sortedHeap (s1.heap.push (PyProof.Rows.seqObj "list" acc.toList.toArray 0)) s1.heap.objs.size acc.toList out.toArray).get? b = some u
      rw [PyProof.Rows.sortedHeap_old (Nat.ne_of_lt hlt) (by rw [PyProof.Rows.size_push']; exact Nat.lt_succ_of_lt hlt)]
      exact Heap.get?_push_of_some _ q
    · rw [List.length_map, List.length_mergeSort, hbl]; exact lim_line hl
    · have hs : (((toL z).map fun k => (V.str ⟨#[k]⟩, dS [k])).mergeSort (PySem.W.dataLe false (·.2))).map (·.2) = isort dle (chars (toL z)) := by
        rw [isort_merge]
        conv => rhs; rw [← hm]
        exact PySem.W.sort_maps (fun p : V × D => p.2) fun a _ b _ => rfl
      rw [← hs]
      refine dpa_of_each _ fun p hp => ?_
      obtain ⟨k, _, rfl⟩ := List.mem_map.mp ((List.mergeSort_perm _ _).mem_iff.mp hp)
      exact Dp.str _
end
end Bm
end
section
set_option Elab.async false
set_option linter.all false
set_option maxRecDepth 100000
set_option maxHeartbeats 1000000
namespace Bm
open PySem PySem.Spec L2
variable {X : Cx} {c : Cfg} {e : Expr} {a : E} {pos : Pos}
theorem CallR.or2 {f : Value} {r1 r2 : List V → Hp → VK → Prop} (h1 : CallR X f r1) (h2 : CallR X f r2) : CallR X f (fun xs H Q => r1 xs H Q ∨ r2 xs H Q) := by
  intro pins s σ H xs us Q I rr h
  rcases h with h | h
  · exact h1 pins s σ H xs us Q I rr h
  · exact h2 pins s σ H xs us Q I rr h
theorem os_sorted {K : PySem.W.Frag} : OpS K .sorted (fun xs H Q => rSorted K xs H Q ∨ rSortedS K xs H Q) := by
  intro ds d vs F H Q s q e w
  simp only [opD] at e; unfold dop_sorted at e
  split at e
  · obtain ⟨hl, e⟩ := guardO_some e
    cases e
    simp only [Bool.and_eq_true, decide_eq_true_eq] at hl
    match q with
    | .cons q1 .nil =>
      obtain ⟨p, xs, rfl, h1, h2⟩ := dn_list q1
      exact .inl ⟨F, p, xs, _, rfl, s, h1, h2, hl.1.1.1, hl.1.1.2, hl.1.2, hl.2, fun p us np hd => Wish.lst w s np hd⟩
  · obtain ⟨hl, e⟩ := guardO_some e
    cases e
    match q with
    | .cons q1 .nil =>
      have h1 := dn_str q1; subst h1
      rw [decide_eq_true_eq, len_toL] at hl
      exact .inr ⟨F, _, rfl, s, hl, fun p us np hd => Wish.lst w s np hd⟩
  · cases e
theorem sv_sorted {p : Pos} (hc : X.calm = true) (hu : X.A.units + 64 < cLine) (hg : Gl X "sorted") (hm : X.mg "sorted" = none) (ha : PE X e (TEv X.K c a)) (he : starEach [e] X.env = (false, eval e X.env) :: starEach [] X.env := by rfl) : PE X (.Call (.Name "sorted" p) [e] [] pos) (TEv X.K c (.op .sorted (.cons a .nil))) :=
  sv_callB os_sorted (CallR.or2 (cr_sortedD hu) (cr_sortedS' hc hu)) hg hm boot_sorted' (sa_cons ha sa_nil he) (by decide) (by decide) he rfl
def rMin (K : PySem.W.Frag) : List V → Hp → VK → Prop := fun xs H Q => ∃ F a vs x r, xs = [.ref a] ∧ Same F H ∧ F a = some (.lst vs) ∧ DpAll K F vs (x :: r) ∧ allAlike (x :: r) = true ∧ (x :: r).all notNone = true ∧ PyData.depthAll (x :: r) ≤ 60 ∧
  ∀ v, Dp K F v (PySem.W.minD x r) → Q v H
theorem reads_all {F H : Hp} {pins : List (Addr × Obj)} {σ : St} {s : Shared} (I : Inv X pins σ H s) (sm : Same F H) : ∀ {vs : List V} {ds : List D} {us : List Value}, DpAll X.K F vs ds → Vals vs us → ∃ as, ReadsAll s.heap us ds as
  | _, _, _, .nil, .nil => ⟨_, .nil⟩
  | _, _, _, .cons h1 h2, .cons r1 r2 => by
    obtain ⟨as, h⟩ := reads_all I sm h2 r2
    obtain ⟨bs, h'⟩ := L2.Dp.reads I _ _ _ (Dp.l2 sm _ _ h1) r1
    exact ⟨_, .cons h' h⟩
theorem at_all {F : Hp} {K : PySem.W.Frag} : ∀ {vs : List V} {ds : List D} {us : List Value}, DpAll K F vs ds → Vals vs us → ∀ (i : Nat) u, us[i]? = some u → ∃ v d, Dp K F v d ∧ RelV v u ∧ ds[i]? = some d
  | _, _, _, .nil, .nil, i, u, h => by simp at h
  | _, _, _, .cons h1 h2, .cons r1 r2, i, u, h => by
    cases i with
    | zero => simp at h; subst h; exact ⟨_, _, h1, r1, rfl⟩
    | succ i => simp at h; simpa using at_all h2 r2 i u h
theorem cr_min (hc : X.calm = true) (hu : X.A.units + 64 < cLine) : CallR X (.builtin "min") (rMin X.K) := by
  intro pins s σ H xs us Q I rr h
  obtain ⟨F, a, vs, x, r, rfl, sm, ha, hd, al, nn, dp, q⟩ := h
  obtain ⟨u, rfl, rx⟩ := vals1 rr
  cases rx
  obtain ⟨its, rv, pl, hz⟩ := I.list (SqL.of (sm _ _ ha))
  obtain ⟨as, hr⟩ := reads_all I sm hd rv
  refine PySem.W.min_list_data (I.ok.hd hc) pl.isList (by simpa using hr) ⟨allAlike_mem al, fun y hy e => ?_⟩ (by omega) fun i v h' tk bs hv hrd hk => ?_
  · have := List.all_eq_true.mp nn y hy
    rw [e] at this; cases this
  · obtain ⟨v', d, h1, h2, h3⟩ := at_all hd rv i v (by simpa using hv)
    have I' : Inv X pins σ H { s with heap := h', toks := tk } := I.kept hk
    obtain ⟨cs, h4⟩ := L2.Dp.reads I' _ _ _ (Dp.l2 sm _ _ h1) h2
    have := (Reads.unique hrd _ _ h4).1
    exact ⟨v', H, I', h2, q _ (this ▸ h1)⟩
theorem dn_dp {K : PySem.W.Frag} {F : Hp} {v : V} {d : D} (h : Dp K F v d) : Dn K F v d := by
  cases d with
  | dict kvs => cases h
  | _ => exact h
theorem os_min1 {K : PySem.W.Frag} : OpS K .min1 (rMin K) := by
  intro ds d vs F H Q s q e w
  simp only [opD] at e; unfold dop_min1 at e
  split at e
  · obtain ⟨hl, e⟩ := guardO_some e
    cases e
    simp only [Bool.and_eq_true, decide_eq_true_eq] at hl
    match q with
    | .cons q1 .nil =>
      obtain ⟨p, xs, rfl, h1, h2⟩ := dn_list q1
      exact ⟨F, p, xs, _, _, rfl, s, h1, h2, hl.1.1, hl.1.2, hl.2, fun v hd => Wish.here w s (dn_dp hd)⟩
  · cases e
theorem sv_min1 {p : Pos} (hc : X.calm = true) (hu : X.A.units + 64 < cLine) (hg : Gl X "min") (hm : X.mg "min" = none) (ha : PE X e (TEv X.K c a)) (he : starEach [e] X.env = (false, eval e X.env) :: starEach [] X.env := by rfl) : PE X (.Call (.Name "min" p) [e] [] pos) (TEv X.K c (.op .min1 (.cons a .nil))) :=
  sv_callB os_min1 (cr_min hc hu) hg hm boot_min' (sa_cons ha sa_nil he) (by decide) (by decide) he rfl
end Bm
end
section
set_option Elab.async false
set_option linter.all false
set_option maxRecDepth 100000
set_option maxHeartbeats 1000000
namespace Bm
open PySem PySem.Spec L2
theorem getS_app {a b : Env} (i : Nat) : getS (a ++ b) i = if i < a.length then getS a i else getS b (i - a.length) := by
  unfold getS
  rw [List.getD_eq_getElem?_getD, List.getElem?_append]
  by_cases h : i < a.length
  · rw [if_pos h, if_pos h, List.getD_eq_getElem?_getD]
  · rw [if_neg h, if_neg h, List.getD_eq_getElem?_getD]
theorem getS_rep (n i : Nat) : getS (List.replicate n .un) i = .un := by
  unfold getS
  rw [List.getD_eq_getElem?_getD, List.getElem?_replicate]
  by_cases h : i < n
  · rw [if_pos h]; rfl
  · rw [if_neg h]; rfl
theorem vAt_app {a b : St} (i : Nat) : vAt (a ++ b) i = if i < a.length then vAt a i else vAt b (i - a.length) := by
  unfold vAt
  rw [List.getElem?_append]
  by_cases h : i < a.length
  · rw [if_pos h, if_pos h]
  · rw [if_neg h, if_neg h]
theorem ok_args {K : PySem.W.Frag} {F H : Hp} : ∀ {vs : List V} {ds : List D}, DnAll K F vs ds → ∀ i, SlotOk K F H (getS (ds.map .sh) i) (vAt (vs.map some) i) ∧ isOwn (getS (ds.map Slot.sh) i) = false
  | _, _, .nil, i => by
    have : getS (([] : List D).map Slot.sh) i = .un := by simp [getS]
    rw [this]
    exact ⟨trivial, rfl⟩
  | _, _, .cons h t, 0 => ⟨⟨_, rfl, h⟩, rfl⟩
  | _, _, .cons h t, i + 1 => by
    have := ok_args (H := H) t i
    simpa [getS, vAt] using this
theorem dna_len {K : PySem.W.Frag} {F : Hp} : ∀ {vs : List V} {ds : List D}, DnAll K F vs ds → vs.length = ds.length
  | _, _, .nil => rfl
  | _, _, .cons _ t => by simp [dna_len t]
def entC (H F : Hp) (O : Addr → Prop) (P : Nat → Option V → Prop) : Ent := ⟨H, F, O, P⟩
theorem start_ok {K : PySem.W.Frag} {c : Cfg} {F H : Hp} {vs : List V} {ds : List D} {N : List Str} {ns np : Nat} (s : Same F H) (j : c.J H) (q : DnAll K F vs ds) (hns : ns = N.length) (hnp : ds.length = np) (hle : np ≤ ns) (hW : c.W = entC H F (fun _ => False) (fun _ _ => True)) :
    Stt K c (ds.map .sh ++ List.replicate (ns - np) .un) (L2.start N vs) H F := by
  have hl := dna_len q
  have no : ∀ i, isOwn (getS (ds.map .sh ++ List.replicate (ns - np) .un) i) = false := fun i => by
    rw [getS_app]
    by_cases h : i < (ds.map Slot.sh).length
    · rw [if_pos h]; exact (ok_args (H := H) q i).2
    · rw [if_neg h, getS_rep]; rfl
  refine ⟨⟨?_, s, fun i => ?_, fun i k a p _ => ?_⟩, j, fun b o h n => ?_, fun b h => ?_, fun _ => ?_⟩
  · unfold L2.start; simp only [List.length_append, List.length_map, List.length_replicate]; omega
  · unfold L2.start
    rw [getS_app, vAt_app, List.length_map, List.length_map, hl]
    by_cases h : i < ds.length
    · rw [if_pos h, if_pos h]; exact (ok_args q i).1
    · rw [if_neg h, if_neg h, getS_rep]; trivial
  · have := p.1; rw [no] at this; cases this
  · rw [hW] at h ⊢; exact ⟨rfl, .inl h⟩
  · obtain ⟨i, p, _⟩ := h; rw [no] at p; cases p
  · rw [hW]; trivial
theorem kp_grow {F H F' H' : Hp} {P : Nat → Option V → Prop} (s : Same F' H') (k : Kp (entC H F (fun _ => False) P) F' H') : Grow F H F' H' := ⟨s, fun b o h => k b o h fun z => z⟩
section
variable {P : Program} {w : World} {K : PySem.W.Frag} {mg : Str → Option Value} {base : Heap} {J : Hp → Prop} {hJ : ∀ H H' : Hp, (∀ b o, H b = some o → H' b = some o ∨ isMut o) → J H → J H'} {cl : Nat → Value} {T : Nat → Option FDef}
/-- a def that may raise: its body's term and what it reads -/
theorem okN {P : Program} {w : World} {K : PySem.W.Frag} {mg : Str → Option Value} {base : Heap} {x qual : Str} {st : Stmt} {f : Addr} {fd : FuncData} {N ps : List Str} {k : Nat} {sp : Sp} (F : Fun K x qual st f fd) (S : FnScope N ps (defScope st)) (len : ∀ vs H Q E, sp vs H Q E → vs.length = ps.length)
    (hb : ∀ (cdv : Value) (A : Around) (outer : List PySem.Env) (s : Shared) (H : Hp) (vs : List V) (Q : VK) (E : XK), fd.code = cdv → Room k (A.deeper (PyProof.Rows.envOfC qual (defScope st) s.heap.objs.size f cdv)) → sp vs H Q E →
      ∃ t, PSs (cxOf (L2N.CX P w) P w K mg base N qual (defScope st) f cdv A outer s H E) (defBody st) t ∧ t { nx := fun _ H' => Q .non H', rt := Q } (L2.start N vs) H) : FnOk P w K mg base (L2N.CX P w) (k + 1) f fd ps sp := by
  obtain ⟨oc, od, kV, doc, pm, an, cdv, ct, osl, rfl, lk, hcd⟩ := F.ex
  exact fn_of lk hcd S len fun A outer s H vs Q E hr q => hb cdv A outer s H vs Q E rfl hr q
/-- the configuration in a def's body -/
def cfg (J : Hp → Prop) (hJ : ∀ H H' : Hp, (∀ b o, H b = some o → H' b = some o ∨ isMut o) → J H → J H') (cl : Nat → Value) (call : CallS) (W : Ent) (E : XK) : Cfg := ⟨J, hJ, W, call, E, cl⟩
theorem def_ok {n f : Nat} {fd : FDef} {x qual : Str} {st : Stmt} {fa : Addr} {fdat : FuncData} {N ps : List Str} (hT : T f = some fd) (hio : fd.io = false) (F : Fun K x qual st fa fdat) (S : FnScope N ps (defScope st)) (hnp : fd.np = ps.length) (hns : fd.ns = N.length) (hle : fd.np ≤ fd.ns)
    (hb : L2.Binds K fdat ps []) (hmg : mg x = some (.ref fa))
    (der : ∀ (W : Ent) (E : XK) (cdv : Value) (A : Around) (outer : List PySem.Env) (s : Shared) (H : Hp), Free W [] → Room (n + 1) (A.deeper (PyProof.Rows.envOfC qual (defScope st) s.heap.objs.size fa cdv)) →
      PSs (cxOf (L2N.CX P w) P w K mg base N qual (defScope st) fa cdv A outer s H E) (defBody st) (TSv K (cfg J hJ cl (run T n) W E) fd.body)) :
    FnAt P w K mg base (n + 2) x (spF K J cl (run T (n + 1) f none)) := by
  refine ⟨fa, fdat, ps, hmg, F.kp, hb, okN F S (fun vs H Q E h => ?_) fun cdv A outer s H vs Q E _ hr h => ?_⟩
  · obtain ⟨F, ds, _, _, q, h⟩ := h
    simp only [run, hT, entry] at h
    by_cases hl : ds.length = fd.np
    · rw [dna_len q, hl, hnp]
    · rw [if_neg (fun z => hl z.2)] at h; exact h.elim
  · obtain ⟨F, ds, sm, j, q, h⟩ := h
    refine ⟨_, der (entC H F (fun _ => False) (fun _ _ => True)) E cdv A outer s H (fun _ _ _ => trivial) hr, ?_⟩
    simp only [run, hT, entry] at h
    by_cases hl : ds.length = fd.np
    · rw [if_pos ⟨hio, hl⟩] at h
      refine ⟨F, _, start_ok (N := N) (ns := fd.ns) (np := fd.np) sm j q hns hl hle rfl, ?_⟩
      cases ed : denS (run T n) fd.body (ds.map .sh ++ List.replicate (fd.ns - fd.np) .un) with
      | nxt r =>
        simp only [ed, endOf] at h
        show OkS K _ F (denS (run T n) fd.body _) _
        rw [ed]
        exact fun σ' H' F' x' _ => h .non F' H' (kp_grow x'.rel.same x'.kp) x'.tie Dp.non
      | ret d r =>
        simp only [ed, endOf] at h
        show OkS K _ F (denS (run T n) fd.body _) _
        rw [ed]
        exact fun v σ' H' F' x' _ q' => h v F' H' (kp_grow x'.rel.same x'.kp) x'.tie q'
      | exc k =>
        simp only [ed, endOf] at h
        show OkS K _ F (denS (run T n) fd.body _) _
        rw [ed]
        exact fun F' H' j' sm' kp' => h F' H' (kp_grow sm' kp') j'
      | stuck =>
        simp only [ed, endOf] at h
    · rw [if_neg (fun z => hl z.2)] at h; exact h.elim
/-- .. of a def that changes its first list -/
theorem def_io {n f : Nat} {fd : FDef} {x qual : Str} {st : Stmt} {fa : Addr} {fdat : FuncData} {N ps : List Str} (hT : T f = some fd) (hio : fd.io = true) (F : Fun K x qual st fa fdat) (S : FnScope N ps (defScope st)) (hnp : fd.np = ps.length) (hns : fd.ns = N.length) (hle : fd.np ≤ fd.ns ∧ fd.np ≤ 100)
    (hb : L2.Binds K fdat ps []) (hmg : mg x = some (.ref fa))
    (der : ∀ (W : Ent) (E : XK) (cdv : Value) (A : Around) (outer : List PySem.Env) (s : Shared) (H : Hp), Free W [0] → Room (n + 1) (A.deeper (PyProof.Rows.envOfC qual (defScope st) s.heap.objs.size fa cdv)) →
      PSs (cxOf (L2N.CX P w) P w K mg base N qual (defScope st) fa cdv A outer s H E) (defBody st) (TSv K (cfg J hJ cl (run T n) W E) fd.body)) :
    FnAt P w K mg base (n + 2) x (spIO K J fun m => run T (n + 1) f (some m)) := by
  refine ⟨fa, fdat, ps, hmg, F.kp, hb, okN F S (fun vs H Q E h => ?_) fun cdv A outer s H vs Q E _ hr h => ?_⟩
  · obtain ⟨F, a, us, ws, m, ds, rfl, _, _, _, _, _, q, h⟩ := h
    simp only [run, hT, entry] at h
    by_cases hl : ds.length + 1 = fd.np
    · rw [List.length_cons, dna_len q, hl, hnp]
    · rw [if_neg (fun z => hl z.2), if_neg (fun z => absurd z.2 (by omega)), if_neg (fun z => absurd z.2 (by omega)), if_neg (fun z => absurd z.2 (by omega))] at h; exact h.elim
  · obtain ⟨F, a, us, ws, m, ds, rfl, sm, j, fa0, ha, hd, q, h⟩ := h
    refine ⟨_, der (entC H F (fun b => b = a) (fun i o => i = 0 → o = some (.ref a))) E cdv A outer s H (fun i hi o z => absurd (by rw [z]; exact List.mem_cons_self) hi) hr, ?_⟩
    simp only [run, hT, entry] at h
    by_cases hl : ds.length + 1 = fd.np
    · rw [if_pos ⟨hio, hl⟩] at h
      have hlu := dna_len q
      have own0 : ∀ i b, OwnAt (.own m :: (ds.map .sh ++ List.replicate (fd.ns - fd.np) .un)) (L2.start N (.ref a :: us)) i b → i = 0 ∧ b = a := fun i b ⟨h1, h2⟩ => by
        cases i with
        | zero =>
          refine ⟨rfl, ?_⟩
          have : vAt (L2.start N (.ref a :: us)) 0 = some (.ref a) := rfl
          rw [this] at h2; cases h2; rfl
        | succ i =>
          have e : getS (.own m :: (ds.map .sh ++ List.replicate (fd.ns - fd.np) .un)) (i + 1) = getS (ds.map .sh ++ List.replicate (fd.ns - fd.np) .un) i := by simp [getS]
          rw [e, getS_app] at h1
          by_cases hi : i < (ds.map Slot.sh).length
          · rw [if_pos hi, (ok_args (H := H) q i).2] at h1; cases h1
          · rw [if_neg hi, getS_rep] at h1; cases h1
      have x0 : Stt K (cfg J hJ cl (run T n) (entC H F (fun b => b = a) (fun i o => i = 0 → o = some (.ref a))) E) (.own m :: (ds.map .sh ++ List.replicate (fd.ns - fd.np) .un)) (L2.start N (.ref a :: us)) H F := by
        refine ⟨⟨?_, sm, fun i => ?_, fun i k b p p' => ?_⟩, j, fun b o h n => ⟨rfl, .inl h⟩, fun b ⟨i, p⟩ => .inl (own0 i b p).2, fun i hi => ?_⟩
        · unfold L2.start
          simp only [List.length_cons, List.length_append, List.length_map, List.length_replicate]
          omega
        · cases i with
          | zero => exact ⟨a, ws, rfl, fa0, ha, hd⟩
          | succ i =>
            have e1 : getS (.own m :: (ds.map .sh ++ List.replicate (fd.ns - fd.np) .un)) (i + 1) = getS (ds.map .sh ++ List.replicate (fd.ns - fd.np) .un) i := by simp [getS]
            have e2 : vAt (L2.start N (.ref a :: us)) (i + 1) = vAt (us.map some ++ List.replicate (N.length - (us.length + 1)) none) i := by
              unfold L2.start vAt; simp
            rw [e1, e2, getS_app, vAt_app, List.length_map, List.length_map, hlu]
            by_cases hi : i < ds.length
            · rw [if_pos hi, if_pos hi]; exact (ok_args q i).1
            · rw [if_neg hi, if_neg hi, getS_rep]; trivial
        · rw [(own0 i b p).1, (own0 k b p').1]
        · subst hi; rfl
      refine ⟨F, _, x0, ?_⟩
      show OkS K _ F (denS (run T n) fd.body _) _
      have fin : ∀ {r : Env} {σ' : St} {H' F' : Hp} {m' : List D}, Stt K (cfg J hJ cl (run T n) (entC H F (fun b => b = a) (fun i o => i = 0 → o = some (.ref a))) E) r σ' H' F' → getS r 0 = .own m' →
          (∀ b o, b ≠ a → H b = some o → F' b = F b ∧ KO o (H' b)) ∧ F' a = none ∧ ∃ ws', H' a = some (.lst ws') ∧ DpAll K F' ws' m' := fun {r σ' H' F' m'} x' e => by
        have z := x'.rel.ok 0
        rw [e] at z
        obtain ⟨a', ws', z1, z2, z3, z4⟩ := z
        have : a' = a := by
          have e0 : vAt σ' 0 = some (.ref a) := x'.pin 0 rfl
          rw [z1] at e0; cases e0; rfl
        subst this
        exact ⟨fun b o hb h => x'.kp b o h hb, z2, ws', z3, z4⟩
      cases ed : denS (run T n) fd.body (.own m :: (ds.map .sh ++ List.replicate (fd.ns - fd.np) .un)) with
      | nxt r =>
        simp only [List.cons_append, ed, endOf, behind] at h
        cases eg : getS r 0 with
        | own m' =>
          simp only [eg] at h
          intro σ' H' F' x' _
          obtain ⟨k1, k2, ws', k3, k4⟩ := fin x' eg
          exact h .non F' H' ws' x'.rel.same k1 k2 k3 k4 x'.tie Dp.non
        | un => simp only [eg] at h
        | sh d => simp only [eg] at h
        | dicT d => simp only [eg] at h
        | dicK d => simp only [eg] at h
        | ins d => simp only [eg] at h
        | lck d => simp only [eg] at h
        | exs d => simp only [eg] at h
      | ret d r =>
        simp only [List.cons_append, ed, endOf, behind] at h
        cases eg : getS r 0 with
        | own m' =>
          simp only [eg] at h
          intro v σ' H' F' x' _ q'
          obtain ⟨k1, k2, ws', k3, k4⟩ := fin x' eg
          exact h v F' H' ws' x'.rel.same k1 k2 k3 k4 x'.tie q'
        | un => simp only [eg] at h
        | sh d => simp only [eg] at h
        | dicT d => simp only [eg] at h
        | dicK d => simp only [eg] at h
        | ins d => simp only [eg] at h
        | lck d => simp only [eg] at h
        | exs d => simp only [eg] at h
      | exc k => simp only [List.cons_append, ed, endOf, behind] at h
      | stuck => simp only [List.cons_append, ed, endOf, behind] at h
    · rw [if_neg (fun z => hl z.2), if_neg (fun z => absurd z.2 (by omega)), if_neg (fun z => absurd z.2 (by omega)), if_neg (fun z => absurd z.2 (by omega))] at h; exact h.elim
/-- with no fuel -/
theorem def_ok0 {f : Nat} {x qual : Str} {st : Stmt} {fa : Addr} {fdat : FuncData} {N ps : List Str} (F : Fun K x qual st fa fdat) (S : FnScope N ps (defScope st)) (hb : L2.Binds K fdat ps []) (hmg : mg x = some (.ref fa)) :
    FnAt P w K mg base 1 x (spF K J cl (run T 0 f none)) :=
  ⟨fa, fdat, ps, hmg, F.kp, hb, okN F S (fun vs H Q E h => by obtain ⟨F, ds, _, _, q, h⟩ := h; exact h.elim) fun cdv A outer s H vs Q E _ hr h => by obtain ⟨F, ds, _, _, q, h⟩ := h; exact h.elim⟩
theorem def_io0 {f : Nat} {x qual : Str} {st : Stmt} {fa : Addr} {fdat : FuncData} {N ps : List Str} (F : Fun K x qual st fa fdat) (S : FnScope N ps (defScope st)) (hb : L2.Binds K fdat ps []) (hmg : mg x = some (.ref fa)) :
    FnAt P w K mg base 1 x (spIO K J fun m => run T 0 f (some m)) :=
  ⟨fa, fdat, ps, hmg, F.kp, hb, okN F S (fun vs H Q E h => by obtain ⟨F, a, us, ws, m, ds, rfl, _, _, _, _, _, q, h⟩ := h; exact h.elim) fun cdv A outer s H vs Q E _ hr h => by obtain ⟨F, a, us, ws, m, ds, rfl, _, _, _, _, _, q, h⟩ := h; exact h.elim⟩
end
end Bm
end
section
set_option Elab.async false
set_option linter.all false
set_option maxRecDepth 100000
set_option maxHeartbeats 1000000
namespace Bm
open PySem PySem.Spec L2
section
variable {X : Cx} {c : Cfg} {e e1 e2 : Expr} {es : List Expr} {a b m : E} {pos apos cpos : Pos}
theorem sv_strL {i : Str} {l : List Nat} {j} (h : i = st l := by decide +kernel) : PE X (.Constant (.str i) j pos) (TEv X.K c (.lit (dS l))) := by subst h; exact sv_str
theorem sv_gstrL {x : Str} {z : Str} {l : List Nat} {t : Tok} (hg : Gl X x) (hm : X.mg x = some (.str z t)) (h : z = st l := by decide +kernel) (hd : (x == ("__debug__" : Str)) = false := by decide) : PE X (.Name x pos) (TEv X.K c (.lit (dS l))) := by subst h; exact sv_gstr hg hm hd
theorem sv_find (ho : PE X e1 (TEv X.K c a)) (ha : PE X e (TEv X.K c b)) (hline : (apos.endLine == cpos.line) = true := by rfl) (hbase : attributeBase e1 "find" X.env (eval e1 X.env) = eval e1 X.env := by rfl) (he : starEach [e] X.env = (false, eval e X.env) :: starEach [] X.env := by rfl) :
    PE X (.Call (.Attribute e1 "find" apos) [e] [] cpos) (TEv X.K c (.meth .find a (.cons b .nil))) := sv_meth PySem.F.slot_str_find PySem.F.type_str_find mt_find rr_find ho (sa_cons ha sa_nil he) hbase (by rw [he]; rfl) hline he rfl
theorem sv_find2 {b2 : E} (ho : PE X e1 (TEv X.K c a)) (ha : PE X e (TEv X.K c b)) (ha2 : PE X e2 (TEv X.K c b2)) (hline : (apos.endLine == cpos.line) = true := by rfl) (hbase : attributeBase e1 "find" X.env (eval e1 X.env) = eval e1 X.env := by rfl) (he : starEach [e, e2] X.env = (false, eval e X.env) :: starEach [e2] X.env := by rfl) (he2 : starEach [e2] X.env = (false, eval e2 X.env) :: starEach [] X.env := by rfl) :
    PE X (.Call (.Attribute e1 "find" apos) [e, e2] [] cpos) (TEv X.K c (.meth .find2 a (.cons b (.cons b2 .nil)))) := sv_meth PySem.F.slot_str_find PySem.F.type_str_find mt_find3 rr_find2 ho (sa_cons ha (sa_cons ha2 sa_nil he2) he) hbase (by rw [he, he2]; rfl) hline he (by rw [he2]; rfl)
theorem sv_count (ho : PE X e1 (TEv X.K c a)) (ha : PE X e (TEv X.K c b)) (hline : (apos.endLine == cpos.line) = true := by rfl) (hbase : attributeBase e1 "count" X.env (eval e1 X.env) = eval e1 X.env := by rfl) (he : starEach [e] X.env = (false, eval e X.env) :: starEach [] X.env := by rfl) :
    PE X (.Call (.Attribute e1 "count" apos) [e] [] cpos) (TEv X.K c (.meth .count a (.cons b .nil))) := sv_meth PySem.F.slot_str_count PySem.F.type_str_count mt_count rr_count ho (sa_cons ha sa_nil he) hbase (by rw [he]; rfl) hline he rfl
theorem sv_join (ho : PE X e1 (TEv X.K c a)) (ha : PE X e (TEv X.K c b)) (hline : (apos.endLine == cpos.line) = true := by rfl) (hbase : attributeBase e1 "join" X.env (eval e1 X.env) = eval e1 X.env := by rfl) (he : starEach [e] X.env = (false, eval e X.env) :: starEach [] X.env := by rfl) :
    PE X (.Call (.Attribute e1 "join" apos) [e] [] cpos) (TEv X.K c (.meth .join a (.cons b .nil))) := sv_meth PySem.F.slot_str_join PySem.F.type_str_join mt_join rr_join ho (sa_cons ha sa_nil he) hbase (by rw [he]; rfl) hline he rfl
theorem sv_split (ho : PE X e1 (TEv X.K c a)) (ha : PE X e (TEv X.K c b)) (hline : (apos.endLine == cpos.line) = true := by rfl) (hbase : attributeBase e1 "split" X.env (eval e1 X.env) = eval e1 X.env := by rfl) (he : starEach [e] X.env = (false, eval e X.env) :: starEach [] X.env := by rfl) :
    PE X (.Call (.Attribute e1 "split" apos) [e] [] cpos) (TEv X.K c (.meth .split a (.cons b .nil))) := sv_meth PySem.F.slot_str_split PySem.F.type_str_split mt_split rr_split ho (sa_cons ha sa_nil he) hbase (by rw [he]; rfl) hline he rfl
end
end Bm
end
section
set_option Elab.async false
set_option linter.all false
set_option maxRecDepth 100000
set_option maxHeartbeats 1000000
namespace Bm
open PySem PySem.Spec L2
/-- == of data that may lie in the ground -/
def rEqG (K : PySem.W.Frag) : R2 := fun x y H Q => ∃ d e, L2.Dp K H x d ∧ L2.Dp K H y e ∧ gEq d e d ∧ Q (.bl (PyData.eqv d e)) H
theorem op_eqG {X : Cx} (hu : X.A.units + 64 < cLine) : OpR X (compareOp .Eq) (rEqG X.K) := by
  intro pins s σ H x y v u Q I rx ry h
  obtain ⟨d, e, hd, he, ⟨pd, pe, dd⟩, q⟩ := h
  obtain ⟨as, r1⟩ := L2.Dp.reads I d x v hd rx
  obtain ⟨bs, r2⟩ := L2.Dp.reads I e y u he ry
  exact PySem.SeqAt.eq_plain r1 r2 pd pe (by have := Nat.min_le_left d.depth e.depth; omega) ⟨.bl _, H, I, rfl, q⟩
theorem dpa_ints (K : PySem.W.Frag) (H : Hp) : ∀ ns : List Int, L2.DpAll K H (ns.map V.int) (ns.map PyData.int)
  | [] => .nil
  | n :: r => .cons (.int n) (dpa_ints K H r)
theorem plain_ints : ∀ ns : List Int, PyData.plainAll (ns.map PyData.int) = true
  | [] => rfl
  | n :: r => by simp only [List.map_cons, PyData.plainAll, PyData.plain, plain_ints r, Bool.and_self]
theorem depth_ints : ∀ ns : List Int, PyData.depthAll (ns.map PyData.int) ≤ 1
  | [] => by simp [PyData.depthAll]
  | n :: r => by
    have := depth_ints r
    simp only [List.map_cons, PyData.depthAll, PyData.depth]
    omega
def rModN : R2 := rI (fun _ j => 0 < j) fun i j => .int (i % j)
def rLenV (K : PySem.W.Frag) : List V → Hp → VK → Prop := fun xs H Q => ∃ x n, xs = [x] ∧ LenV K x H n ∧ Q (.int n) H
def tCell (K : PySem.W.Frag) : TS :=
  tSeq (tIfS (tTest (tOp (rEqG K) (tVar 0) (tLst tNil))) (tRet (tOp (rMulA K) (tVar 1) (tC (.int 7919)))) tNext)
    (tRet (tOp (rAddA K) (tOp (rIx K) (tVar 0) (tOp rModN (tVar 1) (tCB (rLenV K) (tCons (tVar 0) tNil)))) (tOp (rMulA K) (tOp (rI CDivW fun i j => .int (i / j)) (tVar 1) (tCB (rLenV K) (tCons (tVar 0) tNil))) (tC (.int 104729)))))
theorem pss_cell {X : Cx} {p1 p2 p3 p4 p5 p6 p7 p8 q1 q2 q3 q4 q5 q6 q7 q8 q9 q10 q11 q12 q13 q14 q15 q16 : Pos} {k0 k1 : Nat} (hu : X.A.units + 64 < cLine) (h0 : X.N[0]? = some ("script" : Str)) (h1 : X.N[1]? = some ("k" : Str)) (v0 : Vis X.env.scope "script") (v1 : Vis X.env.scope "k") (g : Gl X "len") (hm : X.mg "len" = none) :
    PSs X [.If (.Compare (.Name "script" p1) [.Eq] [.List [] p2] p3) [.Return (some (.BinOp (.Name "k" p4) .Mult (.Constant (.int 7919) k0 p5) p6)) p7] [] p8,
      .Return (some (.BinOp (.Subscript (.Name "script" q1) (.BinOp (.Name "k" q2) .Mod (.Call (.Name "len" q3) [.Name "script" q4] [] q5) q6) q7) .Add (.BinOp (.BinOp (.Name "k" q8) .FloorDiv (.Call (.Name "len" q9) [.Name "script" q10] [] q11) q12) .Mult (.Constant (.int 104729) k1 q13) q14) q15)) q16] (tCell X.K) :=
  pss_cons (ps_if (pt_cmpR (op_eqG hu) (pe_var h0 v0) (pe_lst pa_nil) (nomark _)) (pss_one (ps_ret (pe_op op_mulA (pe_var h1 v1) pe_int))) pss_nil)
    (pss_one (ps_ret (pe_op op_addA (pe_ix ix_seq (pe_var h0 v0) (pe_op op_mod (pe_var h1 v1) (pe_callB call_len g hm boot_len' (pa_cons (pe_var h0 v0) pa_nil))) (fun _ _ => rfl)) (pe_op op_mulA (pe_op op_fdivW (pe_var h1 v1) (pe_callB call_len g hm boot_len' (pa_cons (pe_var h0 v0) pa_nil))) pe_int))))
/-- a cell of the script: some whole number; a heap that keeps what stood -/
def spCell (K : PySem.W.Frag) : Sp := fun vs H Q _ => ∃ (a : Addr) (ns : List Int) (k : Int), vs = [.ref a, .int k] ∧ SqL K H a (ns.map V.int) ∧ ns.length ≤ 63 ∧ 0 ≤ k ∧ k ≤ 63 ∧ ∀ (c : Int) (H' : Hp), Same H H' → Q (.int c) H'
theorem cell_run {K : PySem.W.Frag} {vs : List V} {H : Hp} {Q : VK} {E : XK} (h : spCell K vs H Q E) : tCell K { nx := fun _ H' => Q .non H', rt := Q } (L2.start ["script", "k"] vs) H := by
  obtain ⟨a, ns, k, rfl, hS, hl, k0, k1, q⟩ := h
  refine ⟨.ref a, rfl, Nat.zero_le _, fun p hp => ?_⟩
  have sm : Same H (upd H p (.lst [])) := same_upd hp
  have hS' : SqL K (upd H p (.lst [])) a (ns.map V.int) := Same.seq sm hS
  refine ⟨.list (ns.map .int), .list [], .lst hS' (dpa_ints _ _ _), .lst (SqL.of upd_same) .nil, ⟨?_, rfl, ?_⟩, ⟨_, rfl, ?_⟩⟩
  · simp only [PyData.plain]; exact plain_ints ns
  · have := depth_ints ns; simp only [PyData.depth]; omega
  · cases hns : ns with
    | nil =>
      have e : PyData.eqv (.list (([] : List Int).map .int)) (.list []) = true := by decide +kernel
      rw [e, if_pos rfl]
      refine ⟨_, rfl, .inl ⟨k, 7919, rfl, rfl, ?_, ?_⟩⟩
      · exact .inr ⟨by decide, by decide⟩
      · exact q _ _ sm
    | cons n r =>
      have e : PyData.eqv (.list ((n :: r).map .int)) (.list []) = false := rfl
      rw [e, if_neg (by decide)]
      have hlen : LenV K (.ref a) (upd H p (.lst [])) ns.length := .inl ⟨_, hS', by rw [List.length_map]⟩
      have hpos : (0 : Int) < ns.length := by rw [hns]; simp only [List.length_cons]; omega
      have hm0 : 0 ≤ k % (ns.length : Int) := Int.emod_nonneg _ (by omega)
      have hm1 : k % (ns.length : Int) < ns.length := Int.emod_lt_of_pos _ hpos
      refine ⟨.ref a, rfl, .int k, rfl, .ref a, rfl, .ref a, ns.length, rfl, hlen, k, ns.length, rfl, rfl, hpos, ?_⟩
      obtain ⟨z, hz⟩ : ∃ z, ns[(k % (ns.length : Int)).toNat]? = some z := ⟨_, List.getElem?_eq_getElem (by omega)⟩
      refine .inl ⟨a, _, _, .int z, rfl, rfl, hS', ?_, ?_⟩
      · refine atI_ix (k := (k % (ns.length : Int)).toNat) ?_ (by rw [List.getElem?_map, hz]; rfl)
        unfold ixOf
        rw [if_pos hm0, List.length_map, if_pos (by omega)]
      · refine ⟨.int k, rfl, .ref a, rfl, .ref a, ns.length, rfl, hlen, k, ns.length, rfl, rfl, wide_div (b := 10) hpos (by simp only [Int.natAbs_natCast]; omega) (by decide) (by decide), ?_⟩
        · refine .inl ⟨_, _, rfl, rfl, .inr ⟨by decide, by decide⟩, ?_⟩
          exact .inl ⟨_, _, rfl, rfl, q _ _ sm⟩
section
variable {P : Program} {w : World} {K : PySem.W.Frag} {mg : Str → Option Value} {base : Heap}
theorem ok_cell {qual : Str} {st : Stmt} {fa : Addr} {fdat : FuncData} (F : Fun K "_law_cell" qual st fa fdat) (S : FnScope ["script", "k"] ["script", "k"] (defScope st)) (hm : mg "len" = none)
    (der : ∀ (E : XK) (cdv : Value) (A : Around) (outer : List PySem.Env) (s : Shared) (H : Hp), Room 1 (A.deeper (PyProof.Rows.envOfC qual (defScope st) s.heap.objs.size fa cdv)) →
      PSs (cxOf (L2N.CX P w) P w K mg base ["script", "k"] qual (defScope st) fa cdv A outer s H E) (defBody st) (tCell K)) : FnOk P w K mg base (L2N.CX P w) 2 fa fdat ["script", "k"] (spCell K) := by
  refine okN F S (fun vs H Q E h => ?_) fun cdv A outer s H vs Q E _ hr h => ⟨_, der E cdv A outer s H hr, cell_run h⟩
  obtain ⟨a, ns, k, rfl, _⟩ := h
  rfl
end
/-- the lists of two numbers, one for each round, each by itself -/
def Rounds (H H' : Hp) (R : Addr) (ds : List Addr) : Prop := Same H H' ∧ H R = none ∧ H' R = some (.lst (ds.map V.ref)) ∧ ds.Nodup ∧ R ∉ ds ∧ ∀ d ∈ ds, H d = none ∧ ∃ c : Int, H' d = some (.lst [.int c, .int 0])
def spRounds (K : PySem.W.Frag) : Sp := fun vs H Q _ => ∃ (a : Addr) (ns : List Int) (m : Int), vs = [.ref a, .int m] ∧ SqL K H a (ns.map V.int) ∧ ns.length ≤ 63 ∧ 0 ≤ m ∧ m ≤ 63 ∧ ∀ (R : Addr) (ds : List Addr) (H' : Hp), Rounds H H' R ds → Q (.ref R) H'
def rMax2 : List V → Hp → VK → Prop := fun xs H Q => ∃ i j, xs = [.int i, .int j] ∧ Q (.int (if j > i then j else i)) H
def rMin2 : List V → Hp → VK → Prop := fun xs H Q => ∃ i j, xs = [.int i, .int j] ∧ Q (.int (if j < i then j else i)) H
def tRounds (K : PySem.W.Frag) (E' : XK) : TS :=
  tRet (tLc (iRng1 (tCons (tCB rMax2 (tCons (tC (.int 1)) (tCons (tCB rMin2 (tCons (tVar 1) (tCons (tCB (rLenV K) (tCons (tVar 0) tNil)) tNil))) tNil))) tNil)) (gName 2) tYes (tLst (tCons (tCall (spCell K) [] E' (tCons (tVar 0) (tCons (tVar 2) tNil))) (tCons (tC (.int 0)) tNil))) [2])
theorem rounds_run {K : PySem.W.Frag} {vs : List V} {H : Hp} {Q : VK} {E E' : XK} (h : spRounds K vs H Q E) : tRounds K E' { nx := fun _ H' => Q .non H', rt := Q } (L2.start ["script", "most", "k"] vs) H := by
  obtain ⟨a, ns, m, rfl, hS, hl, m0, m1, q⟩ := h
  have hlen : LenV K (.ref a) H ns.length := .inl ⟨_, hS, by rw [List.length_map]⟩
  refine ⟨.int m, rfl, .ref a, rfl, .ref a, ns.length, rfl, hlen, m, ns.length, rfl, 1, _, rfl, _, rfl, ?_, ?_, fun R hR => ?_⟩
  · split <;> split <;> omega
  · split <;> split <;> omega
  · generalize hn : (if (if ((ns.length : Nat) : Int) < m then ((ns.length : Nat) : Int) else m) > 1 then (if ((ns.length : Nat) : Int) < m then ((ns.length : Nat) : Int) else m) else 1).toNat = n
    have hn63 : n ≤ 63 := by
      rw [← hn]; split <;> split <;> omega
    refine ⟨fun i k H2 => k = n - i ∧ ∃ ds : List Addr, ds.length = i ∧ i ≤ n ∧ Rounds H H2 R ds, ⟨n, rfl, [], rfl, Nat.zero_le _, ?_⟩, ?_⟩
    · exact ⟨same_upd hR, hR, upd_same, List.nodup_nil, by simp, fun d hd => by cases hd⟩
    · rintro i k H2 ⟨rfl, ds, hi, hin, rd⟩
      by_cases hlt : i < n
      · refine .inr ⟨hlt, fun H3 => ∃ ds : List Addr, ds.length = i + 1 ∧ Rounds H H3 R ds, fun H3 ⟨ds', h1, h2⟩ => ⟨n - (i + 1), by omega, rfl, ds', h1, hlt, h2⟩, ?_⟩
        rintro x H3 ⟨rfl, rfl⟩
        refine ⟨rfl, ?_⟩
        unfold tYes; simp only []
        rw [if_pos trivial]
        have hS2 : SqL K H3 a (ns.map V.int) := Same.seq rd.1 hS
        refine ⟨.ref a, rfl, .int (0 + i), rfl, a, ns, _, rfl, hS2, hl, by omega, by omega, fun c H4 s4 => ⟨by show 2 ≤ sizeLine; decide, fun d hd => ?_⟩⟩
        obtain ⟨r1, r2, r3, r4, r5, r6⟩ := rd
        have hR4 : H4 R = some (.lst (ds.map V.ref)) := s4 _ _ r3
        have nRd : R ≠ d := ne_of_none hR4 hd
        refine ⟨ds.map V.ref, by rw [upd_ne nRd]; exact hR4, ?_, ds ++ [d], by rw [List.length_append, hi]; rfl, ?_⟩
        · rw [List.length_map, hi]; exact Nat.lt_of_lt_of_le (show i < 64 by omega) (by decide)
        · have hdn : ∀ e ∈ ds, e ≠ d := fun e he => by
            obtain ⟨_, c', hc'⟩ := r6 e he
            exact ne_of_none (s4 _ _ hc') hd
          have hHd : H d = none := by
            cases e : H d with
            | none => rfl
            | some o =>
              have := s4 _ _ (r1 _ _ e)
              rw [hd] at this; cases this
          refine ⟨fun b o hb => ?_, r2, ?_, ?_, ?_, fun e he => ?_⟩
          · have nb : b ≠ R := ne_of_none hb r2
            have nd : b ≠ d := ne_of_none hb hHd
            rw [upd_ne nb, upd_ne nd]
            exact s4 _ _ (r1 _ _ hb)
          · rw [upd_same, List.map_append]; rfl
          · refine List.nodup_append.mpr ⟨r4, by simp, fun x hx y hy => ?_⟩
            rw [List.mem_singleton.mp hy]; exact hdn x hx
          · intro z
            rcases List.mem_append.mp z with z | z
            · exact r5 z
            · exact nRd (List.mem_singleton.mp z)
          · rcases List.mem_append.mp he with he | he
            · obtain ⟨h1, c', hc'⟩ := r6 e he
              have neR : e ≠ R := fun z => r5 (z ▸ he)
              refine ⟨h1, c', ?_⟩
              rw [upd_ne neR, upd_ne (hdn e he)]
              exact s4 _ _ hc'
            · rw [List.mem_singleton.mp he]
              refine ⟨hHd, c, ?_⟩
              rw [upd_ne nRd.symm, upd_same]
      · refine .inl ⟨Nat.le_of_not_lt hlt, q R ds H2 rd⟩
section
variable {P : Program} {w : World} {K : PySem.W.Frag} {mg : Str → Option Value} {base : Heap}
theorem ok_rounds {qual : Str} {st : Stmt} {fa : Addr} {fdat : FuncData} (F : Fun K "_law_rounds" qual st fa fdat) (S : FnScope ["script", "most", "k"] ["script", "most"] (defScope st))
    (der : ∀ (E : XK) (cdv : Value) (A : Around) (outer : List PySem.Env) (s : Shared) (H : Hp), Room 2 (A.deeper (PyProof.Rows.envOfC qual (defScope st) s.heap.objs.size fa cdv)) →
      PSs (cxOf (L2N.CX P w) P w K mg base ["script", "most", "k"] qual (defScope st) fa cdv A outer s H E) (defBody st) (tRounds K fun _ _ _ => False)) : FnOk P w K mg base (L2N.CX P w) 3 fa fdat ["script", "most"] (spRounds K) := by
  refine okN F S (fun vs H Q E h => ?_) fun cdv A outer s H vs Q E _ hr h => ⟨_, der E cdv A outer s H hr, rounds_run h⟩
  obtain ⟨a, ns, k, rfl, _⟩ := h
  rfl
end
end Bm
end
section
set_option Elab.async false
set_option linter.all false
set_option maxRecDepth 100000
set_option maxHeartbeats 2000000
namespace Bm
open PySem PySem.Spec PyProof.Rows L2 HotX L2H
end Bm
end
section
set_option Elab.async false
set_option linter.all false
set_option maxRecDepth 100000
set_option maxHeartbeats 2000000
namespace Bm
open PySem PySem.Spec PyProof.Rows L2 HotX L2H LamX
section
variable {X : Cx} {pins : List (Addr × Obj)} {σ : L2.St} {H : Hp} {s : Shared}
/-- a lambda is made: tables stay tables, all else stays -/
theorem lam_new {T : List (Addr × Str)} {c P : Addr} {params : Arguments} {body : Expr} {scope : Scope} {pos : Pos} {E : Value → Shared → Prop} {Q : Value → Shared → Prop} (I : Inv X pins σ H s) (TB : TabB X.base X.mg c P) (hcode : X.env.code = .ref c)
    (hm : (P, X.env.qual ++ "<lambda>") ∈ T) (hu : ∀ p ∈ T, p.1 = P → p.2 = X.env.qual ++ "<lambda>") (hT : Tabs T H) (hdef : defaultsOf params X.env = ([], [])) (hfree : ∀ y ∈ scope.names, y.2 = .free → ∃ c, X.env.cells.lookup y.1 = some c)
    (h : ∀ (f c' : Addr) (pm ctv : Value) (H1 : Hp) (s' : Shared), Inv X pins σ H1 s' → (∀ b o, b ≠ P → H b = some o → H1 b = some o) → Tabs T H1 → (∀ b o, b ≠ P → s.heap.get? b = some o → s'.heap.get? b = some o) →
      s'.heap.get? f = some (PySem.W.kla_obj "<lambda>" (X.env.qual ++ "<lambda>") params body scope (cloFrom X.env.cells scope.names []) pm c' ctv) → H1 f = none → f ∉ frs X.stack → H1 c' = some (CodeO c' (X.env.qual ++ "<lambda>")) → Q (.ref f) s') :
    wpAny (model X.prog X.w) X.A (eval (.Lambda params body scope pos) X.env) Q E s := by
  obtain ⟨ps, hP, ht, ha⟩ := hT _ hm
  have bP : s.heap.BuiltinsAt X.mg P := TB.bm.keeps I.bk
  have gP : s.heap.get? P = some { cls := .none, data := .fields ps } := I.hok P _ hP
  have nofr : ∀ f, s.heap.objs.size ≤ f → f ∉ frs X.stack := fun f hf z => (List.mem_cons.mp (I.stkSub _ z)).elim (fun e => Nat.lt_irrefl _ (Nat.lt_of_lt_of_le (e ▸ I.lt) hf)) fun e => I.nofs hf e
  refine PySem.W.kla_eval hdef ?_
  cases hc : codeAmong pos ps.toList with
  | some cv =>
    obtain ⟨c', e, hco⟩ := ha pos cv hc
    subst e
    refine PySem.W.kla_makeFunctionHit (mg := X.mg) (c := c) (P := P) (ps := ps) (closure_ok hfree) I.ok.glob (I.mod.glob.keeps I.bk) hcode (TB.code.keeps I.bk) gP ht hc bP fun ctv h' tk hx hsz => ?_
    exact h h'.objs.size c' ((X.mg "__name__").getD .none) ctv H _ (I.kept fun b o e => Heap.get?_push_of_some _ (hx b o e)) (fun b o _ e => e) hT (fun b o _ e => Heap.get?_push_of_some _ (hx b o e)) (Heap.get?_push_size _ rfl) (I.hok.fresh hsz) (nofr _ hsz) hco
  | none =>
    refine PySem.W.kla_makeFunction (mg := X.mg) (c := c) (P := P) (ps := ps) (closure_ok hfree) I.ok.glob (I.mod.glob.keeps I.bk) hcode (TB.code.keeps I.bk) gP ht hc TB.gP bP fun c' ctv h' tk hx hge hlt hrec htb => ?_
    obtain ⟨c2, oc, vs, t, e2, hoc, hd, hv⟩ := hrec
    cases e2
    have hsz : s.heap.objs.size ≤ h'.objs.size := Nat.le_trans hge (Nat.le_of_lt hlt)
    have nC : H c' = none := I.hok.fresh hge
    have nPc : P ≠ c' := ne_of_none hP nC
    have I1 := inv_table (t' := tk) (more := #[rawInt pos.line, rawInt pos.col, .ref c']) (h' := h'.push (PySem.W.kla_obj "<lambda>" (X.env.qual ++ "<lambda>") params body scope (cloFrom X.env.cells scope.names []) ((X.mg "__name__").getD .none) c' ctv)) I hP
      (fun b o hb e => Heap.get?_push_of_some _ (hx b o hb e)) (Heap.get?_push_of_some _ htb) hge ⟨oc, vs, t, Heap.get?_push_of_some _ hoc, hd, hv⟩
    generalize eH : upd (upd H P (.tbl (ps ++ #[rawInt pos.line, rawInt pos.col, .ref c']))) c' (CodeO c' (X.env.qual ++ "<lambda>")) = H1 at I1
    have at1 : ∀ b, b ≠ P → b ≠ c' → H1 b = H b := fun b h1 h2 => by rw [← eH, upd_ne h2, upd_ne h1]
    have atP : H1 P = some (.tbl (ps ++ #[rawInt pos.line, rawInt pos.col, .ref c'])) := by rw [← eH, upd_ne nPc, upd_same]
    have atC : H1 c' = some (CodeO c' (X.env.qual ++ "<lambda>")) := by rw [← eH, upd_same]
    have ko : ∀ b o, b ≠ P → H b = some o → H1 b = some o := fun b o hb e => (at1 b hb (ne_of_none e nC)).trans e
    have kc : ∀ c0 q, H c0 = some (CodeO c0 q) → H1 c0 = some (CodeO c0 q) := fun c0 q e => ko _ _ (fun z => by rw [z, hP] at e; exact codeO_ne _ (Option.some.inj e).symm) e
    have eL : (ps ++ #[rawInt pos.line, rawInt pos.col, .ref c']).toList = ps.toList ++ [rawInt pos.line, rawInt pos.col, .ref c'] := by simp
    refine h h'.objs.size c' ((X.mg "__name__").getD .none) ctv H1 _ I1 ko (fun p hp => ?_) (fun b o hb e => Heap.get?_push_of_some _ (hx b o hb e)) (Heap.get?_push_size _ rfl) ?_ (nofr _ hsz) atC
    · by_cases hb : p.1 = P
      · rw [hu p hp hb, hb]
        refine ⟨_, atP, by rw [eL]; exact PySem.TriplesOk_snoc _ _ _ _ ht, fun p' cv hcv => ?_⟩
        rw [eL] at hcv
        rcases among_app _ ht hcv with z | z
        · obtain ⟨c0, e1, e2⟩ := ha p' cv z
          exact ⟨c0, e1, kc _ _ e2⟩
        · exact ⟨c', z, atC⟩
      · obtain ⟨ps', a1, a2, a3⟩ := hT p hp
        refine ⟨ps', (at1 _ hb (ne_of_none a1 nC)).trans a1, a2, fun p' cv hcv => ?_⟩
        obtain ⟨c0, e1, e2⟩ := a3 p' cv hcv
        exact ⟨c0, e1, kc _ _ e2⟩
    · have n2 : h'.objs.size ≠ P := Nat.ne_of_gt (Nat.lt_of_lt_of_le (Heap.lt_size gP) hsz)
      rw [at1 _ n2 (Nat.ne_of_gt hlt)]
      exact I.hok.fresh hsz
/-- the body's context, for exceptions whose context is None -/
def lamN (X : Cx) (A : Around) (outer : List PySem.Env) (s : Shared) (H : Hp) (E : XK) (scope : Scope) (f c' : Addr) : Cx :=
  (lamCx X A outer s H E scope f c').wish fun e s' => wpAny (model X.prog X.w) (A.deeper (lamEnv X scope s.heap.objs.size f c')) (leaving (lamEnv X scope s.heap.objs.size f c') e) (fun _ s'' => L2N.CX X.prog X.w outer H s E e s'') (fun e' s'' => L2N.CX X.prog X.w outer H s E e' s'') s'
/-- the lambda is called in the def that got it -/
theorem act_n {CXg : CXT} {Eg : XK} {Ng : List Str} {qg : Str} {sg : Scope} {g f c' : Addr} {cdg pm ctv : Value} {params : Arguments} {body : Expr} {scope : Scope} {k i : Nat} {a : Str} {pn : List (Addr × Obj)} {xe : Value → Shared → Prop} {W : WX} {E : XK} {tb : TE} {p1 p2 : Pos}
    (I : Inv X pins σ H s) (L : LamS X.env.scope scope) (hf : s.heap.get? f = some (PySem.W.kla_obj "<lambda>" (X.env.qual ++ "<lambda>") params body scope (cloFrom X.env.cells scope.names []) pm c' ctv)) (hfn : H f = none) (hfr : f ∉ frs X.stack)
    (hbind : bindArgs (PySem.W.kla_fn "<lambda>" (X.env.qual ++ "<lambda>") params body scope (cloFrom X.env.cells scope.names []) pm (.ref c') ctv) ⟨[], []⟩ = pure [])
    (tk : L2N.Takes ((cxOf CXg X.prog X.w X.K X.mg X.base Ng qg sg g cdg X.A X.stack s H Eg).tr pn xe) W) (hW : ∀ cls d σ' H', E cls d H' → W cls d σ' H') (hr : Room (k + 1) (X.A.deeper (envOfC qg sg s.heap.objs.size g cdg)))
    (hbody : ∀ (A : Around) (outer : List PySem.Env) (s : Shared) (H : Hp), Room k (A.deeper (lamEnv X scope s.heap.objs.size f c')) → PE (lamN X A outer s H E scope f c') body tb)
    (hN : Ng[i]? = some a) (hv : Vis sg a) (hd : (a == ("__debug__" : Str)) = false := by decide) (hcd : (a == ("__classdict__" : Str)) = false := by decide) :
    PE ((cxOf CXg X.prog X.w X.K X.mg X.base Ng qg sg g cdg X.A X.stack s H Eg).tr pn xe) (.Call (.Name a p1) [] [] p2)
      (fun σZ HZ Q => σZ[i]? = some (some (.ref f)) ∧ HZ c' = some (CodeO c' (X.env.qual ++ "<lambda>")) ∧ tb σ HZ Q) := by
  refine ⟨fun pinsZ sZ σZ HZ Q IZ ⟨hs, hc, ht⟩ => ?_⟩
  refine wpAny_Call_Name_kw (thn ((pe_var (pos := p1) (i := i) hN hv hd hcd).run pinsZ sZ σZ HZ (fun v H1 => v = .ref f ∧ H1 = HZ) IZ ⟨.ref f, hs, rfl, rfl⟩) fun u s1 ⟨v, H1, I1, r1, ev, eH⟩ => ?_)
  subst ev eH
  obtain rfl : u = Value.ref f := r1
  have of1 := I1.base.keep f _ hf hfn hfr (fun z => nomatch (show f ∈ ([] : List Addr) from z))
  refine PySem.W.callWith_F0 ⟨_, _, _, _, of1⟩ ?_
  have un : Un (frs X.stack) [] H H1 s.heap s1.heap := I1.base
  obtain ⟨⟨oc, vs, t, hoc, hdc, hvc⟩, _, _⟩ := I1.hok c' _ hc
  have rc : codeAny (model X.prog X.w) (X.A.deeper (envOfC qg sg s.heap.objs.size g cdg)) (.call (.ref f) ⟨[], []⟩) (CR (L2N.CX X.prog X.w) (envOfC qg sg s.heap.objs.size g cdg :: X.stack) X.prog X.w H1 s1 Q E) s1 := by
    refine PySem.W.kla_callFunE hr.depth of1 rfl L.co L.gen rfl ⟨c', oc, vs, t, rfl, hoc, hdc, hvc⟩ ?_
    rw [hbind]
    refine wpAny_pure (wpAny_newFunctionEnv (fun y hy => (L.own y hy).2) (fun y hy => absurd hy (by simp)) (fun h₁ hns hsb => ⟨I1.nolimit.fresh _ hsb, ?_⟩) L.kind)
    show codeAny _ _ (.expr body (lamEnv X scope s1.heap.objs.size f c')) _ _
    have J := (lam_start2 (E := E) (f := f) (c' := c') (tk := s1.toks + ([] : List (Str × Value)).length) I L I1.env0 hr.hd un hns fun b o e => hsb.extBut b o (Nat.ne_of_lt (Heap.lt_size e)) (Heap.get?_push_of_some _ e)).wish fun e s' => wpAny (model X.prog X.w) ((X.A.deeper (envOfC qg sg s.heap.objs.size g cdg)).deeper (lamEnv X scope s1.heap.objs.size f c')) (leaving (lamEnv X scope s1.heap.objs.size f c') e) (fun _ s'' => L2N.CX X.prog X.w (envOfC qg sg s.heap.objs.size g cdg :: X.stack) H1 s1 E e s'') (fun e' s'' => L2N.CX X.prog X.w (envOfC qg sg s.heap.objs.size g cdg :: X.stack) H1 s1 E e' s'') s'
    refine PySem.W.kla_codeExpr (wpAny_mono ((hbody _ _ s1 H1 (hr.deeper _)).run [] _ _ H1 Q J ht) (fun v s' hq => ?_) fun e s' hq => hq)
    obtain ⟨w', H', J', rv, q⟩ := hq
    exact ⟨w', H', J'.os, J'.bare, J'.base, J'.hok, rv, q⟩
  refine wpAny_call (codeAny_mono rc fun r s' hq => ?_)
  cases r with
  | error e => exact L2N.passes_call tk hW pinsZ σZ H1 s1 e s' I1 hq
  | ok fl =>
    cases fl with
    | ret u => exact I1.after hq
    | next => exact False.elim hq
    | brk => exact False.elim hq
    | cont => exact False.elim hq
end
end Bm
end
section
set_option Elab.async false
set_option linter.all false
set_option maxRecDepth 100000
set_option maxHeartbeats 4000000
namespace Bm
open PySem PySem.Spec PyProof.Rows L2 HotX L2H LamX
def exNames : List String := ["InvalidMap", "InvalidBorder", "InvalidPoint", "InvalidPlace", "InvalidLand", "InvalidCount", "InvalidText", "Bridge", "Loop", "LastBorder", "TooLarge", "OtherLand", "NothingToUndo"]
/-- what the text's top says of the classes -/
structure ExcTop (K : PySem.W.Frag) (mg : Str → Option Value) (ca : Nat → Addr) (M : Addr) : Prop where
  g : ∀ j, j < 13 → mg (Str.ofString (exNames.getD j "")) = some (.ref (ca j))
  kit : ∀ j k, j < 13 → k < 13 → PySem.W.kitOne K (.ref (ca k)) (.ref (ca j)) = some (decide (j = k))
  kitV : ∀ k, k < 13 → PySem.W.kitOne K (.ref (ca k)) (.type "ValueError") = some true
  ec : ∀ k, k < 13 → ExcC K (ca k)
  gM : mg "MapError" = some (.ref M)
  exm : ∀ k, k < 13 → PySem.W.exmOne K (.ref (ca k)) (.ref M) = some true
  b1 : mg "isinstance" = none
  b2 : mg "sum" = none
  b3 : mg "int" = none
  b4 : mg "ValueError" = none
theorem boot_VE : bootBuiltins "ValueError" = some (.type "ValueError") := by decide +kernel
theorem ref_only {C : Addr} : ∀ u, RelV (.ref C) u → u = Value.ref C := fun _ h => h
theorem ty_only {n : String} : ∀ u, RelV (.ty n) u → u = Value.type n := fun _ h => h
end Bm
end
section
set_option Elab.async false
set_option linter.all false
set_option maxRecDepth 100000
set_option maxHeartbeats 4000000
namespace Bm
open PySem PySem.Spec PyProof.Rows L2 HotX L2H LamX
/-- the lambda's body, from the state at its making -/
def tLamE (K : PySem.W.Frag) (c : Cfg) (a : E) (E : XK) : TE := fun σ H Q => ∃ W : Ent, Free W [] ∧ TEv K { c with W := W, E := E } a σ H Q
theorem pe_lamE {X : Cx} {c : Cfg} {a : E} {E : XK} {e : Expr} (h : ∀ W : Ent, Free W [] → PE X e (TEv X.K { c with W := W, E := E } a)) : PE X e (tLamE X.K c a E) :=
  ⟨fun pins s σ H Q I ⟨W, hp, q⟩ => (h W hp).run pins s σ H Q I q⟩
theorem hidE_get (r : Env) (i : Nat) : getS (hidE r) i = match getS r i with | .own _ => .un | .dicT _ => .un | .dicK _ => .un | .exs _ => .un | .ins _ => .un | s => s := by
  unfold getS hidE
  rw [List.getD_eq_getElem?_getD, List.getD_eq_getElem?_getD, List.getElem?_map]
  cases r[i]? with
  | none => rfl
  | some s => cases s <;> rfl
theorem hid_no (r : Env) (i : Nat) : isOwn (getS (hidE r) i) = false := by
  rw [hidE_get]
  cases getS r i <;> rfl
/-- the table at P was there at the entry, and is no datum -/
structure WOk (W : Ent) (P : Addr) : Prop where
  h : ∃ ps, W.H0 P = some (.tbl ps)
  o : ¬ W.O0 P
  f : W.F0 P = none
end Bm
end
section
set_option Elab.async false
set_option linter.all false
set_option maxRecDepth 100000
set_option maxHeartbeats 1000000
namespace Bm
open PySem PySem.Spec L2 LamX
/-- what a round begins with: the list of its two numbers at place 1 -/
def env0 (ns : Nat) (c : Int) : Env := .un :: .own [.int c, .int 0] :: List.replicate (ns - 2) .un
section
variable (K : PySem.W.Frag) (J : Hp → Prop) (hJ : ∀ H H' : Hp, (∀ b o, H b = some o → H' b = some o ∨ isMut o) → J H → J H') (cl : Nat → Value) (call : CallS) (T : List (Addr × Str)) (E : XK)
/-- a round's text, from any heap -/
def tAny (b : S) : TS := fun D σ H => ∃ W : Ent, (Free W [] ∧ ∀ p ∈ T, WOk W p.1) ∧ TSv K (cfg J hJ cl call W E) b D σ H
theorem pss_any {X : Cx} {sts : List Stmt} {b : S} (h : ∀ W : Ent, Free W [] → (∀ p ∈ T, WOk W p.1) → PSs X sts (TSv X.K (cfg J hJ cl call W E) b)) : PSs X sts (tAny X.K J hJ cl call T E b) :=
  ⟨fun pins s σ H D I ⟨W, hp, q⟩ => (h W hp.1 hp.2).run pins s σ H D I q⟩
def tLaw (M : Int) (b : S) : TS := tSeq (tFor (iList K (tCall (spRounds K) [] E (tCons (tVar 0) (tCons (tC (.int M)) tNil)))) (gName 1) (tAny K J hJ cl call T E b)) (tRet (tC (.bl true)))
def spLaw : Sp := fun vs H Q _ => ∃ (a : Addr) (ns : List Int), vs = [.ref a] ∧ SqL K H a (ns.map V.int) ∧ ns.length ≤ 63 ∧ J H ∧ ∀ H', Q (.bl true) H'
def Good (call : CallS) (n : Nat) (b : S) : Prop := ∀ c : Int, ∃ r, denS call b (env0 n c) = .nxt r ∧ r.length = n
variable {K J hJ cl call T E}
theorem nodup_inj {α : Type} : ∀ {l : List α} {i j : Nat}, l.Nodup → (hi : i < l.length) → (hj : j < l.length) → l[i] = l[j] → i = j
  | [], _, _, _, hi, _, _ => by cases hi
  | a :: l, 0, 0, _, _, _, _ => rfl
  | a :: l, 0, j + 1, h, _, hj, e => by
    have := (List.nodup_cons.mp h).1
    simp only [List.getElem_cons_zero, List.getElem_cons_succ] at e
    exact absurd (e ▸ List.getElem_mem _) this
  | a :: l, i + 1, 0, h, hi, _, e => by
    have := (List.nodup_cons.mp h).1
    simp only [List.getElem_cons_zero, List.getElem_cons_succ] at e
    exact absurd (e ▸ List.getElem_mem _) this
  | a :: l, i + 1, j + 1, h, hi, hj, e => by
    simp only [List.getElem_cons_succ] at e
    rw [nodup_inj (List.nodup_cons.mp h).2 _ _ e]
theorem env0_get (n : Nat) (c : Int) (i : Nat) : getS (env0 n c) i = if i = 1 then .own [.int c, .int 0] else .un := by
  match i with
  | 0 => rfl
  | 1 => rfl
  | i + 2 =>
    have e : getS (env0 n c) (i + 2) = getS (List.replicate (n - 2) .un) i := by simp [getS, env0]
    rw [e, getS_rep, if_neg (by omega)]
theorem law_run {M : Int} {b : S} {N : List Str} {vs : List V} {H : Hp} {Q : VK} {E0 : XK} (hM : 0 ≤ M ∧ M ≤ 63) (hN : 2 ≤ N.length) (good : Good call N.length b) (hJT : ∀ H, J H → Tabs T H) (h : spLaw K J vs H Q E0) :
    tLaw K J hJ cl call T E M b { nx := fun _ H' => Q .non H', rt := Q } (L2.start N vs) H := by
  obtain ⟨a, ns, rfl, hS, hl, j0, q⟩ := h
  refine ⟨.ref a, ?_, a, ns, M, rfl, hS, hl, hM.1, hM.2, fun R ds H1 rd => ?_⟩
  · unfold L2.start; rfl
  obtain ⟨r1, r2, r3, r4, r5, r6⟩ := rd
  refine ⟨R, rfl, ⟨_, SqL.of r3⟩, for_list (K := K) (a := R) (xs := ds.map V.ref) (fun i σ H' => σ.length = N.length ∧ J H' ∧ H' R = some (.lst (ds.map V.ref)) ∧ ∀ k d, i ≤ k → ds[k]? = some d → ∃ c : Int, H' d = some (.lst [.int c, .int 0])) ⟨?_, ?_, r3, ?_⟩ (fun i σ H' _ p => SqL.of p.2.2.1) ?_ (fun σ H' _ => q H')⟩
  · unfold L2.start; simp only [List.length_append, List.length_map, List.length_replicate, List.length_cons, List.length_nil]; omega
  · exact hJ _ _ (fun b o hb => .inl (r1 b o hb)) j0
  · intro k d _ hk
    obtain ⟨_, c, hc⟩ := r6 d (List.mem_of_getElem? hk)
    exact ⟨c, hc⟩
  · rintro i x σ H' hx ⟨hσ, j, hR, hds⟩
    rw [List.getElem?_map] at hx
    cases ed : ds[i]? with
    | none => rw [ed] at hx; cases hx
    | some d =>
      rw [ed] at hx
      cases hx
      obtain ⟨c, hc⟩ := hds i d (Nat.le_refl _) ed
      obtain ⟨r', hr', hlen⟩ := good c
      have own1 : ∀ i' b', OwnAt (env0 N.length c) (σ.set 1 (some (.ref d))) i' b' → i' = 1 ∧ b' = d := fun i' b' ⟨h1, h2⟩ => by
        rw [env0_get] at h1
        by_cases hi : i' = 1
        · subst hi
          rw [vAt_set, if_pos ⟨rfl, by omega⟩] at h2
          cases h2
          exact ⟨rfl, rfl⟩
        · rw [if_neg hi] at h1; cases h1
      have x0 : Stt K (cfg J hJ cl call (entC H' (fun _ => none) (fun b => b = d) (fun _ _ => True)) E) (env0 N.length c) (σ.set 1 (some (.ref d))) H' (fun _ => none) := by
        refine ⟨⟨?_, fun b o hb => (by cases hb), fun k => ?_, fun i' j' b' p p' => ?_⟩, j, fun b o hb n => ⟨rfl, .inl hb⟩, fun b' ⟨i', p⟩ => .inl (own1 i' b' p).2, fun _ => trivial⟩
        · rw [List.length_set, hσ]; simp only [env0, List.length_cons, List.length_replicate]; omega
        · rw [env0_get]
          by_cases hk : k = 1
          · subst hk
            rw [if_pos rfl, vAt_set, if_pos ⟨rfl, by omega⟩]
            exact ⟨d, _, rfl, rfl, hc, .cons (.int c) (.cons (.int 0) .nil)⟩
          · rw [if_neg hk]; trivial
        · rw [(own1 _ _ p).1, (own1 _ _ p').1]
      have wok : ∀ p ∈ T, WOk (entC H' (fun _ => none) (fun b => b = d) (fun _ _ => True)) p.1 := fun p hp => by
        obtain ⟨ps, hps, _⟩ := hJT H' j p hp
        refine ⟨⟨ps, hps⟩, fun z => ?_, rfl⟩
        have z : p.1 = d := z
        rw [z, hc] at hps; cases hps
      refine ⟨entC H' (fun _ => none) (fun b => b = d) (fun _ _ => True), ⟨fun _ _ _ => trivial, wok⟩, fun _ => none, _, x0, ?_⟩
      show OkS K _ _ (denS call b (env0 N.length c)) _
      rw [hr']
      intro σ2 H2 F2 x2 _
      have kept : ∀ b o, b ≠ d → isMut o → H' b = some o → H2 b = some o := fun b o hb m h => (x2.kp b o h hb).2.mut m
      have nRd : R ≠ d := fun z => r5 (z ▸ List.mem_of_getElem? ed)
      refine ⟨by rw [← x2.rel.len]; exact hlen, x2.tie, kept _ _ nRd trivial hR, fun k d' hk hd' => ?_⟩
      obtain ⟨c', hc'⟩ := hds k d' (by omega) hd'
      refine ⟨c', kept _ _ (fun z => ?_) trivial hc'⟩
      subst z
      have : k = i := by
        have h1 := (List.getElem?_eq_some_iff.mp hd')
        have h2 := (List.getElem?_eq_some_iff.mp ed)
        obtain ⟨l1, e1⟩ := h1
        obtain ⟨l2, e2⟩ := h2
        exact nodup_inj r4 l1 l2 (e1.trans e2.symm)
      omega
end
section
variable {P : Program} {w : World} {K : PySem.W.Frag} {mg : Str → Option Value} {base : Heap} {J : Hp → Prop} {hJ : ∀ H H' : Hp, (∀ b o, H b = some o → H' b = some o ∨ isMut o) → J H → J H'} {cl : Nat → Value} {call : CallS}
theorem ok_law {k : Nat} {qual : Str} {st : Stmt} {fa : Addr} {fdat : FuncData} {N : List Str} {M : Int} {b : S} (F : Fun K "law" qual st fa fdat) (S : FnScope N ["script"] (defScope st)) (hM : 0 ≤ M ∧ M ≤ 63) (hN : 2 ≤ N.length) (good : Good call N.length b) {T : List (Addr × Str)} (hJT : ∀ H, J H → Tabs T H)
    (der : ∀ (E : XK) (cdv : Value) (A : Around) (outer : List PySem.Env) (s : Shared) (H : Hp), fdat.code = cdv → Room k (A.deeper (PyProof.Rows.envOfC qual (defScope st) s.heap.objs.size fa cdv)) →
      PSs (cxOf (L2N.CX P w) P w K mg base N qual (defScope st) fa cdv A outer s H E) (defBody st) (tLaw K J hJ cl call T E M b)) : FnOk P w K mg base (L2N.CX P w) (k + 1) fa fdat ["script"] (spLaw K J) := by
  refine okN F S (fun vs H Q E h => ?_) fun cdv A outer s H vs Q E hcd hr h => ⟨_, der E cdv A outer s H hcd hr, law_run hM hN good hJT h⟩
  obtain ⟨a, ns, rfl, _⟩ := h
  rfl
end
theorem tabs_mono {T : List (Addr × Str)} (H H' : Hp) (h : ∀ b o, H b = some o → H' b = some o ∨ isMut o) (t : Tabs T H) : Tabs T H' := fun p hp => by
  obtain ⟨ps, h1, h2, h3⟩ := t p hp
  refine ⟨ps, (h _ _ h1).elim id (fun z => z.elim), h2, fun pos cv hc => ?_⟩
  obtain ⟨c, e1, e2⟩ := h3 pos cv hc
  exact ⟨c, e1, (h _ _ e2).elim id (fun z => z.elim)⟩
end Bm
end
section
set_option Elab.async false
set_option linter.all false
set_option maxRecDepth 100000
set_option maxHeartbeats 2000000
namespace Bm
open PySem PySem.Spec L2 LamX
theorem fun_of {K : PySem.W.Frag} {x qual : Str} {st : Stmt} {f : Addr} {fd : FuncData} (F : FunD K x qual (defArgs st) (defBody st) (defScope st) [] [] f fd) : Fun K x qual st f fd := by
  obtain ⟨oc, od, dV, kV, doc, pm, an, cdv, ct, osl, e, lk, hcd, hd, _⟩ := F.ex
  rcases hd with ⟨_, rfl⟩ | ⟨z, _⟩
  · exact ⟨⟨oc, od, kV, doc, pm, an, cdv, ct, osl, e, lk, hcd⟩, F.kp⟩
  · exact absurd rfl z
/-- the classes' addresses -/
def caK (K : PySem.W.Frag) (j : Nat) : Addr := He.ga K (Str.ofString (exNames.getD j ""))
def isB (a b : Option Bool) : Bool := decide (a = b)
def excCB (K : PySem.W.Frag) (C : Addr) : Bool :=
  He.eqO (PySem.W.findIn K (.ref C) "__getattribute__") (some (some (.builtin "BaseException.__getattribute__"))) && (He.eqO (PySem.W.findIn K (.ref C) "__getattr__") (some none) && (isB (PySem.W.subIn K (.ref C) (.type "BaseException")) (some true) && (PySem.W.hasDictIn K C &&
    (He.eqO (PySem.W.findIn K (.ref C) "__class__") (some (some (.builtin "object.__class__"))) && (He.eqO (PySem.W.specialIn K (.builtin "object.__class__") "__get__") (some (some (.builtin "getset_descriptor.__get__"))) && (isB (PySem.W.takesIn K (.builtin "object.__class__")) (some true) && isB (PySem.W.mroIn K C (.type "object")) (some true)))))))
theorem excCB_ok {K : PySem.W.Frag} {C : Addr} (h : excCB K C = true) : ExcC K C := by
  unfold excCB at h
  simp only [Bool.and_eq_true] at h
  obtain ⟨h1, h2, h3, h4, h5, h6, h7, h8⟩ := h
  exact ⟨He.eqO_ok h1, He.eqO_ok h2, of_decide_eq_true h3, h4, He.eqO_ok h5, He.eqO_ok h6, of_decide_eq_true h7, of_decide_eq_true h8⟩
def exB (K : PySem.W.Frag) : Bool := (List.range 13).all fun k => excCB K (caK K k) && (isB (PySem.W.kitOne K (.ref (caK K k)) (.type "ValueError")) (some true) && (isB (PySem.W.exmOne K (.ref (caK K k)) (.ref (He.ga K "MapError"))) (some true) &&
  (List.range 13).all fun j => isB (PySem.W.kitOne K (.ref (caK K k)) (.ref (caK K j))) (some (decide (j = k)))))
theorem exB_ok {K : PySem.W.Frag} {mg : Str → Option Value} (h : exB K = true) (g : ∀ j, j < 13 → mg (Str.ofString (exNames.getD j "")) = some (.ref (caK K j))) (gM : mg "MapError" = some (.ref (He.ga K "MapError"))) (b1 : mg "isinstance" = none) (b2 : mg "sum" = none) (b3 : mg "int" = none) (b4 : mg "ValueError" = none) :
    ExcTop K mg (caK K) (He.ga K "MapError") := by
  have key : ∀ k, k < 13 → ExcC K (caK K k) ∧ PySem.W.kitOne K (.ref (caK K k)) (.type "ValueError") = some true ∧ PySem.W.exmOne K (.ref (caK K k)) (.ref (He.ga K "MapError")) = some true ∧ ∀ j, j < 13 → PySem.W.kitOne K (.ref (caK K k)) (.ref (caK K j)) = some (decide (j = k)) := fun k hk => by
    have := List.all_eq_true.mp h k (List.mem_range.mpr hk)
    simp only [Bool.and_eq_true] at this
    obtain ⟨h1, h2, h3, h4⟩ := this
    exact ⟨excCB_ok h1, of_decide_eq_true h2, of_decide_eq_true h3, fun j hj => of_decide_eq_true (List.all_eq_true.mp h4 j (List.mem_range.mpr hj))⟩
  exact ⟨g, fun j k hj hk => (key k hk).2.2.2 j hj, fun k hk => (key k hk).2.1, fun k hk => (key k hk).1, gM, fun k hk => (key k hk).2.2.1, b1, b2, b3, b4⟩
theorem excAt_of {K : PySem.W.Frag} {mg : Str → Option Value} {x : Str} {C : Addr} (hC : C = He.ga K x) (g : mg x = some (.ref (He.ga K x))) (c : (He.Fa.exc x).ok K = true) : ExcAt K mg x C := by
  subst hC
  obtain ⟨h1, h2, h3, h4⟩ := He.exc_ok c
  exact ⟨g, h1, h2, h3, h4⟩
end Bm
end
section
set_option Elab.async false
set_option linter.all false
set_option maxRecDepth 100000
set_option maxHeartbeats 1000000
namespace Bm
open PySem PySem.Spec L2
/-- what the class must say -/
structure DkOk (K : PySem.W.Frag) : Prop where
  cls : Cls K (dkC K)
  n0 : NoAttr K (dkC K) "now"
  n1 : NoAttr K (dkC K) "earlier"
  n2 : NoAttr K (dkC K) "undone"
theorem DkOk.no {K : PySem.W.Frag} (h : DkOk K) {k : Nat} {f : Str} (e : dkNames[k]? = some f) : NoAttr K (dkC K) f := by
  match k, e with
  | 0, e => cases e; exact h.n0
  | 1, e => cases e; exact h.n1
  | 2, e => cases e; exact h.n2
  | k + 3, e => simp [dkNames] at e
theorem dk_look {k : Nat} {f : Str} {vs : List V} {v : V} (e : dkNames[k]? = some f) (h : vs[k]? = some v) : (dkF vs).lookup f = some v := by
  match k, vs, e, h with
  | 0, a :: r, e, h => cases e; cases h; rfl
  | 1, a :: b :: r, e, h => cases e; cases h; rfl
  | 2, a :: b :: c :: r, e, h => cases e; cases h; rfl
  | k + 3, vs, e, h => simp [dkNames] at e
  | 0, [], e, h => simp at h
  | 1, [], e, h => simp at h
  | 1, [a], e, h => simp at h
  | 2, [], e, h => simp at h
  | 2, [a], e, h => simp at h
  | 2, [a, b], e, h => simp at h
theorem dk_put {k : Nat} {f : Str} {vs : List V} {v : V} (e : dkNames[k]? = some f) (h : k < vs.length) (h3 : vs.length ≤ 3) : putF f v (dkF vs) = dkF (vs.set k v) := by
  match k, vs, e, h, h3 with
  | 0, a :: r, e, h, h3 => cases e; rfl
  | 1, a :: b :: r, e, h, h3 => cases e; rfl
  | 2, a :: b :: c :: r, e, h, h3 => cases e; rfl
  | k + 3, vs, e, h, h3 => simp [dkNames] at e
  | 0, [], e, h, h3 => simp at h
  | 1, [], e, h, h3 => simp at h
  | 1, [a], e, h, h3 => simp at h
  | 2, [], e, h, h3 => simp at h
  | 2, [a], e, h, h3 => simp at h
  | 2, [a, b], e, h, h3 => simp at h
theorem dk_app {k : Nat} {f : Str} {vs : List V} {v : V} (e : dkNames[k]? = some f) (h : k = vs.length) : putF f v (dkF vs) = dkF (vs ++ [v]) := by
  subst h
  match vs, e with
  | [], e => cases e; rfl
  | [a], e => cases e; rfl
  | [a, b], e => cases e; rfl
  | a :: b :: c :: r, e => simp [dkNames] at e
theorem dkF_len (vs : List V) : (dkF vs).length ≤ 3 := by
  unfold dkF
  rw [List.length_zip]
  exact Nat.min_le_left _ _
section
variable {X : Cx} {c : Cfg} {e e1 e2 : Expr} {es : List Expr} {a b m : E} {pos : Pos}
/-- x.f -/
theorem sv_fld {i k : Nat} {y f : Str} {py : Pos} (dk : DkOk X.K) (hk : dkNames[k]? = some f) (hy : PE X (.Name y py) (tVar i)) (hb : attributeBase (.Name y py) f X.env (eval (.Name y py) X.env) = eval (.Name y py) X.env := by rfl) :
    PE X (.Attribute (.Name y py) f pos) (TEv X.K c (.fld i k)) := by
  refine PE.mono (pe_fld hy hb) fun σ H Q ⟨F, r, x, h⟩ => ?_
  simp only [den] at h
  have q0 := x.rel.ok i
  have key : ∀ (p : Addr) (l : List D), vAt σ i = some (.ref p) → InsAt X.K F H p l → OkE X.K c r σ F H ((R.opt l[k]?).bind fun d => .ok (d, r)) Q → tFld X.K (tVar i) f σ H Q := fun p l hv ⟨dx, vs, h1, h2, h3⟩ h => by
    cases el : l[k]? with
    | none => rw [el] at h; exact h.elim
    | some d =>
      rw [el] at h
      obtain ⟨v, ev, qv⟩ := dpa_get h3 el
      exact ⟨.ref p, vAt_some hv, p, dkC X.K, dx, dkF vs, v, rfl, h1, dk.cls, dk.no hk, dk_look hk ev, h v F H x Ef.refl (fun _ z => z) (Dn.of qv)⟩
  cases e : getS r i with
  | un => rw [e] at h; exact h.elim
  | sh d => rw [e] at h; exact h.elim
  | own d => rw [e] at h; exact h.elim
  | dicT d => rw [e] at h; exact h.elim
  | dicK d => rw [e] at h; exact h.elim
  | exs d => rw [e] at h; exact h.elim
  | ins l =>
    rw [e] at h q0
    obtain ⟨p, z1, _, z2⟩ := q0
    exact key p l z1 z2 h
  | lck l =>
    rw [e] at h q0
    obtain ⟨p, z1, dx, vs, z2, z3⟩ := q0
    exact key p l z1 ⟨dx, vs, x.rel.same _ _ z2, z3⟩ h
/-- the instance of place i is changed -/
theorem Stt.ino {K : PySem.W.Frag} {r : Env} {σ : St} {F H F' H' : Hp} (x : Stt K c r σ H F) {i : Nat} {l m' : List D} {p : Addr} (hi : getS r i = .ins l) (hv : vAt σ i = some (.ref p)) (sm : Same F' H')
    (kp : ∀ b o, b ≠ p → H b = some o → F' b = F b ∧ KO o (H' b)) (fa : F' p = none) (ia : InsAt K F' H' p m') (j : c.J H') : Stt K c (putS r i (.ins m')) σ H' F' ∧ Ef r σ F H F' H' ∧ ∀ b, Own (putS r i (.ins m')) σ b → Own r σ b := by
  have oa : OwnAt r σ i p := ⟨by rw [hi]; rfl, hv⟩
  have sF : Same F F' := fun b o h => by
    have nb : b ≠ p := fun z => by
      have := (own_mut x.rel ⟨i, oa⟩).1
      rw [← z, h] at this; cases this
    rw [(kp b o nb (x.rel.same b o h)).1]; exact h
  have ef : Ef r σ F H F' H' := fun b o h n => kp b o (fun z => n (z ▸ ⟨i, oa⟩)) h
  have h1 : ∀ j b, OwnAt (putS r i (.ins m')) σ j b → OwnAt r σ j b := fun j b ⟨z1, z2⟩ => by
    refine ⟨?_, z2⟩
    rw [getS_put] at z1
    by_cases hj : i = j ∧ i < r.length
    · rw [← hj.1, hi]; rfl
    · rw [if_neg hj] at z1; exact z1
  have ou : ∀ b, Own (putS r i (.ins m')) σ b → Own r σ b := fun b ⟨j, q⟩ => ⟨j, h1 j b q⟩
  refine ⟨x.step ⟨?_, sm, fun j => ?_, fun j k b p q => x.rel.inj j k b (h1 j b p) (h1 k b q)⟩ j ef ou, ef, ou⟩
  · unfold putS; rw [List.length_set]; exact x.rel.len
  · by_cases hj : i = j ∧ i < r.length
    · rw [getS_put, if_pos hj, ← hj.1, hv]
      exact ⟨p, rfl, fa, ia⟩
    · rw [getS_put, if_neg hj]
      obtain ⟨lz, hz, mz⟩ := (own_mut x.rel ⟨i, oa⟩).2
      refine slot_same sF (fun b o1 o2 hf ⟨o, ho, mu⟩ => ?_) (aside_but hz mz kp) (x.rel.ok j)
      have nb : b ≠ p := fun z => by
        have ej := x.rel.inj i j p oa ⟨o1, z ▸ o2⟩
        have hl := vAt_some hv
        exact hj ⟨ej, by rw [x.rel.len]; exact (List.getElem?_eq_some_iff.mp hl).1⟩
      have z := kp b o nb ho
      exact ⟨z.1.trans hf, (z.2.mut mu).trans ho.symm⟩
def afterF (i k : Nat) (p : D × Env) : RS := match getS p.2 i with
  | .ins l => if nd p.1 then (if k < l.length then .nxt (putS p.2 i (.ins (l.set k p.1))) else if k = l.length ∧ k < 3 then .nxt (putS p.2 i (.ins (l ++ [p.1]))) else .stuck) else .stuck
  | _ => .stuck
theorem denS_fset (call : CallS) (i k : Nat) (e : E) (r : Env) : denS call (.fset i k e) r = (match den call e r with | .ok p => afterF i k p | .exc k => .exc k | .stuck => .stuck) := by
  simp only [denS]
  cases den call e r with
  | ok p => obtain ⟨d, r1⟩ := p; rfl
  | exc k => rfl
  | stuck => rfl
/-- x.f = value -/
theorem ss_fset {i k : Nat} {y f : Str} {py tp : Pos} (dk : DkOk X.K) (hk : dkNames[k]? = some f) (hy : PE X (.Name y py) (tVar i)) (he : PE X e (TEv X.K c a)) (hs : swapsWith e (some (.Attribute (.Name y py) f tp)) pos.line X.env = pure false := by rfl) :
    PS X (.Assign [.Attribute (.Name y py) f tp] e pos) (TSv X.K c (.fset i k a)) := by
  refine PS.mono (ps_fld hy he hs) fun D σ H ⟨F, r, x, h⟩ => ⟨F, r, x, ?_⟩
  rw [denS_fset] at h
  refine okE_stmt x h fun d r1 v F1 H1 ⟨x1, _, _, q1⟩ h1 => ?_
  simp only [afterF] at h1
  have q0 := x1.rel.ok i
  cases eg : getS r1 i with
  | ins l =>
    rw [eg] at h1 q0
    simp only at h1
    obtain ⟨p, z1, z2, dx, vs, z3, z4, z5⟩ := q0
    cases hn : nd d with
    | false => rw [hn] at h1; exact h1.elim
    | true =>
      rw [hn, if_pos rfl] at h1
      have dv : Dp X.K F1 v d := q1.dp (nd_of hn)
      have hl := dpa_len z5
      refine ⟨.ref p, vAt_some z1, p, dkC X.K, dx, dkF vs, rfl, z3, dk.cls, dk.no hk, Nat.lt_of_le_of_lt (dkF_len vs) (by decide), ?_⟩
      have go : ∀ (l' : List PyData) (vs' : List V), putF f v (dkF vs) = dkF vs' → vs'.length ≤ 3 → DpAll X.K F1 vs' l' → OkS X.K c F1 (.nxt (putS r1 i (.ins l'))) D → D.nx σ (upd H1 p (.ins (dkC X.K) dx (putF f v (dkF vs)))) := fun l' vs' e1 e2 e3 h2 => by
        rw [e1]
        obtain ⟨x2, _, _⟩ := x1.ino (F' := F1) (H' := upd H1 p (.ins (dkC X.K) dx (dkF vs'))) (m' := l') eg z1 (fun b o hb => by
          have nb : b ≠ p := fun z => by rw [z, z2] at hb; cases hb
          rw [upd_ne nb]; exact x1.rel.same b o hb) (fun b o nb hb => ⟨rfl, .inl (by rw [upd_ne nb]; exact hb)⟩) z2 ⟨dx, vs', upd_same, e2, e3⟩ (c.hJ H1 _ (fun b o hb => by
          by_cases nb : b = p
          · subst nb; rw [z3] at hb; cases hb; exact .inr trivial
          · rw [upd_ne nb]; exact .inl hb) x1.tie)
        exact h2 σ _ F1 x2 (Same.refl _)
      by_cases h3 : k < l.length
      · rw [if_pos h3] at h1
        exact go (l.set k d) (vs.set k v) (dk_put hk (by omega) z4) (by rw [List.length_set]; exact z4) (dpa_set dv k z5) h1
      · rw [if_neg h3] at h1
        by_cases h4 : k = l.length ∧ k < 3
        · rw [if_pos h4] at h1
          exact go (l ++ [d]) (vs ++ [v]) (dk_app hk (by omega)) (by rw [List.length_append, List.length_singleton]; omega) (dpa_app z5 (.cons dv .nil)) h1
        · rw [if_neg h4] at h1; exact h1.elim
  | un => rw [eg] at h1; exact h1.elim
  | sh d => rw [eg] at h1; exact h1.elim
  | own d => rw [eg] at h1; exact h1.elim
  | dicT d => rw [eg] at h1; exact h1.elim
  | dicK d => rw [eg] at h1; exact h1.elim
  | exs d => rw [eg] at h1; exact h1.elim
  | lck d => rw [eg] at h1; exact h1.elim
end
/-- the maker's: it changes the new instance alone -/
def spI (K : PySem.W.Frag) (J : Hp → Prop) (cl : Nat → Value) (f : List D → R (D × List D)) : Sp := fun vs H Q E => ∃ F p us ds, vs = .ref p :: us ∧ Same F H ∧ J H ∧ F p = none ∧ InsAt K F H p [] ∧ DnAll K F us ds ∧ ds.length ≤ 20 ∧
  match f ds with
  | .ok (_, m') => ∀ (F' H' : Hp), Same F' H' → (∀ b o, b ≠ p → H b = some o → F' b = F b ∧ KO o (H' b)) → F' p = none → InsAt K F' H' p m' → J H' → Q .non H'
  | .exc k => ∀ (F' H' : Hp), Same F' H' → (∀ b o, b ≠ p → H b = some o → F' b = F b ∧ KO o (H' b)) → J H' → E (cl k) none H'
  | .stuck => False
/-- a method's: an exception changes nothing -/
def spM (K : PySem.W.Frag) (J : Hp → Prop) (cl : Nat → Value) (f : List D → List D → R (D × List D)) : Sp := fun vs H Q E => ∃ F p us m ds, vs = .ref p :: us ∧ Same F H ∧ J H ∧ F p = none ∧ InsAt K F H p m ∧ DnAll K F us ds ∧ ds.length ≤ 20 ∧
  match f m ds with
  | .ok (d, m') => ∀ (v : V) (F' H' : Hp), Same F' H' → (∀ b o, b ≠ p → H b = some o → F' b = F b ∧ KO o (H' b)) → F' p = none → InsAt K F' H' p m' → J H' → Dn K F' v d → Q v H'
  | .exc k => ∀ (F' H' : Hp), Same F' H' → (∀ b o, H b = some o → F' b = F b ∧ KO o (H' b)) → J H' → E (cl k) none H'
  | .stuck => False
/-- the maker stands and keeps its promise -/
def MkAt (P : Program) (w : World) (K : PySem.W.Frag) (mg : Str → Option Value) (base : Heap) (k : Nat) (sp : Sp) : Prop :=
  ∃ (fa : Addr) (fd : FuncData) (ps : List Str), Mk K (dkC K) fa ∧ L2.Binds K fd ps [] ∧ FnOk P w K mg base (L2N.CX P w) k fa fd ps sp
/-- the method m -/
def MtAt (P : Program) (w : World) (K : PySem.W.Frag) (mg : Str → Option Value) (base : Heap) (k : Nat) (m : Str) (sp : Sp) : Prop :=
  ∃ (fa : Addr) (fd : FuncData) (ps : List Str), Meth K (dkC K) m fa ∧ L2.Binds K fd ps [] ∧ FnOk P w K mg base (L2N.CX P w) k fa fd ps sp
/-- no return within -/
def noRet : S → Bool
  | .skip => true
  | .seq a b => noRet a && noRet b
  | .asg _ _ => true
  | .expr _ => true
  | .fset _ _ _ => true
  | .raise _ => true
  | .ifs _ a b => noRet a && noRet b
  | _ => false
theorem noRet_ok (call : CallS) : ∀ (s : S) (r r' : Env) (d : D), noRet s = true → denS call s r ≠ .ret d r'
  | .skip, _, _, _, _ => by simp [denS]
  | .asg t e, r, r', d, _ => by
    rw [denS_asg]
    cases den call e r with
    | ok p => simp only; split <;> nofun
    | exc k => nofun
    | stuck => nofun
  | .expr e, r, r', d, _ => by
    rw [denS_expr]
    cases den call e r <;> nofun
  | .fset i k e, r, r', d, _ => by
    rw [denS_fset]
    cases den call e r with
    | ok p =>
      simp only [afterF]
      split
      · split
        · split
          · nofun
          · split <;> nofun
        · nofun
      · nofun
    | exc k => nofun
    | stuck => nofun
  | .raise _, _, _, _, _ => by simp [denS]
  | .seq a b, r, r', d, h => by
    simp only [noRet, Bool.and_eq_true] at h
    simp only [denS]
    cases e : denS call a r with
    | nxt r1 => simp only; exact noRet_ok call b r1 r' d h.2
    | ret d1 r1 => exact absurd e (noRet_ok call a r r1 d1 h.1)
    | exc k => nofun
    | stuck => nofun
  | .ifs c a b, r, r', d, h => by
    simp only [noRet, Bool.and_eq_true] at h
    simp only [denS]
    split
    · exact noRet_ok call a _ r' d h.1
    · exact noRet_ok call b _ r' d h.2
    · nofun
    · nofun
  | .asgM _ _ _, _, _, _, h => by cases h
  | .par _ _, _, _, _, h => by cases h
  | .append _ _, _, _, _, h => by cases h
  | .store _ _ _, _, _, _, h => by cases h
  | .sto2 _ _ _ _, _, _, _, h => by cases h
  | .dput _ _ _, _, _, _, h => by cases h
  | .ret _, _, _, _, h => by cases h
  | .for_ _ _ _, _, _, _, h => by cases h
  | .forO _ _ _, _, _, _, h => by cases h
  | .while_ _ _ _, _, _, _, h => by cases h
  | .fin _, _, _, _, h => by cases h
  | .metN _ _, _, _, _, h => by cases h
  | .metA _ _, _, _, _, h => by cases h
def rmF (F : Hp) (p : Addr) : Hp := fun b => if b = p then none else F b
theorem rm_same {F : Hp} {p : Addr} : rmF F p p = none := by unfold rmF; rw [if_pos rfl]
theorem rm_ne {F : Hp} {p b : Addr} (h : b ≠ p) : rmF F p b = F b := by unfold rmF; rw [if_neg h]
def isIns : HO → Prop
  | .ins _ _ _ => True
  | _ => False
mutual
theorem dp_rm {K : PySem.W.Frag} {F : Hp} {p : Addr} {o : HO} (e : F p = some o) (hi : isIns o) : ∀ (d : D) (v : V), Dp K F v d → Dp K (rmF F p) v d
  | .none, _, h => by cases h; exact .non
  | .bool _, _, h => by cases h; exact .bl _
  | .int _, _, h => by cases h; exact .int _
  | .str _, _, h => by cases h; exact .str _
  | .list ds, _, h => by
    cases h with
    | @lst a' _ _ h1 h2 =>
      have nb : a' ≠ p := fun z => by rw [z, e] at h1; cases h1; exact hi.elim
      exact .lst (by rw [rm_ne nb]; exact h1) (dpa_rm e hi ds _ h2)
  | .tuple ds, _, h => by
    cases h with
    | @tup a' _ _ h1 h2 =>
      have nb : a' ≠ p := fun z => by rw [z, e] at h1; cases h1; exact hi.elim
      exact .tup (by rw [rm_ne nb]; exact h1) (dpa_rm e hi ds _ h2)
  | .dict _, _, h => by cases h
theorem dpa_rm {K : PySem.W.Frag} {F : Hp} {p : Addr} {o : HO} (e : F p = some o) (hi : isIns o) : ∀ (ds : List D) (vs : List V), DpAll K F vs ds → DpAll K (rmF F p) vs ds
  | [], _, h => by cases h; exact .nil
  | d :: ds, _, h => by cases h with | cons h1 h2 => exact .cons (dp_rm e hi d _ h1) (dpa_rm e hi ds _ h2)
end
theorem dn_rm {K : PySem.W.Frag} {F : Hp} {p : Addr} {o : HO} (e : F p = some o) (hi : isIns o) {d : D} {v : V} (h : Dn K F v d) : Dn K (rmF F p) v d := by
  cases d with
  | dict kvs =>
    obtain ⟨a, kv, hv, ha, q⟩ := h
    have nb : a ≠ p := fun z => by rw [z, e] at ha; cases ha; exact hi.elim
    exact ⟨a, kv, hv, by rw [rm_ne nb]; exact ha, paired_imp (fun _ _ q => ⟨q.1, dp_rm e hi _ _ q.2⟩) q⟩
  | none => exact dp_rm e hi _ _ h
  | bool b => exact dp_rm e hi _ _ h
  | int b => exact dp_rm e hi _ _ h
  | str b => exact dp_rm e hi _ _ h
  | list b => exact dp_rm e hi _ _ h
  | tuple b => exact dp_rm e hi _ _ h
section
variable {P : Program} {w : World} {K : PySem.W.Frag} {mg : Str → Option Value} {base : Heap} {J : Hp → Prop} {hJ : ∀ H H' : Hp, (∀ b o, H b = some o → H' b = some o ∨ isMut o) → J H → J H'} {cl : Nat → Value} {T : Nat → Option FDef}
/-- the state at the start of a def whose first argument is the instance -/
theorem start_ins {c : Cfg} {F H : Hp} {us : List V} {ds : List D} {N : List Str} {n : Nat} {p : Addr} {s0 : Slot} {O : Addr → Prop} (sm : Same F H) (j : c.J H) (q : DnAll K F us ds) (hl : ds.length + 1 + n = N.length) (hs : SlotOk K F H s0 (some (.ref p))) (hO : isOwn s0 = true → O p)
    (hW : c.W = entC H F O (fun i o => i = 0 → o = some (.ref p))) : Stt K c (s0 :: (ds.map .sh ++ List.replicate n .un)) (L2.start N (.ref p :: us)) H F := by
  have hlu := dna_len q
  have own0 : ∀ i b, OwnAt (s0 :: (ds.map .sh ++ List.replicate n .un)) (L2.start N (.ref p :: us)) i b → i = 0 ∧ b = p ∧ isOwn s0 = true := fun i b ⟨h1, h2⟩ => by
    cases i with
    | zero =>
      have : vAt (L2.start N (.ref p :: us)) 0 = some (.ref p) := rfl
      rw [this] at h2; cases h2
      exact ⟨rfl, rfl, h1⟩
    | succ i =>
      have e : getS (s0 :: (ds.map .sh ++ List.replicate n .un)) (i + 1) = getS (ds.map .sh ++ List.replicate n .un) i := by simp [getS]
      rw [e, getS_app] at h1
      by_cases hi : i < (ds.map Slot.sh).length
      · rw [if_pos hi, (ok_args (H := H) q i).2] at h1; cases h1
      · rw [if_neg hi, getS_rep] at h1; cases h1
  refine ⟨⟨?_, sm, fun i => ?_, fun i k b z z' => ?_⟩, j, fun b o h nn => ?_, fun b ⟨i, z⟩ => ?_, fun i => ?_⟩
  · unfold L2.start
    simp only [List.length_cons, List.length_append, List.length_map, List.length_replicate]
    omega
  · cases i with
    | zero => exact hs
    | succ i =>
      have e1 : getS (s0 :: (ds.map .sh ++ List.replicate n .un)) (i + 1) = getS (ds.map .sh ++ List.replicate n .un) i := by simp [getS]
      have e2 : vAt (L2.start N (.ref p :: us)) (i + 1) = vAt (us.map some ++ List.replicate (N.length - (us.length + 1)) none) i := by
        unfold L2.start vAt; simp
      rw [e1, e2, getS_app, vAt_app, List.length_map, List.length_map, hlu]
      by_cases hi : i < ds.length
      · rw [if_pos hi, if_pos hi]; exact (ok_args q i).1
      · rw [if_neg hi, if_neg hi, getS_rep]; trivial
  · rw [(own0 i b z).1, (own0 k b z').1]
  · rw [hW] at h ⊢; exact ⟨rfl, .inl h⟩
  · rw [hW]; obtain ⟨_, e2, e3⟩ := own0 i b z; exact .inl (e2 ▸ hO e3)
  · rw [hW]; intro hi; subst hi; rfl
/-- the maker -/
theorem def_init {n f : Nat} {fd : FDef} {x qual : Str} {st : Stmt} {fa : Addr} {fdat : FuncData} {N ps : List Str} (hT : T f = some fd) (hio : fd.io = true) (hnr : noRet fd.body = true) (F : Fun K x qual st fa fdat) (S : FnScope N ps (defScope st)) (hnp : fd.np = ps.length + 200) (hns : fd.ns = N.length) (hle : ps.length ≤ fd.ns ∧ 1 ≤ ps.length ∧ ps.length ≤ 50)
    (hb : L2.Binds K fdat ps []) (hmk : Mk K (dkC K) fa)
    (der : ∀ (W : Ent) (E : XK) (cdv : Value) (A : Around) (outer : List PySem.Env) (s : Shared) (H : Hp), Free W [0] → Room (n + 1) (A.deeper (PyProof.Rows.envOfC qual (defScope st) s.heap.objs.size fa cdv)) →
      PSs (cxOf (L2N.CX P w) P w K mg base N qual (defScope st) fa cdv A outer s H E) (defBody st) (TSv K (cfg J hJ cl (run T n) W E) fd.body)) :
    MkAt P w K mg base (n + 2) (spI K J cl fun l => run T (n + 1) f (some []) l) := by
  have ent : ∀ ds : List D, ds.length ≤ 20 → entry fd (some []) ds = if ds.length + 1 = ps.length then some (.ins [] :: ds.map .sh ++ List.replicate (fd.ns - ps.length) .un, 1) else none := fun ds l20 => by
    simp only [entry]
    rw [if_neg (fun z => absurd z.2 (by omega)), if_neg (fun z => ?_)]
    · by_cases h : ds.length + 1 = ps.length
      · rw [if_pos ⟨hio, by omega⟩, if_pos h, hnp]; rfl
      · rw [if_neg (fun z => h (by omega)), if_neg (fun z => ?_), if_neg h]
        have := z.2; omega
    · have := z.2; omega
  refine ⟨fa, fdat, ps, hmk, hb, okN F S (fun vs H Q E h => ?_) fun cdv A outer s H vs Q E _ hr h => ?_⟩
  · obtain ⟨F, p, us, ds, rfl, _, _, _, _, q, l20, h⟩ := h
    simp only [run, hT, ent ds l20] at h
    by_cases hl : ds.length + 1 = ps.length
    · rw [List.length_cons, dna_len q, hl]
    · rw [if_neg hl] at h; exact h.elim
  · obtain ⟨F, p, us, ds, rfl, sm, j, fp, hi, q, l20, h⟩ := h
    refine ⟨_, der (entC H F (fun b => b = p) (fun i o => i = 0 → o = some (.ref p))) E cdv A outer s H (fun i hi o z => absurd (by rw [z]; exact List.mem_cons_self) hi) hr, ?_⟩
    simp only [run, hT, ent ds l20] at h
    by_cases hl : ds.length + 1 = ps.length
    · rw [if_pos hl] at h
      refine ⟨F, _, start_ins (c := cfg J hJ cl (run T n) (entC H F (fun b => b = p) (fun i o => i = 0 → o = some (.ref p))) E) (s0 := .ins []) (O := fun b => b = p) (n := fd.ns - ps.length) sm j q (by omega) ⟨p, rfl, fp, hi⟩ (fun _ => rfl) rfl, ?_⟩
      show OkS K _ F (denS (run T n) fd.body _) _
      cases ed : denS (run T n) fd.body (.ins [] :: (ds.map .sh ++ List.replicate (fd.ns - ps.length) .un)) with
      | nxt r =>
        simp only [List.cons_append, ed, endOf, behind] at h
        intro σ' H' F' x' _
        have z := x'.rel.ok 0
        have e0 : vAt σ' 0 = some (.ref p) := x'.pin 0 rfl
        cases eg : getS r 0 with
        | ins m' =>
          rw [eg] at z h
          simp only at h
          obtain ⟨p', z1, z2, z3⟩ := z
          rw [e0] at z1; cases z1
          exact h F' H' x'.rel.same (fun b o hb h => x'.kp b o h hb) z2 z3 x'.tie
        | lck m' =>
          rw [eg] at z h
          simp only at h
          obtain ⟨p', z1, dx, vs, z2, z3, z4⟩ := z
          rw [e0] at z1; cases z1
          have sr : Same (rmF F' p) H' := fun b o hb => by
            by_cases nb : b = p
            · rw [nb, rm_same] at hb; cases hb
            · rw [rm_ne nb] at hb; exact x'.rel.same b o hb
          exact h (rmF F' p) H' sr (fun b o hb h => by rw [rm_ne hb]; exact x'.kp b o h hb) rm_same ⟨dx, vs, x'.rel.same _ _ z2, z3, dpa_rm z2 trivial _ _ z4⟩ x'.tie
        | un => rw [eg] at h; exact h.elim
        | sh d => rw [eg] at h; exact h.elim
        | own d => rw [eg] at h; exact h.elim
        | dicT d => rw [eg] at h; exact h.elim
        | dicK d => rw [eg] at h; exact h.elim
        | exs d => rw [eg] at h; exact h.elim
      | ret d r => exact absurd ed (noRet_ok _ _ _ _ _ hnr)
      | exc k =>
        simp only [List.cons_append, ed, endOf] at h
        exact fun F' H' j' sm' kp' => h F' H' sm' (fun b o hb hh => kp' b o hh hb) j'
      | stuck => simp only [List.cons_append, ed, endOf] at h
    · rw [if_neg hl] at h; exact h.elim
/-- a method whose instance stays as it is -/
theorem def_lck {n f : Nat} {fd : FDef} {x qual : Str} {st : Stmt} {fa : Addr} {fdat : FuncData} {N ps : List Str} (hT : T f = some fd) (hio : fd.io = true) (F : Fun K x qual st fa fdat) (S : FnScope N ps (defScope st)) (hnp : fd.np = ps.length + 100) (hns : fd.ns = N.length) (hle : ps.length ≤ fd.ns ∧ 1 ≤ ps.length ∧ ps.length ≤ 50)
    (hb : L2.Binds K fdat ps []) (hme : Meth K (dkC K) x fa)
    (der : ∀ (W : Ent) (E : XK) (cdv : Value) (A : Around) (outer : List PySem.Env) (s : Shared) (H : Hp), Free W [0] → Room (n + 1) (A.deeper (PyProof.Rows.envOfC qual (defScope st) s.heap.objs.size fa cdv)) →
      PSs (cxOf (L2N.CX P w) P w K mg base N qual (defScope st) fa cdv A outer s H E) (defBody st) (TSv K (cfg J hJ cl (run T n) W E) fd.body)) :
    MtAt P w K mg base (n + 2) x (spM K J cl fun m => run T (n + 1) f (some m)) := by
  have ent : ∀ (m ds : List D), ds.length ≤ 20 → entry fd (some m) ds = if ds.length + 1 = ps.length then some (.lck m :: ds.map .sh ++ List.replicate (fd.ns - ps.length) .un, 1) else none := fun m ds l20 => by
    simp only [entry]
    rw [if_neg (fun z => absurd z.2 (by omega))]
    by_cases h : ds.length + 1 = ps.length
    · rw [if_pos ⟨hio, by omega⟩, if_pos h, hnp]; rfl
    · rw [if_neg (fun z => h (by omega)), if_neg (fun z => ?_), if_neg (fun z => ?_), if_neg h]
      · have := z.2; omega
      · have := z.2; omega
  refine ⟨fa, fdat, ps, hme, hb, okN F S (fun vs H Q E h => ?_) fun cdv A outer s H vs Q E _ hr h => ?_⟩
  · obtain ⟨F, p, us, m, ds, rfl, _, _, _, _, q, l20, h⟩ := h
    simp only [run, hT, ent m ds l20] at h
    by_cases hl : ds.length + 1 = ps.length
    · rw [List.length_cons, dna_len q, hl]
    · rw [if_neg hl] at h; exact h.elim
  · obtain ⟨F, p, us, m, ds, rfl, sm, j, fp, ⟨dx, vs, i1, i2, i3⟩, q, l20, h⟩ := h
    have sF : Same F (upd F p (.ins (dkC K) dx (dkF vs))) := same_upd fp
    have e2 : upd F p (.ins (dkC K) dx (dkF vs)) p = some (.ins (dkC K) dx (dkF vs)) := upd_same
    have sm2 : Same (upd F p (.ins (dkC K) dx (dkF vs))) H := fun b o hb => by
      by_cases nb : b = p
      · rw [nb] at hb ⊢; rw [e2] at hb; rw [← hb]; exact i1
      · rw [upd_ne nb] at hb; exact sm b o hb
    refine ⟨_, der (entC H (upd F p (.ins (dkC K) dx (dkF vs))) (fun _ => False) (fun i o => i = 0 → o = some (.ref p))) E cdv A outer s H (fun i hi o z => absurd (by rw [z]; exact List.mem_cons_self) hi) hr, ?_⟩
    simp only [run, hT, ent m ds l20] at h
    by_cases hl : ds.length + 1 = ps.length
    · rw [if_pos hl] at h
      refine ⟨upd F p (.ins (dkC K) dx (dkF vs)), _, start_ins (c := cfg J hJ cl (run T n) (entC H (upd F p (.ins (dkC K) dx (dkF vs))) (fun _ => False) (fun i o => i = 0 → o = some (.ref p))) E) (s0 := .lck m) (O := fun _ => False) (n := fd.ns - ps.length) sm2 j (dna_same sF q) (by omega)
        ⟨p, rfl, dx, vs, e2, i2, dpa_same sF _ _ i3⟩ (fun z => by cases z) rfl, ?_⟩
      show OkS K _ (upd F p (.ins (dkC K) dx (dkF vs))) (denS (run T n) fd.body _) _
      -- F' without the instance
      have back : ∀ {F' H' : Hp}, Same F' H' → Kp (entC H (upd F p (.ins (dkC K) dx (dkF vs))) (fun _ => False) (fun i o => i = 0 → o = some (.ref p))) F' H' →
          F' p = some (.ins (dkC K) dx (dkF vs)) ∧ Same (rmF F' p) H' ∧ (∀ b o, H b = some o → rmF F' p b = F b ∧ KO o (H' b)) := fun {F' H'} s1 k1 => by
        have z := k1 p _ i1 (fun z => z)
        refine ⟨z.1.trans e2, fun b o hb => ?_, fun b o hb => ?_⟩
        · by_cases nb : b = p
          · rw [nb, rm_same] at hb; cases hb
          · rw [rm_ne nb] at hb; exact s1 b o hb
        · have y := k1 b o hb (fun z => z)
          refine ⟨?_, y.2⟩
          by_cases nb : b = p
          · rw [nb, rm_same, fp]
          · rw [rm_ne nb, y.1]; exact upd_ne nb
      have fin : ∀ {r : Env} {σ' : St} {H' F' : Hp} {R0 : Prop} {d0 : D}, Stt K (cfg J hJ cl (run T n) (entC H (upd F p (.ins (dkC K) dx (dkF vs))) (fun _ => False) (fun i o => i = 0 → o = some (.ref p))) E) r σ' H' F' →
          ∀ {v : V}, Dn K F' v d0 → (match behind 1 r d0 with
            | .ok (d, m') => ∀ (v : V) (F' H' : Hp), Same F' H' → (∀ b o, b ≠ p → H b = some o → F' b = F b ∧ KO o (H' b)) → F' p = none → InsAt K F' H' p m' → J H' → Dn K F' v d → Q v H'
            | .exc k => ∀ (F' H' : Hp), Same F' H' → (∀ b o, H b = some o → F' b = F b ∧ KO o (H' b)) → J H' → E (cl k) none H'
            | .stuck => False) → Q v H' := fun {r σ' H' F' R0 d0} x' {v} q' h => by
        obtain ⟨b1, b2, b3⟩ := back x'.rel.same x'.kp
        have z := x'.rel.ok 0
        have e0 : vAt σ' 0 = some (.ref p) := x'.pin 0 rfl
        cases eg : getS r 0 with
        | ins m' =>
          exfalso
          rcases x'.own p ⟨0, by rw [eg]; rfl, e0⟩ with z | z
          · exact z
          · have z' : H p = none := z
            rw [i1] at z'; cases z'
        | lck m' =>
          simp only [behind, eg] at h
          rw [eg] at z
          obtain ⟨p', z1, dx', vs', z2, z3, z4⟩ := z
          rw [e0] at z1; cases z1
          exact h v (rmF F' p) H' b2 (fun b o _ hb => b3 b o hb) rm_same ⟨dx', vs', x'.rel.same _ _ z2, z3, dpa_rm z2 trivial _ _ z4⟩ x'.tie (dn_rm b1 trivial q')
        | un => simp only [behind, eg] at h
        | sh d => simp only [behind, eg] at h
        | own d => simp only [behind, eg] at h
        | dicT d => simp only [behind, eg] at h
        | dicK d => simp only [behind, eg] at h
        | exs d => simp only [behind, eg] at h
      cases ed : denS (run T n) fd.body (.lck m :: (ds.map .sh ++ List.replicate (fd.ns - ps.length) .un)) with
      | nxt r =>
        simp only [List.cons_append, ed, endOf] at h
        exact fun σ' H' F' x' _ => fin (R0 := True) (d0 := .none) x' (v := .non) Dp.non h
      | ret d r =>
        simp only [List.cons_append, ed, endOf] at h
        exact fun v σ' H' F' x' _ q' => fin (R0 := True) x' q' h
      | exc k =>
        simp only [List.cons_append, ed, endOf] at h
        exact fun F' H' j' sm' kp' => let ⟨_, b2, b3⟩ := back sm' kp'; h (rmF F' p) H' b2 b3 j'
      | stuck => simp only [List.cons_append, ed, endOf] at h
    · rw [if_neg hl] at h; exact h.elim
end
end Bm
end
section
set_option Elab.async false
set_option linter.all false
set_option maxRecDepth 100000
set_option maxHeartbeats 1000000
namespace Bm
open PySem PySem.Spec L2
/-- how many arguments are written -/
def lenE : E → Option Nat
  | .nil => some 0
  | .cons _ b => (lenE b).map (· + 1)
  | _ => none
theorem lenE_ok (call : CallS) : ∀ (a : E) (r r' : Env) (ds : List D) (n : Nat), lenE a = some n → den call a r = .ok (.list ds, r') → ds.length = n
  | .nil, r, r', ds, n, h, e => by
    simp only [den] at e
    cases e; cases h; rfl
  | .cons a b, r, r', ds, n, h, e => by
    simp only [lenE] at h
    cases hb : lenE b with
    | none => rw [hb] at h; cases h
    | some m =>
      rw [hb] at h
      cases h
      simp only [den] at e
      cases ea : den call a r with
      | ok p =>
        obtain ⟨x, r1⟩ := p
        rw [ea] at e
        simp only [R.ok_bind] at e
        cases eb : den call b r1 with
        | ok p =>
          obtain ⟨y, r2⟩ := p
          rw [eb] at e
          simp only [R.ok_bind] at e
          cases y with
          | list l =>
            cases e
            rw [List.length_cons, lenE_ok call b r1 _ l m hb eb]
          | none => cases e
          | bool _ => cases e
          | int _ => cases e
          | str _ => cases e
          | tuple _ => cases e
          | dict _ => cases e
        | exc k => rw [eb] at e; cases e
        | stuck => rw [eb] at e; cases e
      | exc k => rw [ea] at e; cases e
      | stuck => rw [ea] at e; cases e
theorem dk_none {m : Str} {vs : List V} (h : ∀ x ∈ dkNames, x ≠ m) : (dkF vs).lookup m = none := by
  have : ∀ (ns : List Str) (vs : List V), (∀ x ∈ ns, x ≠ m) → (ns.zip vs).lookup m = none := fun ns => by
    induction ns with
    | nil => intro vs _; rfl
    | cons n ns ih =>
      intro vs hn
      cases vs with
      | nil => rfl
      | cons v vs =>
        have hb : (m == n) = false := beq_eq_false_iff_ne.mpr fun z => hn n List.mem_cons_self z.symm
        simp only [List.zip_cons_cons, List.lookup, hb]
        exact ih vs fun x hx => hn x (List.mem_cons_of_mem _ hx)
  exact this _ vs h
section
variable {X : Cx} {c : Cfg} {e e1 e2 : Expr} {es es2 : List Expr} {a b m : E} {pos : Pos}
theorem tmp_go {K : PySem.W.Frag} {m : Str} {f0 f na nb : Nat} {σ : St} {H : Hp} {Q : VK} (hn : ∀ x ∈ dkNames, x ≠ m) (la : lenE a = some na) (lb : lenE b = some nb) (ha : na ≤ 20) (hb : nb ≤ 20) (h : TEv K c (.tmpM f0 f a b) σ H Q) :
    tMeth (dkC K) m (spM K c.J c.cl fun m => c.call f (some m)) [] c.E (tMake (dkC K) (spI K c.J c.cl fun l => c.call f0 (some []) l) [] c.E (TAv K c a)) (TAv K c b) σ H Q := by
  obtain ⟨F, r, x, h⟩ := h
  refine ⟨F, r, x, ?_⟩
  simp only [den] at h
  cases ea : den c.call a r with
  | ok p =>
    obtain ⟨d0, r1⟩ := p
    rw [ea] at h
    simp only [R.ok_bind] at h
    cases d0 with
    | list ds =>
      simp only at h
      have lds : ds.length = na := lenE_ok _ _ _ _ _ _ la ea
      intro vs F1 H1 x1 e1 s1 q1 p dx np ndx ne
      have h := OkE.shift h e1 s1
      rw [List.append_nil]
      have fp1 : F1 p = none := x1.rel.same.free np
      have keep : ∀ b o, H1 b = some o → upd (upd H1 dx (.own p)) p (.ins (dkC K) dx []) b = some o := fun b o hb => by
        rw [upd_ne (ne_of_none hb np), upd_ne (ne_of_none hb ndx)]; exact hb
      have fresh := x1.fresh np
      have sm1 : Same F1 (upd (upd H1 dx (.own p)) p (.ins (dkC K) dx [])) := fun b o hb => keep b o (x1.rel.same b o hb)
      refine ⟨F1, p, vs, ds, rfl, sm1, c.hJ H1 _ (fun b o hb => .inl (keep b o hb)) x1.tie, fp1, ⟨dx, [], upd_same, Nat.zero_le _, .nil⟩, q1, by omega, ?_⟩
      -- all that stood ahead of it
      have grow : ∀ {F' H' : Hp}, Same F' H' → (∀ b o, b ≠ p → upd (upd H1 dx (.own p)) p (.ins (dkC K) dx []) b = some o → F' b = F1 b ∧ KO o (H' b)) → Grow F1 H1 F' H' := fun {F' H'} sm kp => ⟨sm, fun b o hb => kp b o (ne_of_none hb np) (keep b o hb)⟩
      show match c.call f0 (some []) ds with | .ok (_, m') => _ | .exc k => _ | .stuck => False
      cases ec : c.call f0 (some []) ds with
      | ok pr =>
        obtain ⟨dr, m0⟩ := pr
        rw [ec] at h
        simp only at h
        intro F2 H2 sm kp fp ⟨dx2, vs2, i1, i2, i3⟩ j
        have g := grow sm kp
        have x2 := g.stt x1 j
        refine ⟨rfl, p, dx2, dkF vs2, rfl, i1, dk_none hn, F2, r1, x2, ?_⟩
        cases eb : den c.call b r1 with
        | ok pb =>
          obtain ⟨d3, r3⟩ := pb
          rw [eb] at h
          simp only [R.ok_bind] at h
          cases d3 with
          | list ds3 =>
            simp only at h
            have lds3 : ds3.length = nb := lenE_ok _ _ _ _ _ _ lb eb
            intro vs3 F3 H3 x3 e3 s3 q3
            have nO1 : ¬ Own r1 σ p := not_own x1.rel np
            have nO3 : ¬ Own r3 σ p := fun z => nO1 (s3 p z)
            have z3 := e3 p _ i1 nO1
            have h3p : H3 p = some (.ins (dkC K) dx2 (dkF vs2)) := z3.2.mut trivial
            have f3p : F3 p = none := z3.1.trans fp
            have e13 : Ef r1 σ F1 H1 F3 H3 := Ef.trans (r1 := r1) g.ef e3 fun _ z => z
            rw [List.append_nil]
            refine ⟨F3, p, vs3, m0, ds3, rfl, x3.rel.same, x3.tie, f3p, ⟨dx2, vs2, h3p, i2, dpa_same (e3.same x2.rel) _ _ i3⟩, q3, by omega, ?_⟩
            show match c.call f (some m0) ds3 with | .ok (d, m') => _ | .exc k => _ | .stuck => False
            cases em : c.call f (some m0) ds3 with
            | ok pm =>
              obtain ⟨d, m'⟩ := pm
              rw [em] at h
              simp only at h
              intro v F' H' sm' kp' fp' ia' j' qd
              have sF : Same F3 F' := fun b o hb => by
                have nb : b ≠ p := fun z => by rw [z, f3p] at hb; cases hb
                rw [(kp' b o nb (x3.rel.same b o hb)).1]; exact hb
              refine h v F' H' ⟨⟨x3.rel.len, sm', fun i => ?_, x3.rel.inj⟩, j', fun b o hb n => ?_, x3.own, x3.pin⟩ (fun b o hb n => ?_) s3 qd
              · refine slot_same sF (fun b o1 o2 hf ⟨o, ho, mu⟩ => ?_) (aside_but h3p trivial kp') (x3.rel.ok i)
                have nb : b ≠ p := fun z => nO3 ⟨i, o1, z ▸ o2⟩
                have y := kp' b o nb ho
                exact ⟨y.1.trans hf, (y.2.mut mu).trans ho.symm⟩
              · have y := x3.kp b o hb n
                have nb : b ≠ p := fun z => by
                  rcases fresh with w | w
                  · exact n (z ▸ w)
                  · rw [← z, hb] at w; cases w
                obtain ⟨o1, ho1⟩ := y.2.ex
                exact ⟨(kp' b o1 nb ho1).1.trans y.1, y.2.trans fun o' e' => (kp' b o' nb e').2⟩
              · have y := e13 b o hb n
                have nb : b ≠ p := ne_of_none hb np
                obtain ⟨o1, ho1⟩ := y.2.ex
                exact ⟨(kp' b o1 nb ho1).1.trans y.1, y.2.trans fun o' e' => (kp' b o' nb e').2⟩
            | exc k =>
              rw [em] at h
              simp only at h
              exact fun F' H' sm' kp' j' => h F' H' j' sm' (x3.kp.grow ⟨sm', kp'⟩)
            | stuck => rw [em] at h; exact h.elim
          | none => exact h.elim
          | bool _ => exact h.elim
          | int _ => exact h.elim
          | str _ => exact h.elim
          | tuple _ => exact h.elim
          | dict _ => exact h.elim
        | exc k => rw [eb] at h; exact h
        | stuck => rw [eb] at h; exact h.elim
      | exc k =>
        rw [ec] at h
        simp only at h
        exact fun F' H' sm kp j => h F' H' j sm (x1.kp.grow (grow sm kp))
      | stuck => rw [ec] at h; exact h.elim
    | none => exact h.elim
    | bool _ => exact h.elim
    | int _ => exact h.elim
    | str _ => exact h.elim
    | tuple _ => exact h.elim
    | dict _ => exact h.elim
  | exc k => rw [ea] at h; exact h
  | stuck => rw [ea] at h; exact h.elim
/-- Desk(a).m(b, ..) -/
theorem sv_tmp {f0 f k na nb : Nat} {m : Str} {p p1 apos : Pos} {pl : Sem Bool} (dk : DkOk X.K) (hi : MkAt X.prog X.w X.K X.mg X.base k (spI X.K c.J c.cl fun l => c.call f0 (some []) l)) (hm : MtAt X.prog X.w X.K X.mg X.base k m (spM X.K c.J c.cl fun m => c.call f (some m)))
    (hr : Room (k + 1) X.A) (hx : Passes (L2N.CX X.prog X.w) X c.E) (hg : Gl X "Desk") (hD : X.mg "Desk" = some (.ref (dkC X.K))) (ha : PA X (e :: es) (TAv X.K c a)) (hb : PA X (e2 :: es2) (TAv X.K c b)) (la : lenE a = some na) (lb : lenE b = some nb) (hna : na ≤ 20) (hnb : nb ≤ 20) (hn : ∀ x ∈ dkNames, x ≠ m)
    (he : starEach (e :: es) X.env = (false, eval e X.env) :: starEach es X.env := by rfl) (hpl : (backTo p1 (starEach es X.env)).any (·.1) = false := by rfl)
    (he2 : starEach (e2 :: es2) X.env = (false, eval e2 X.env) :: starEach es2 X.env := by rfl) (hpl2 : (backTo pos (starEach es2 X.env)).any (·.1) = false := by rfl)
    (ht : eval (.Call (.Attribute (.Call (.Name "Desk" p) (e :: es) [] p1) m apos) (e2 :: es2) [] pos) X.env = (do
      let ov ← eval (.Call (.Name "Desk" p) (e :: es) [] p1) X.env
      standAt apos.atName
      let (f, first) ← holding [ov] (getMethod ov m pl)
      callWith pos f first (backTo pos (starEach (e2 :: es2) X.env)) (backToKw pos (keywordEach [] X.env))) := by rfl) :
    PE X (.Call (.Attribute (.Call (.Name "Desk" p) (e :: es) [] p1) m apos) (e2 :: es2) [] pos) (TEv X.K c (.tmpM f0 f a b)) := by
  obtain ⟨fa, fd, ps, hmk, hbi, Fi⟩ := hi
  obtain ⟨fb, fd2, ps2, hme, hbm, Fm⟩ := hm
  exact PE.mono (pe_meth (dvs := []) (pe_make (dvs := []) hmk Fi hr hg hD hbi .nil hx ha (by decide) he hpl) dk.cls hme Fm (hr.mono (Nat.le_succ _)) hbm .nil hx hb he2 hpl2 ht) fun _ _ _ h => tmp_go hn la lb hna hnb h
theorem pe_meth0A {C f : Addr} {m : Str} {o : Expr} {ta : TE} {k : Nat} {fd : FuncData} {ps : List Str} {sp : Sp} {dvs : List V} {ds : List Value} {E : XK} {apos : Pos} {CX : CXT} {pl : Sem Bool} (he : PE X o ta) (cl : Cls X.K C) (hm : Meth X.K C m f) (F : FnOk X.prog X.w X.K X.mg X.base CX k f fd ps sp) (hr : Room k X.A) (hb : L2.Binds X.K fd ps ds) (hd : Vals dvs ds) (hx : Passes CX X E)
    (ht : eval (.Call (.Attribute o m apos) [] [] pos) X.env = (do
      let ov ← eval o X.env
      standAt apos.atName
      let (f, first) ← holding [ov] (getMethod ov m pl)
      callWith pos f first (backTo pos (starEach [] X.env)) (backToKw pos (keywordEach [] X.env))) := by rfl) :
    PE X (.Call (.Attribute o m apos) [] [] pos) (tMeth C m sp dvs E ta (TAv X.K c .nil)) := by
  refine ⟨fun pins s σ H Q I h => ?_⟩
  refine PySem.W.methodCall_KW (pl := pl) (thn (he.run pins s σ H _ I h) fun u s1 ⟨x, H1, I1, rx, a, dx, fs, ex, ea, l, q⟩ => ?_) ht
  subst ex
  obtain rfl : u = Value.ref a := rx
  refine getmeth_ok I1 ea cl hm l ?_
  obtain ⟨F1, r1, x1, h1⟩ := q
  have q := h1 [] F1 H1 x1 Ef.refl (fun _ z => z) .nil
  exact PySem.W.callWith_K0 (first := [.ref a]) I1.kIn hm.kp (run_fn (us := [.ref a]) (vs := [.ref a]) F hr hb hd hx I1 (.cons rfl .nil) q)
/-- Desk(a).m() -/
theorem sv_tmp0 {f0 f k na : Nat} {m : Str} {p p1 apos : Pos} {pl : Sem Bool} (dk : DkOk X.K) (hi : MkAt X.prog X.w X.K X.mg X.base k (spI X.K c.J c.cl fun l => c.call f0 (some []) l)) (hm : MtAt X.prog X.w X.K X.mg X.base k m (spM X.K c.J c.cl fun m => c.call f (some m)))
    (hr : Room (k + 1) X.A) (hx : Passes (L2N.CX X.prog X.w) X c.E) (hg : Gl X "Desk") (hD : X.mg "Desk" = some (.ref (dkC X.K))) (ha : PA X (e :: es) (TAv X.K c a)) (la : lenE a = some na) (hna : na ≤ 20) (hn : ∀ x ∈ dkNames, x ≠ m)
    (he : starEach (e :: es) X.env = (false, eval e X.env) :: starEach es X.env := by rfl) (hpl : (backTo p1 (starEach es X.env)).any (·.1) = false := by rfl)
    (ht : eval (.Call (.Attribute (.Call (.Name "Desk" p) (e :: es) [] p1) m apos) [] [] pos) X.env = (do
      let ov ← eval (.Call (.Name "Desk" p) (e :: es) [] p1) X.env
      standAt apos.atName
      let (f, first) ← holding [ov] (getMethod ov m pl)
      callWith pos f first (backTo pos (starEach [] X.env)) (backToKw pos (keywordEach [] X.env))) := by rfl) :
    PE X (.Call (.Attribute (.Call (.Name "Desk" p) (e :: es) [] p1) m apos) [] [] pos) (TEv X.K c (.tmpM f0 f a .nil)) := by
  obtain ⟨fa, fd, ps, hmk, hbi, Fi⟩ := hi
  obtain ⟨fb, fd2, ps2, hme, hbm, Fm⟩ := hm
  exact PE.mono (pe_meth0A (c := c) (dvs := []) (pe_make (dvs := []) hmk Fi hr hg hD hbi .nil hx ha (by decide) he hpl) dk.cls hme Fm (hr.mono (Nat.le_succ _)) hbm .nil hx ht) fun σ H Q h => tmp_go (m := m) (nb := 0) hn la rfl hna (by decide) h
end
end Bm
end
section
set_option Elab.async false
set_option linter.all false
set_option maxRecDepth 100000
set_option maxHeartbeats 1000000
namespace Bm
open PySem PySem.Spec L2
end Bm
end
section
set_option Elab.async false
set_option linter.all false
set_option maxRecDepth 100000
set_option maxHeartbeats 1000000
namespace Bm
open PySem PySem.Spec L2
end Bm
namespace Bm
open PySem PySem.Spec L2
section
variable {X : Cx} {c : Cfg} {e e1 e2 : Expr} {es : List Expr} {a b m : E} {pos : Pos}
theorem mt_sindex : MtR X "str.index" (fun x xs H Q => ∃ a b i rest, x = .str a ∧ xs = [.str b] ∧ Builtin.Str.occurrences a b 0 a.length 1 = i :: rest ∧ Q (.int (i : Nat)) H) := by
  intro pins s σ H x xs v us Q I rx rs h
  obtain ⟨a, b, i, rest, rfl, rfl, ho, h⟩ := h
  obtain ⟨t, rfl⟩ := rx
  cases rs with
  | cons r1 rs =>
    cases rs
    obtain ⟨u, rfl⟩ := r1
    exact PySem.SC.index ho ⟨.int (i : Nat), H, I.tok _, ⟨_, rfl⟩, h⟩
theorem occ_pos (x : Str) (k i : Nat) (h : posOf k (toL x) = some i) : ∃ rest, Builtin.Str.occurrences x ⟨#[k]⟩ 0 x.length 1 = i :: rest := by
  have e := find1_eq x k
  unfold Txt.find at e
  rw [h] at e
  cases ho : Builtin.Str.occurrences x ⟨#[k]⟩ 0 x.length 1 with
  | nil => rw [ho] at e; simp [posInt] at e
  | cons j rest =>
    rw [ho] at e
    refine ⟨rest, ?_⟩
    have : (j : Int) = (i : Int) := e
    rw [Int.ofNat_inj.mp this]
theorem rr_sindex {K : PySem.W.Frag} : ∀ z ds d' vs F H Q, Same F H → DnAll K F vs ds → opD .sindex (.str z :: ds) = some d' → Wish K F H d' Q → (fun (x : V) (xs : List V) (H : Hp) (Q : VK) => ∃ a b i rest, x = .str a ∧ xs = [.str b] ∧ Builtin.Str.occurrences a b 0 a.length 1 = i :: rest ∧ Q (.int (i : Nat)) H) (.str z) vs H Q := by
  intro z ds d' vs F H Q s q e w
  simp only [opD] at e; unfold dop_sindex at e
  split at e
  · rename_i z' t heq
    cases heq
    match q with
    | .cons q1 .nil =>
      have h1 := dn_str q1; subst h1
      cases hk : sign1 t with
      | none => rw [hk] at e; cases e
      | some k =>
        rw [hk] at e
        simp only [Option.bind_some] at e
        cases hp : posOf k (toL z) with
        | none => rw [hp] at e; cases e
        | some i =>
          rw [hp] at e
          cases e
          obtain ⟨rest, ho⟩ := occ_pos z k i hp
          rw [← sign1_eq hk] at ho
          exact ⟨z, t, i, rest, rfl, rfl, ho, w.here s (Dp.int _)⟩
  · cases e
theorem sv_sindex {apos cpos : Pos} (ho : PE X e1 (TEv X.K c a)) (ha : PE X e (TEv X.K c b)) (hline : (apos.endLine == cpos.line) = true := by rfl) (hbase : attributeBase e1 "index" X.env (eval e1 X.env) = eval e1 X.env := by rfl) (he : starEach [e] X.env = (false, eval e X.env) :: starEach [] X.env := by rfl) :
    PE X (.Call (.Attribute e1 "index" apos) [e] [] cpos) (TEv X.K c (.meth .sindex a (.cons b .nil))) := sv_meth PySem.F.slot_str_index PySem.F.type_str_index mt_sindex rr_sindex ho (sa_cons ha sa_nil he) hbase (by rw [he]; rfl) hline he rfl
theorem okFA_tup {K : PySem.W.Frag} {σ : St} {F H : Hp} {r : Env} {N : Ends} {is : List (Nat × Nat)} (x : Stt K c r σ H F) (hz : ZOk c (is.map (·.1))) (h : OkS K c F (denS c.call (.par is a) r) N) {Q : List V → Hp → Prop}
    (f : ∀ vs H1, vs.length = is.length → (∀ p, H1 p = none → N.nx (setAll σ (is.map (·.1)) vs) (upd H1 p (.tup vs))) → Q vs H1) : OkFA K c (is.map (·.2)) r σ F H (den c.call a r) Q := by
  simp only [denS] at h
  cases ed : den c.call a r with
  | ok p =>
    obtain ⟨d, r1⟩ := p
    rw [ed] at h
    cases d with
    | list ds =>
      simp only at h
      intro vs F1 H1 x1 e1 s1 q1 _
      cases ep : putPar is ds r1 with
      | none => rw [ep] at h; exact h.elim
      | some r2 =>
        rw [ep] at h
        have x2 := put_all is hz vs ds r1 r2 σ x1 q1 ep
        refine f vs H1 ?_ fun p np => ?_
        · have : ∀ {ms : List Nat} {us : List V} {cs : List D}, FrAll K c r1 σ F1 H1 ms us cs → us.length = ms.length := by
            intro ms us cs h
            induction h with
            | nil => rfl
            | cons _ _ _ ih => simp [ih]
          rw [this q1, List.length_map]
        · have g : Grow F1 H1 F1 (upd H1 p (.tup vs)) := Grow.lay x2.rel.same np
          exact h _ _ F1 (g.stt x2 (x2.jup np)) (e1.same x.rel)
    | none => exact h
    | bool _ => exact h
    | int _ => exact h
    | str _ => exact h
    | tuple _ => exact h
    | dict _ => exact h
  | exc k => rw [ed] at h; exact h
  | stuck => rw [ed] at h; exact h
end
end Bm
end
section
set_option Elab.async false
set_option linter.all false
set_option maxRecDepth 100000
set_option maxHeartbeats 1000000
namespace Bm
open PySem PySem.Spec L2
end Bm
end
section
set_option Elab.async false
set_option linter.all false
set_option maxRecDepth 100000
set_option maxHeartbeats 1000000
namespace Bm
open PySem PySem.Spec L2
section
variable {X : Cx} {c : Cfg} {e e1 e2 e3 : Expr} {es : List Expr} {a b m : E} {pos : Pos}
theorem tev_un1 {K : PySem.W.Frag} {o : Op} {rr : V → Hp → VK → Prop} (hr : OpS K o fun vs H Q => ∃ x, vs = [x] ∧ rr x H Q) {σ : St} {H : Hp} {Q : VK} (h : TEv K c (.op o (.cons a .nil)) σ H Q) : TEv K c a σ H fun v H1 => rr v H1 Q := by
  obtain ⟨F, r, x, t⟩ := tev_op hr h
  refine ⟨F, r, x, ?_⟩
  simp only [den] at t
  cases ed : den c.call a r with
  | ok p =>
    obtain ⟨d, r1⟩ := p
    rw [ed] at t
    simp only [R.ok_bind] at t
    intro v F1 H1 x1 ef so qd
    obtain ⟨z, hz, hq⟩ := t [v] F1 H1 x1 ef so (.cons qd .nil)
    cases hz
    exact hq
  | exc k => rw [ed] at t; exact t
  | stuck => rw [ed] at t; exact t
theorem tev_lmeth {K : PySem.W.Frag} {o : Op} {σ : St} {H : Hp} {Q : VK} {G : V → List V → Hp → Prop} (h : TEv K c (.lmeth o a b) σ H Q)
    (g : ∀ z x ds d' vs F2 H2, Same F2 H2 → Dn K F2 x (.list z) → DnAll K F2 vs ds → opD o (.list z :: ds) = some d' → Wish K F2 H2 d' Q → G x vs H2) : TEv K c a σ H fun x H1 => (∃ z F1, Same F1 H1 ∧ Dn K F1 x (.list z)) ∧ TAv K c b σ H1 fun vs H2 => G x vs H2 := by
  obtain ⟨F, r, x, h⟩ := h
  simp only [den] at h
  refine ⟨F, r, x, OkE.bind h fun d1 r1 v F1 H1 ⟨x1, _, _, q1⟩ h1 => ?_⟩
  cases d1 with
  | list z =>
    simp only at h1
    refine ⟨⟨z, F1, x1.rel.same, q1⟩, F1, r1, x1, OkA.bind h1 ?_ ?_⟩
    · intro d r1 nl
      cases d <;> first | rfl | exact absurd rfl (nl _)
    · intro ds r2 vs F2 H2 x2 e2 s2 q2 h2
      obtain ⟨d', ed, w⟩ := wish_of (ds := .list z :: ds) x2 h2
      exact g z v ds d' vs F2 H2 x2.rel.same (dn_same (e2.same x1.rel) q1) q2 ed w
  | none => exact h1.elim
  | bool _ => exact h1.elim
  | int _ => exact h1.elim
  | str _ => exact h1.elim
  | tuple _ => exact h1.elim
  | dict _ => exact h1.elim
theorem tyV_list {K : PySem.W.Frag} {H : Hp} {x : V} (h : ∃ z F1, Same F1 H ∧ Dn K F1 x (.list z)) : tyV K "list" x H := by
  obtain ⟨z, F1, s, q⟩ := h
  obtain ⟨p, xs, rfl, h1, _⟩ := dn_list q
  exact .inl ⟨rfl, xs, SqL.of (s _ _ h1)⟩
theorem sv_lmeth {o : Op} {name : Str} {id : String} {apos cpos : Pos} {rr : V → List V → Hp → VK → Prop} (slot : PySem.Slot "list" name id) (hty : typeOf (.builtin id) = pure (.type "method_descriptor")) (hm : MtR X id rr)
    (hr : ∀ z x ds d' vs F H Q, Same F H → Dn X.K F x (.list z) → DnAll X.K F vs ds → opD o (.list z :: ds) = some d' → Wish X.K F H d' Q → rr x vs H Q)
    (ho : PE X e1 (TEv X.K c a)) (ha : PA X (e :: es) (TAv X.K c b)) (hbase : attributeBase e1 name X.env (eval e1 X.env) = eval e1 X.env := by rfl)
    (hfew : ((backTo cpos (starEach (e :: es) X.env)).all (fun x => !x.1) && (backToKw cpos (keywordEach [] X.env)).all (fun x => x.1.isSome)
      && decide ((e :: es).length + ([] : List Keyword).length + (if ([] : List Keyword).isEmpty then 0 else 1) < 30)) = true := by rfl)
    (hline : (apos.endLine == cpos.line) = true := by rfl) (hs : starEach (e :: es) X.env = (false, eval e X.env) :: starEach es X.env := by rfl) (hplain : (backTo cpos (starEach es X.env)).any (·.1) = false := by rfl) :
    PE X (.Call (.Attribute e1 name apos) (e :: es) [] cpos) (TEv X.K c (.lmeth o a b)) := by
  refine PE.mono (pe_bm PySem.F.plainAttrs_list slot hty hm ho ha hbase hfew hline hs hplain) fun σ H Q h => ?_
  have h2 := tev_lmeth (G := fun x vs H2 => rr x vs H2 Q) h fun z x ds d' vs F2 H2 s q1 q e w => hr z x ds d' vs F2 H2 Q s q1 q e w
  exact TEv.imp h2 fun x H1 ⟨h3, h4⟩ => ⟨tyV_list h3, h4⟩
theorem ints_dp {K : PySem.W.Frag} {F : Hp} : ∀ {l : List D} {ns : List Int} {vs : List V}, allInt l = some ns → DpAll K F vs l → vs = ns.map V.int
  | [], ns, vs, h, q => by cases h; cases q; rfl
  | .int i :: l, ns, vs, h, q => by
    simp only [allInt] at h
    cases hl : allInt l with
    | none => rw [hl] at h; cases h
    | some ms =>
      rw [hl] at h
      cases h
      cases q with
      | cons q1 q2 =>
        cases q1
        rw [List.map_cons, ints_dp hl q2]
  | .none :: _, _, _, h, _ => by cases h
  | .bool _ :: _, _, _, h, _ => by cases h
  | .str _ :: _, _, _, h, _ => by cases h
  | .list _ :: _, _, _, h, _ => by cases h
  | .tuple _ :: _, _, _, h, _ => by cases h
  | .dict _ :: _, _, _, h, _ => by cases h
theorem ss_parC3 {i j k m1 m2 m3 : Nat} {x y z : Str} {px py pz pt : Pos} {e4 : Expr} {kt k2 pt2} (hg : PG X (.Tuple [.Name x px, .Name y py, .Name z pz] kt pt) (gTup X.K 3 (gNames [i, j, k]))) (ha : PA X [e1, e2, e4] (TAf X.K c [m1, m2, m3] a))
    (hw : swappedStores [.Tuple [.Name x px, .Name y py, .Name z pz] kt pt] (.Tuple [e1, e2, e4] k2 pt2) X.env = pure none := by rfl)
    (hs : swapsWithSole [.Tuple [.Name x px, .Name y py, .Name z pz] kt pt] (.Tuple [e1, e2, e4] k2 pt2) pos.line X.env = pure false := by rfl)
    (h1 : (assignEach [.Tuple [.Name x px, .Name y py, .Name z pz] kt pt] X.env).map (·.2) = [assign (.Tuple [.Name x px, .Name y py, .Name z pz] kt pt) X.env] := by rfl) (hz0 : ZOk c [i, j, k] := by exact ⟨_, by assumption, by decide⟩) :
    PS X (.Assign [.Tuple [.Name x px, .Name y py, .Name z pz] kt pt] (.Tuple [e1, e2, e4] k2 pt2) pos) (TSv X.K c (.par [(i, m1), (j, m2), (k, m3)] a)) := by
  refine PS.mono (ps_asg (pe_tup ha) hg hs hw h1) fun D σ H ⟨F, r, x, h⟩ => ⟨F, r, x, ?_⟩
  refine okFA_tup (is := [(i, m1), (j, m2), (k, m3)]) x hz0 h fun vs H1 hl hn => ?_
  match vs, hl with
  | [v, w, u], _ =>
    refine ⟨by show 3 ≤ sizeLine; rw [sizeLine_eq]; decide, fun p np => ⟨p, [v, w, u], rfl, .inl (.inl upd_same), rfl, ?_⟩⟩
    exact ⟨v, [w, u], rfl, w, [u], rfl, u, [], rfl, rfl, hn p np⟩
end
end Bm
end
section
set_option Elab.async false
set_option linter.all false
set_option maxRecDepth 100000
set_option maxHeartbeats 1000000
namespace Bm
open PySem PySem.Spec L2
end Bm
namespace Bm
open PySem PySem.Spec L2
end Bm
namespace Bm
open PySem PySem.Spec L2
end Bm
end
section
set_option Elab.async false
set_option linter.all false
set_option maxRecDepth 100000
set_option maxHeartbeats 1000000
namespace Bm
open PySem PySem.Spec L2 PyProof.Rows
section
variable {P : Program} {w : World} {A : Around} {E : Value → Shared → Prop} {s : Shared}
abbrev set0 (w : World) : Obj := { cls := .type "set", dict := none, data := .set #[] 0 (.fresh 0 0 (!w.params.followText "set-order")) }
/-- how the set at S is filled with items: J i behind i of them -/
structure Fills (P : Program) (w : World) (S : Addr) (items : Array Value) (J : Nat → Heap → Prop) : Prop where
  keep : ∀ i h h', (∀ o, h.get? S = some o → h'.get? S = some o) → J i h → J i h'
  add : ∀ (i : Nat) (v : Value) (A : Around) (E : Value → Shared → Prop) (s : Shared) (Q : Bool → Shared → Prop), items[i]? = some v → J i s.heap → (∀ b h' tk, Heap.SameBut S s.heap h' → s.toks ≤ tk → J (i + 1) h' → Q b { s with heap := h', toks := tk }) → wpAny (model P w) A (setAdd S v) Q E s
theorem set_updateG {I : Addr} {fp wr : List Addr} {G : Array GenState → Array GenState → Prop} {n : Nat} {Pv : Nat → Value → Prop} {St : Nat → Shared → Prop} {R : Result → Shared → Prop} {items : Array Value} {J : Nat → Heap → Prop}
    (W : WalksS P w A.in1 I fp wr G n Pv St) (S : Addr) (hSf : S ∉ fp) (F' : Fills P w S items J) (hval : ∀ i v, Pv i v → items[i]? = some v) :
    ∀ (k i : Nat) (s : Shared), n - i = k → i ≤ n → St i s → J i s.heap → (∀ s', Moved (S :: wr) G s s' → J n s'.heap → R (.ok (.ret .none)) s') →
      codeAny (model P w) A (.builtin "set.update.loop" ⟨[.ref S, .ref I], []⟩) R s := by
  have hSw : S ∉ wr := fun h => hSf (W.sub _ h)
  have hsub : ∀ b ∈ wr, b ∈ S :: wr := fun b hb => List.mem_cons_of_mem _ hb
  intro k
  induction k with
  | zero =>
    intro i s hk hi hst hJ hR
    have hin : i = n := by omega
    subst hin
    refine codeAny_builtin F.entry_set_update_loop ?_
    rw [Around.under_plainId F.plain_set_update_loop _]
    show wpAny _ A.in1 (pyNext (.ref I) >>= _) _ _ s
    refine wpAny_bind (W.done s _ _ hst fun s' hm => ?_)
    show wpAny _ A.in1 (ret Value.none) _ _ s'
    exact wpAny_pure (hR s' (hm.mono hsub) (F'.keep _ _ _ (fun o e => hm.heap S o hSw e) hJ))
  | succ k ih =>
    intro i s hk hi hst hJ hR
    have hlt : i < n := by omega
    refine codeAny_builtin F.entry_set_update_loop ?_
    rw [Around.under_plainId F.plain_set_update_loop _]
    show wpAny _ A.in1 (pyNext (.ref I) >>= _) _ _ s
    refine wpAny_bind (W.item i s _ _ hlt hst fun v s' hP hst' hm => ?_)
    have hJ' : J i s'.heap := F'.keep _ _ _ (fun o e => hm.heap S o hSw e) hJ
    show wpAny _ A.in1 (holding [v] (setAdd S v) >>= _) _ _ s'
    refine wpAny_bind (wpAny_holding (F'.add i v _ _ s' _ (hval i v hP) hJ' fun b h' tk hsb htk hJ2 => ?_))
    refine wpAny_pure ⟨plainId_quiet F.plain_set_update_loop _, ih (i + 1) _ (by omega) hlt (W.frame _ s' _ _ hst' htk fun b hb o e => ?_) hJ2 fun s'' hm'' hJ'' => ?_⟩
    · rw [hsb.2 b (fun h : b = S => hSf (by rw [← h]; exact hb))]; exact e
    · refine hR s'' (Moved.trans W.gtrans ((hm.mono hsub).then_heap htk fun b o hb e => ?_) hm'') hJ''
      rw [hsb.2 b (fun h : b = S => hb (by rw [h]; exact List.mem_cons_self))]; exact e
set_option maxHeartbeats 3200000 in
theorem call_set_listG {l : Addr} {items : Array Value} {J : Nat → Heap → Prop} {Q : Value → Shared → Prop} (hh : A.handled = none) (hl : s.heap.IsList l items) (h0 : ∀ h : Heap, h.get? s.heap.objs.size = some (set0 w) → J 0 h) (F' : Fills P w s.heap.objs.size items J)
    (h : ∀ (h' : Heap) (tk : Nat), J items.size h' → (∀ b o, s.heap.get? b = some o → h'.get? b = some o) → Q (.ref s.heap.objs.size) { s with heap := h', toks := tk }) :
    wpAny (model P w) A (call (.type "set") [.ref l]) Q E s := by
  obtain ⟨c, tl, hmro⟩ := F.called_set.mro
  have hmade := F.called_set.made
  have hsub := F.called_set.sub
  refine wpAny_call (codeAny_of_tree ?_)
  show wpAny _ _ (callAny (.type "set") _) _ _ _
  refine wpAny_pure ⟨Code.quiet_builtin _ (by decide +kernel), codeAny_builtin F.entry_type_call ?_⟩
  rw [Around.under_plain (weight_type_call_type "set" [.ref l] []) rfl]
  have h1 := F.called_set.notType
  have h2 := F.called_set.canCreate
  have hct := F.typeCall_set_1 (.ref l)
  repeat (any_goals (first | assumption | wp_step))
  refine codeAny_mono (code_set_led1 (.ref l) (E := E) (Q₁ := fun obj s₁ => obj = .ref s.heap.objs.size ∧ s₁ = { s with heap := s.heap.push (set0 w) }) ⟨rfl, rfl⟩) fun r s₁ hr => ?_
  cases r with
  | error e => exact hr
  | ok fl =>
    cases fl with
    | ret obj =>
      obtain ⟨rfl, rfl⟩ := hr
      have hS : (s.heap.push (set0 w)).get? s.heap.objs.size = some (set0 w) := Heap.get?_push_size _ rfl
      have hT : Shared.TypeIs { s with heap := s.heap.push (set0 w) } (.ref s.heap.objs.size) "set" := ⟨_, hS, rfl⟩
      have hli := F.called_set.init.lookup
      have hbi := F.called_set.init.bind (.ref s.heap.objs.size)
      repeat (any_goals (first | assumption | wp_step))
      refine codeAny_mono (codeAny_call_builtin (R := wants (fun r s₂ => r = .none ∧ ∃ h' tk, s₂ = { s with heap := h', toks := tk } ∧ J items.size h' ∧ (∀ b o, s.heap.get? b = some o → h'.get? b = some o)) E) F.called_set.init.plain F.entry_set_init (check_set_init_1 hT ?_)) fun r₂ s₂ hr₂ => ?_
      · obtain ⟨ol, hol, hcl, nl, hdl⟩ := hl
        obtain ⟨ocls, odict, odata, oslots⟩ := ol
        simp only at hcl hdl
        subst hcl; subst hdl
        have hol' : (s.heap.push (set0 w)).get? l = some { cls := .type "list", dict := odict, data := .seq items nl, slots := oslots } := Heap.get?_push_of_some _ hol
        have hsls := F.sub_list_set
        have hslf := F.sub_list_frozenset
        have hne : (Value.type "list" == Value.type "dict") = false := by decide
        have hl1 : (s.heap.push (set0 w)).IsList l items := ⟨_, hol', rfl, nl, rfl⟩
        unfold Builtin.«set.__init__» noKeywords Builtin.Frozenset.updateFrom
        generalize hPI : pyIter = PI
        wp_walk
        subst hPI
        refine wpAny_pyIter_list hl1 ?_
        refine wpAny_bind (wpAny_runValue ?_)
        have hlS : l < s.heap.objs.size := Heap.lt_size hol
        have hh3 : A.in1.in1.in1.handled = none := by simp [hh]
        have hneI : l ≠ (s.heap.push (set0 w)).objs.size := by
          rw [Heap.size_push]; exact Nat.ne_of_lt (Nat.lt_succ_of_lt hlS)
        have hSf : s.heap.objs.size ∉ [(s.heap.push (set0 w)).objs.size, l] := by
          rw [Heap.size_push]; simp only [List.mem_cons, List.mem_singleton, List.not_mem_nil, or_false, not_or]
          exact ⟨Nat.ne_of_lt (Nat.lt_succ_self _), Nat.ne_of_gt hlS⟩
        refine set_updateG ((Walks.list hh3 _ l hneI items).toS) s.heap.objs.size hSf F' (fun i v hv => hv) (items.size - 0) 0 _ (by omega) (Nat.zero_le _)
          ⟨⟨_, Heap.get?_push_size _ rfl, rfl, rfl⟩, (hl1.push _)⟩ (h0 _ (Heap.get?_push_of_some _ hS)) fun s' hm hJ => ?_
        obtain ⟨h', g2, d', tk', os'⟩ := s'
        have eg : g2 = s.gens := hm.gens
        have ed : d' = s.drawn := hm.drawn
        have eo : os' = s.os := hm.os
        subst eg; subst ed; subst eo
        show wpAny _ _ _ _ _ _
        refine wpAny_pure ?_
        show wpAny _ _ (ret Value.none) _ _ _
        refine wpAny_pure ⟨rfl, h', tk', rfl, hJ, fun b o e => ?_⟩
        have hb0 : b < s.heap.objs.size := Heap.lt_size e
        have hb1 : b ≠ s.heap.objs.size := Nat.ne_of_lt hb0
        have hb2 : b ≠ (s.heap.push (set0 w)).objs.size := by
          rw [Heap.size_push]; exact Nat.ne_of_lt (Nat.lt_succ_of_lt hb0)
        exact hm.heap b o (by simp only [List.mem_cons, List.mem_singleton, List.not_mem_nil, or_false, not_or]; exact ⟨hb1, hb2⟩) (Heap.get?_push_of_some _ (Heap.get?_push_of_some _ e))
      · cases r₂ with
        | error e => exact hr₂
        | ok fl₂ =>
          cases fl₂ with
          | ret r =>
            obtain ⟨rfl, h', tk, rfl, hJ, hk'⟩ := hr₂
            repeat (any_goals (first | assumption | wp_step))
            exact h _ _ hJ hk'
          | _ => exact hr₂.elim
    | _ => exact hr.elim
end
end Bm
end
section
set_option Elab.async false
set_option linter.all false
set_option maxRecDepth 100000
set_option maxHeartbeats 1000000
namespace Bm
open PySem PySem.Spec L2 PyProof.Rows
section
variable {P : Program} {w : World}
theorem fills_ints {S : Addr} {items : Array Value} {ns : List Int} (hi : IntsAre items.toList ns) (hb : ns.length + 1 < scanBound) : Fills P w S items fun i h => ∃ c, c ≤ i ∧ SetR w h S (fun j => decide (j ∈ ns.take i)) c where
  keep := fun i h h' k ⟨c, hc, R⟩ => ⟨c, hc, R.at k⟩
  add := fun i v A E s Q hv ⟨c, hc, hS⟩ hQ => by
    have hisz : items.size = ns.length := by
      have q := IntsAre.length hi
      rwa [Array.length_toList] at q
    have hil : i < ns.length := by rw [← hisz]; exact (Array.getElem?_eq_some_iff.mp hv).1
    obtain ⟨t, e⟩ := IntsAre.int_at hi i v (by rw [Array.getElem?_toList]; exact hv)
    have hz : ns[i]? = some ns[i] := List.getElem?_eq_getElem hil
    have e : v = .int ns[i] t := by rw [e, List.getD_eq_getElem?_getD, hz] <;> rfl
    subst e
    unfold setAdd
    refine wpAny_holding ?_
    refine wpAny_bind ((intKind P w).pyHash (k := ns[i]) (intKind_is _ _ _ _) ?_)
    refine setR_add_hashed (s := { s with toks := s.toks + 1 }) hS (by omega) fun h' hsb hS2 => ?_
    have hj : ∀ j, decide (j ∈ ns.take (i + 1)) = (decide (j ∈ ns.take i) || decide (j = ns[i])) := fun j => by
      rw [Bool.eq_iff_iff, List.take_add_one, hz]
      simp only [decide_eq_true_eq, Bool.or_eq_true, List.mem_append, Option.toList_some, List.mem_singleton]
    refine hQ _ h' (s.toks + 1) hsb (Nat.le_succ _) ⟨_, ?_, hS2.congr hj⟩
    split <;> omega
end
section
variable {X : Cx} {c : Cfg} {e : Expr} {a : E} {pos : Pos}
def tSset (K : PySem.W.Frag) (ta : TE) : TE := fun σ H Q => ta σ H fun x H1 => ∃ (l : Addr) (ns : List Int), x = .ref l ∧ SqL K H1 l (ns.map V.int) ∧ ns.length < 64 ∧ ∀ (out : List Int) (p : Addr), out.Pairwise (· < ·) → (∀ k, k ∈ out ↔ k ∈ ns) → H1 p = none → Q (.ref p) (upd H1 p (.lst (out.map V.int)))
theorem pe_ssetI {a : Expr} {ta : TE} {p p2 q : Pos} (hc : X.calm = true) (hg : Gl X "sorted") (hm : X.mg "sorted" = none) (hg2 : Gl X "set") (hm2 : X.mg "set" = none) (ha : PE X a ta)
    (na : starEach [a] X.env = (false, eval a X.env) :: starEach [] X.env := by rfl) (nb : starEach [.Call (.Name "set" p2) [a] [] q] X.env = (false, eval (.Call (.Name "set" p2) [a] [] q) X.env) :: starEach [] X.env := by rfl) : PE X (.Call (.Name "sorted" p) [.Call (.Name "set" p2) [a] [] q] [] pos) (tSset X.K ta) := by
  refine ⟨fun pins s σ H Q I h => ?_⟩
  refine Call_ (ld_blt I hg hm boot_sorted' ?_)
  refine PyProof.Rows.callWith_builtin1 (PyProof.Rows.args_cons ?_ nb) nb rfl
  refine Call_ (ld_blt I hg2 hm2 boot_set ?_)
  refine PyProof.Rows.callWith_type1 (PyProof.Rows.args_cons (thn (ha.run pins s σ H _ I h) fun v s1 ⟨x, H1, I1, r1, q1⟩ => PyProof.Rows.args_nil ?_) na) na rfl
  obtain ⟨l, ns, rfl, hq, h64, q1⟩ := q1
  cases r1
  obtain ⟨its, r, pl, hz⟩ := I1.list hq
  have hi : IntsAre its.toArray.toList ns := by simpa using RZ.intsAre_vals r
  have hsz : its.toArray.size = ns.length := by
    have q := IntsAre.length hi
    rwa [Array.length_toList] at q
  refine call_set_listG (I1.ok.hd hc) pl.isList (fun h ho => ⟨0, Nat.le_refl 0, setR_new_at ho⟩) (fills_ints hi (by unfold scanBound; omega)) fun h' tk ⟨cc, hcc, R⟩ hk => ?_
  refine PyProof.Rows.args_nil ?_
  have I2 : Inv X pins σ H1 { s1 with heap := h', toks := tk } := I1.kept hk
  refine sorted_set (s := { s1 with heap := h', toks := tk }) R (I2.ok.hd hc) (by omega) fun s' p out c' ns' k g o hp hgp hi' hs hm' hl => ?_
  have hlen : (ns'.map V.int).length ≤ sizeLine := by rw [List.length_map, hl, sizeLine_eq]; omega
  have hn : H1 p = none := I2.hok.fresh hp
  have J : Inv X pins σ (upd H1 p (.lst (ns'.map V.int))) { { s1 with heap := h', toks := tk } with heap := s'.heap, gens := s'.gens, drawn := s'.drawn, toks := s'.toks } :=
    I2.call (ch := []) (Un.laid k hp hn) (I2.hok.laid k hp ⟨hlen, out.toList, c', vals_of_ints hi', hgp⟩) (by rw [g]; exact I2.bare) (fun _ z => nomatch z)
  have e : s' = { { s1 with heap := h', toks := tk } with heap := s'.heap, gens := s'.gens, drawn := s'.drawn, toks := s'.toks } := by
    cases s'
    cases s1
    cases o
    rfl
  rw [e]
  refine ⟨.ref p, _, J, rfl, q1 ns' p hs (fun k => ?_) hn⟩
  rw [hm' k, decide_eq_true_eq, List.take_of_length_le (by omega)]
end
end Bm
end
section
set_option Elab.async false
set_option linter.all false
set_option maxRecDepth 100000
set_option maxHeartbeats 1000000
namespace Bm
open PySem PySem.Spec L2 PyProof.Rows
/-- the text of an entry -/
def keyS (e : Int × Value) : Str := match e.2 with | .str k _ => k | _ => ""
def GoodS (w : World) (e : Int × Value) : Prop := ∃ k tk, e.2 = Value.str k tk ∧ e.1 = hashStr w k
/-- the set of texts at a: its entries' texts are ks, each once -/
def SetS (w : World) (h : Heap) (a : Addr) (ks : List Str) : Prop :=
  ∃ o es ep t, h.get? a = some o ∧ o.ExactSet ∧ o.data = .set es ep t ∧ (∀ e ∈ es.toList, GoodS w e) ∧ (es.toList.map keyS).Perm ks ∧ ks.Nodup ∧ ks.length < scanBound ∧ t.fits es.size = true ∧ Ris t.place.toList ∧ (w.params.followText "set-order" = true ∨ t.led = true)
section
variable {P : Program} {w : World} {A : Around} {E : Value → Shared → Prop} {s : Shared} {a : Addr} {ks : List Str}
theorem SetS.at {h h' : Heap} (R : SetS w h a ks) (k : ∀ o, h.get? a = some o → h'.get? a = some o) : SetS w h' a ks := by
  obtain ⟨o, es, ep, t, ho, r⟩ := R
  exact ⟨o, es, ep, t, k o ho, r⟩
theorem goodS_elems {l : List (Int × Value)} (g : ∀ e ∈ l, GoodS w e) : ElemsOf (PySem.strKind P w) l := fun e he => by
  obtain ⟨k, tk, h1, h2⟩ := g e he
  exact ⟨⟨k, by rw [h1]; exact strKind_is P w k tk, h2⟩, by rw [h1] <;> rfl⟩
theorem goodS_is {e : Int × Value} (g : GoodS w e) (k : Str) : (PySem.strKind P w).is k e.2 = true ↔ keyS e = k := by
  obtain ⟨k0, tk, h1, _⟩ := g
  unfold keyS
  rw [h1]
  constructor
  · intro h
    exact (PySem.strKind P w).inj _ _ _ (strKind_is P w k0 tk) h
  · rintro rfl
    exact strKind_is P w _ tk
theorem setS_new {h : Heap} (ho : h.get? a = some (set0 w)) : SetS w h a [] :=
  ⟨_, #[], 0, _, ho, ⟨rfl, rfl, rfl⟩, rfl, (fun e he => by simp at he), (by simp), (by simp), (by decide), (by rfl), List.Pairwise.nil, by
    show _ ∨ (!w.params.followText "set-order") = true
    cases w.params.followText "set-order"
    · exact .inr rfl
    · exact .inl rfl⟩
/-- what is stored behind an add -/
theorem setS_tail {g : Bool → Sem Unit} (hg : ∀ (b : Bool) (s₁ : Shared) (Q' : Unit → Shared → Prop), Q' () s₁ → wpAny (model P w) A (g b) Q' E s₁)
    {o : Obj} {es : Array (Int × Value)} {ep : Nat} {t : SetTable} (ho : s.heap.get? a = some o) (hex : o.ExactSet) (hd : o.data = .set es ep t)
    {es1 : Array (Int × Value)} {t2 : SetTable} (g1 : ∀ e ∈ es1.toList, GoodS w e) (pm1 : (es1.toList.map keyS).Perm ks) (nd1 : ks.Nodup) (hb1 : ks.length < scanBound) (hf2 : t2.fits es1.size = true) (hr : Ris t2.place.toList)
    (hl : w.params.followText "set-order" = true ∨ t2.led = true) {wasDummy : Bool} {R : Option Bool → Shared → Prop} (hR : ∀ h', Heap.SameBut a s.heap h' → SetS w h' a ks → R (some true) { s with heap := h' }) :
    wpAny (model P w) A (do
        storeSet a es1 t2
        if (!wasDummy && t2.tooFull) = true then do
            g (relayAll t2 es1 (SetTable.grown es1.size)).2.2
            storeSet a (relayAll t2 es1 (SetTable.grown es1.size)).1 (relayAll t2 es1 (SetTable.grown es1.size)).2.1
            pure (some true)
          else pure (some true)) R E s := by
  have hsz1 : es1.size = ks.length := by rw [← Array.length_toList, ← pm1.length_eq, List.length_map]
  have hb1' : es1.size < scanBound := by rw [hsz1]; exact hb1
  refine wpAny_bind (wpAny_storeSet_of ho hd ?_ (fits_of_scanBound hb1'))
  have ho1 := store_at (es' := es1) (t' := t2) ho hd
  have sb1 := Heap.SameBut.update s.heap a (Obj.putSet es1 t2)
  split
  · have pm := relayAll_perm t2 es1 (SetTable.grown es1.size)
    have hf3 := relayAll_fits t2 es1 (SetTable.grown es1.size)
    have hr3 := relayAll_ris t2 es1 (SetTable.grown es1.size)
    have hl3 := relayAll_led t2 es1 (SetTable.grown es1.size)
    generalize relayAll t2 es1 (SetTable.grown es1.size) = Z at pm hf3 hr3 hl3 ⊢
    obtain ⟨es2, t3, gave⟩ := Z
    dsimp only at pm hf3 hr3 hl3 ⊢
    have hsz : es2.size = es1.size := by rw [← Array.length_toList, pm.length_eq, Array.length_toList]
    refine wpAny_bind (hg _ _ _ ?_)
    refine wpAny_bind (wpAny_storeSet_of ho1 rfl ?_ (fits_of_scanBound (by rw [hsz]; exact hb1')))
    have ho2 := store_at (es' := es2) (t' := t3) ho1 rfl
    refine wpAny_pure (hR _ (sb1.trans (Heap.SameBut.update _ a _)) ?_)
    exact ⟨_, es2, _, t3, ho2, hex, rfl, fun e he => g1 e (pm.mem_iff.mp he), (pm.map keyS).trans pm1, nd1, hb1, hf3, hr3, hl.imp id fun z => by rw [hl3]; exact z⟩
  · exact wpAny_pure (hR _ sb1 ⟨_, es1, _, t2, ho1, hex, rfl, g1, pm1, nd1, hb1, hf2, hr, hl⟩)
/-- what is there with k -/
def withS (ks : List Str) (k : Str) : List Str := if k ∈ ks then ks else k :: ks
theorem setS_add_hashed {k : Str} {tk : Tok} {Q : Bool → Shared → Prop} (R : SetS w s.heap a ks) (room : ks.length + 1 < scanBound)
    (hQ : ∀ b h', Heap.SameBut a s.heap h' → SetS w h' a (withS ks k) → Q b { s with heap := h' }) :
    wpAny (model P w) A (setAddHashed a (.str k tk) ((PySem.strKind P w).hash k)) Q E s := by
  obtain ⟨o, es, ep, t, ho, hex, hd, g, pmk, nd, hb, hf, hr, hl⟩ := R
  have hes : es.size = ks.length := by rw [← Array.length_toList, ← pmk.length_eq, List.length_map]
  have hbe : es.size < scanBound := by rw [hes]; exact hb
  have hkey : (PySem.strKind P w).is k (.str k tk) = true := strKind_is P w k tk
  have hsc : (Value.str k tk).scannable = true := rfl
  have hel : ElemsOf (PySem.strKind P w) es.toList := goodS_elems g
  unfold setAddHashed setAddHashedIn
  refine wpAny_holding (wpAny_bind (wpAny_setState_of ho hd hf ?_))
  dsimp only
  rw [byScan_of hsc hbe hel]
  simp only [↓reduceIte]
  unfold setAddByScan
  refine wpAny_bind ?_
  refine wpAny_bind (wpAny_rule ?_)
  refine wpAny_bind (wpAny_setScan_of hkey ho hd hf hel ?_)
  cases hfi : List.findIdx? (fun e => (PySem.strKind P w).is k e.2) es.toList with
  | some j =>
    dsimp only
    obtain ⟨hj, pj, _⟩ := List.findIdx?_eq_some_iff_getElem.mp hfi
    have hk : k ∈ ks := pmk.subset (List.mem_map.mpr ⟨_, List.getElem_mem hj, (goodS_is (P := P) (g _ (List.getElem_mem hj)) k).mp pj⟩)
    refine wpAny_pure (wpAny_pure (hQ _ s.heap (Heap.SameBut.refl a s.heap) ?_))
    unfold withS
    rw [if_pos hk]
    exact ⟨o, es, ep, t, ho, hex, hd, g, pmk, nd, hb, hf, hr, hl⟩
  | none =>
    dsimp only
    have hnk : k ∉ ks := fun z => by
      obtain ⟨e, he, q⟩ := List.mem_map.mp (pmk.symm.subset z)
      have c := List.findIdx?_eq_none_iff.mp hfi e he
      rw [(goodS_is (P := P) (g e he) k).mpr q] at c
      cases c
    have hw : withS ks k = k :: ks := by unfold withS; rw [if_neg hnk]
    rw [hw] at hQ
    have hgw : ∀ (b : Bool) {s₁ : Shared} {Q' : Unit → Shared → Prop}, Q' () s₁ → wpAny (model P w) A (match b with | true => rule "set.scan.the-table-gave-way" | false => pure ()) Q' E s₁ :=
      fun b s₁ Q' q => by cases b <;> first | exact wpAny_pure q | exact wpAny_rule q
    have pm := layNew_perm t es ((PySem.strKind P w).hash k) (.str k tk)
    have hf1 := layNew_fits t es ((PySem.strKind P w).hash k) (.str k tk)
    have hr1 := layNew_ris t es ((PySem.strKind P w).hash k) (.str k tk) hr
    have hl1 := layNew_led t es ((PySem.strKind P w).hash k) (.str k tk)
    generalize layNew t es ((PySem.strKind P w).hash k) (.str k tk) = Z at pm hf1 hr1 hl1 ⊢
    obtain ⟨es1, t1, wasDummy, gave⟩ := Z
    dsimp only at pm hf1 hr1 hl1 ⊢
    rw [Array.toList_push] at pm
    have pc : es1.toList.Perm (((PySem.strKind P w).hash k, Value.str k tk) :: es.toList) := pm.trans (List.perm_append_singleton _ _)
    have pk : (es1.toList.map keyS).Perm (k :: ks) := (pc.map keyS).trans (List.Perm.cons k pmk)
    have g1 : ∀ e ∈ es1.toList, GoodS w e := fun e he => by
      rcases List.mem_cons.mp (pc.mem_iff.mp he) with z | z
      · rw [z]; exact ⟨k, tk, rfl, rfl⟩
      · exact g e z
    have nd1 : (k :: ks).Nodup := List.nodup_cons.mpr ⟨hnk, nd⟩
    have hled : w.params.followText "set-order" = true ∨ t1.led = true := hl.imp id fun z => by rw [hl1]; exact z
    refine wpAny_bind (hgw _ ?_)
    split
    · refine wpAny_bind ?_
      rw [hashByValue_scannable 8 hsc]
      refine wpAny_pure ?_
      refine setS_tail (ks := k :: ks) ?_ ho hex hd g1 pk nd1 room ?_ ?_ ?_ ?_
      · intro b s₁ Q' q; cases b <;> first | exact wpAny_pure q | exact wpAny_rule q
      · first | (split <;> first | exact hf1 | exact SetTable.fits_plain_off hf1) | exact hf1
      · first | (split <;> exact hr1) | exact hr1
      · first | (split <;> exact hled) | exact hled
      · intro h' sb r; dsimp only; exact wpAny_pure (hQ _ h' sb r)
    · refine wpAny_bind (wpAny_pure ?_)
      simp only [↓reduceIte]
      refine setS_tail (ks := k :: ks) ?_ ho hex hd g1 pk nd1 room hf1 hr1 hled ?_
      · intro b s₁ Q' q; cases b <;> first | exact wpAny_pure q | exact wpAny_rule q
      · intro h' sb r; dsimp only; exact wpAny_pure (hQ _ h' sb r)
end
end Bm
end
section
set_option Elab.async false
set_option linter.all false
set_option maxRecDepth 100000
set_option maxHeartbeats 1000000
namespace Bm
open PySem PySem.Spec L2
section
variable {X : Cx}
def pairS (z : Str) : V × D := (V.str z, PyData.str z)
theorem texts_each {vs : List Value} {zs : List Str} (h : Vals (zs.map V.str) vs) (h' : Heap) :
    PySem.W.EachIs (fun (v : Value) (b : V × D) => RelV b.1 v) vs (zs.map pairS) ∧ PySem.W.EachIs (fun (v : Value) (b : V × D) => ∃ as, Reads h' v b.2 as) vs (zs.map pairS) := by
  have hl : vs.length = (zs.map pairS).length := by rw [List.length_map, ← h.length, List.length_map]
  have key : ∀ p ∈ vs.zip (zs.map pairS), ∃ z t, p = (Value.str z t, pairS z) := fun p hp => by
    obtain ⟨i, hi⟩ := List.getElem?_of_mem hp
    rw [List.getElem?_zip_eq_some] at hi
    obtain ⟨h1, h2⟩ := hi
    rw [List.getElem?_map] at h2
    cases hz : zs[i]? with
    | none => rw [hz] at h2; cases h2
    | some z =>
      rw [hz] at h2
      obtain ⟨u, hu, t, hu'⟩ := h.get (i := i) (x := .str z) (by rw [List.getElem?_map, hz]; rfl)
      rw [hu] at h1
      cases h1
      refine ⟨z, t, ?_⟩
      obtain ⟨p1, p2⟩ := p
      simp only [Option.map_some, Option.some.injEq] at h2
      simp only at hu'
      rw [← h2, hu']
  refine ⟨PySem.W.EachIs.of_zip hl fun p hp => ?_, PySem.W.EachIs.of_zip hl fun p hp => ?_⟩
  · obtain ⟨k, t, rfl⟩ := key p hp
    exact ⟨t, rfl⟩
  · obtain ⟨k, t, rfl⟩ := key p hp
    exact ⟨_, Reads.str _ _⟩
theorem texts_alike (zs : List Str) : PySem.W.AllAlike (zs.map PyData.str) := fun d hd d' hd' => by
  obtain ⟨x, _, rfl⟩ := List.mem_map.mp hd
  obtain ⟨y, _, rfl⟩ := List.mem_map.mp hd'
  rfl
theorem texts_sortable (zs : List Str) : PySem.W.Sortable (zs.map PyData.str) := .inr fun d hd => by
  obtain ⟨x, _, rfl⟩ := List.mem_map.mp hd
  exact ⟨fun e => (by cases e), fun _ e => (by cases e)⟩
theorem vals_keyS {w : World} : ∀ (l : List (Int × Value)), (∀ e ∈ l, GoodS w e) → Vals ((l.map keyS).map V.str) (l.map (·.2))
  | [], _ => .nil
  | e :: l, g => by
    obtain ⟨k, tk, h1, _⟩ := g e List.mem_cons_self
    refine .cons ?_ (vals_keyS l fun x hx => g x (List.mem_cons_of_mem _ hx))
    show RelV (V.str (keyS e)) e.2
    unfold keyS
    rw [h1]
    exact ⟨tk, rfl⟩
theorem vals_perm {xs : List Str} {us vs : List Value} (h : Vals (xs.map V.str) us) (p : vs.Perm us) : ∃ ys : List Str, ys.Perm xs ∧ Vals (ys.map V.str) vs := by
  induction p generalizing xs with
  | nil =>
    cases xs with
    | nil => exact ⟨[], .refl _, .nil⟩
    | cons x xs => cases h
  | @cons v l1 l2 _ ih =>
    cases xs with
    | nil => cases h
    | cons x xs =>
      cases h with
      | cons r t =>
        obtain ⟨ys, p, q⟩ := ih t
        exact ⟨x :: ys, p.cons x, .cons r q⟩
  | swap a b l =>
    match xs, h with
    | x :: y :: xs, .cons r1 (.cons r2 t) => exact ⟨y :: x :: xs, List.Perm.swap _ _ _, .cons r2 (.cons r1 t)⟩
  | trans _ _ ih1 ih2 =>
    obtain ⟨ys, p1, q1⟩ := ih2 h
    obtain ⟨zs, p2, q2⟩ := ih1 q1
    exact ⟨zs, p2.trans p1, q2⟩
theorem sorted_setS {pins : List (Addr × Obj)} {s : Shared} {σ : St} {H : Hp} {Q : VK} {a : Addr} {ks : List Str} (hc : X.calm = true) (hu : X.A.units + 64 < cLine) (I : Inv X pins σ H s) (R : SetS X.w s.heap a ks) (hks : ks.length ≤ lim)
    (q : ∀ (p : Addr) (zs : List Str) (us : List V) (F : Hp), zs.Perm ks → H p = none → DpAll X.K F us (isort dle (zs.map PyData.str)) → Q (.ref p) (upd H p (.lst us))) :
    wpAny (model X.prog X.w) X.A (call (.builtin "sorted") [.ref a]) (EP X pins σ Q) X.xe s := by
  obtain ⟨o, es, ep, t, ho, hex, hd, g, pmk, nd, hb, hf, hr, hl⟩ := R
  have hes : es.size = ks.length := by rw [← Array.length_toList, ← pmk.length_eq, List.length_map]
  have hh : X.A.handled = none := I.ok.hd hc
  refine PySem.Calls.call_function_entry PyProof.Rows.kind_sorted PyProof.Rows.plain_sorted PyProof.Rows.entry_sorted (PyProof.Rows.args_sorted1 _) ?_
  unfold Builtin.«sorted»
  refine wpAny_bind (m := checkCount "sorted" 1 1 _) (wpAny_pure ?_)
  refine wpAny_bind (collect_set (A := X.A.in1) hh ⟨o, ho, hex.1, hd⟩ hf (by rw [hes]; exact hb) hr hl fun s1 vs k1 hz g1 o1 pm => ?_)
  obtain ⟨zs, pz, hv0⟩ := vals_perm (vals_keyS es.toList g) pm
  have pzk : zs.Perm ks := pz.trans pmk
  have hzl : zs.length ≤ lim := by rw [pzk.length_eq]; exact hks
  have hal : vs.length = zs.length := by rw [← hv0.length, List.length_map]
  refine wpAny_bind (wpAny_newList ?_ (by rw [hal]; exact lim_line hzl))
  have hoL : (s1.heap.push (PyProof.Rows.seqObj "list" vs.toArray 0)).get? s1.heap.objs.size = some (PyProof.Rows.seqObj "list" vs.toArray 0) := Heap.get?_push_size _ rfl
  have sg := texts_each hv0 (PySem.W.sortingHeap (s1.heap.push (PyProof.Rows.seqObj "list" vs.toArray 0)) s1.heap.objs.size vs)
  have hm : (zs.map pairS).map (·.2) = zs.map PyData.str := by rw [List.map_map]; rfl
  have hal' : PySem.W.AllAlike ((zs.map pairS).map (·.2)) := by rw [hm]; exact texts_alike _
  refine wpAny_bind (wpAny_holding (wpAny_call_entry PyProof.Rows.slot_list_sort ⟨_, hoL, rfl⟩ PyProof.Rows.entry_list_sort (PySem.W.list_sort_vals (κ := PySem.W.dataKind (PySem.W.sortingHeap (s1.heap.push (PyProof.Rows.seqObj "list" vs.toArray 0)) s1.heap.objs.size vs) ((zs.map pairS).map (·.2))) hoL (PySem.W.SortsAt.data (PySem.W.each_map (R := fun v d => ∃ as, Reads (PySem.W.sortingHeap (s1.heap.push (PyProof.Rows.seqObj "list" vs.toArray 0)) s1.heap.objs.size vs) v d as) (fun p : V × D => p.2) sg.2) hal' (by rw [hm]; exact texts_sortable _) ?_) (by rw [hal]; exact lim_line hzl) ⟨.none, rfl, ?_⟩) (PyProof.Rows.args_list_sort _)))
  · intro d hd
    rw [hm] at hd
    obtain ⟨k, _, rfl⟩ := List.mem_map.mp hd
    show _ + (PyData.str _).depth < _
    simp only [PyData.depth]
    omega
  · have eo := PySem.W.sortVals_data false sg.1 sg.2 hal'
    generalize PySem.W.sortVals _ false vs vs = out at eo
    obtain ⟨c, hc'⟩ := PyProof.Rows.sortedHeap_at (vs := vs) (out := out.toArray) hoL
    have hv := vals_each eo
    have hn0 : s.heap.get? s1.heap.objs.size = none := by
      cases e : s.heap.get? s1.heap.objs.size with
      | none => rfl
      | some o => exact absurd (Heap.lt_size (k1 _ _ e)) (Nat.lt_irrefl _)
    have hH : H s1.heap.objs.size = none := (I.hok.kept k1).fresh (Nat.le_refl _)
    refine wpAny_pure ⟨_, rfl, .ref s1.heap.objs.size, _, laid_s (p := s1.heap.objs.size) (ob := .lst _) I (fun b u e => ?_) hn0 hH g1 o1 ⟨?_, out, c, hv, hc'⟩, rfl, q _ zs _ H pzk hH ?_⟩
    · have q := k1 b u e
      have hlt := Heap.lt_size q
      show (PyProof.Rows.sortedHeap (s1.heap.push (PyProof.Rows.seqObj "list" vs.toArray 0)) s1.heap.objs.size vs out.toArray).get? b = some u
      rw [PyProof.Rows.sortedHeap_old (Nat.ne_of_lt hlt) (by rw [PyProof.Rows.size_push']; exact Nat.lt_succ_of_lt hlt)]
      exact Heap.get?_push_of_some _ q
    · rw [List.length_map, List.length_mergeSort, List.length_map]; exact lim_line hzl
    · have hs : ((zs.map pairS).mergeSort (PySem.W.dataLe false (·.2))).map (·.2) = isort dle (zs.map PyData.str) := by
        rw [isort_merge]
        conv => rhs; rw [← hm]
        exact PySem.W.sort_maps (fun p : V × D => p.2) fun a _ b _ => rfl
      rw [← hs]
      refine dpa_of_each _ fun p hp => ?_
      obtain ⟨k, _, rfl⟩ := List.mem_map.mp ((List.mergeSort_perm _ _).mem_iff.mp hp)
      exact Dp.str _
end
end Bm
end
section
set_option Elab.async false
set_option linter.all false
set_option maxRecDepth 100000
set_option maxHeartbeats 1000000
namespace Bm
open PySem PySem.Spec L2 PyProof.Rows
section
variable {P : Program} {w : World}
theorem mem_withS {ks : List Str} {k x : Str} : x ∈ withS ks k ↔ x ∈ ks ∨ x = k := by
  unfold withS
  by_cases h : k ∈ ks
  · rw [if_pos h]
    exact ⟨.inl, fun z => z.elim id fun e => e ▸ h⟩
  · rw [if_neg h, List.mem_cons]
    exact Or.comm
/-- few different ones -/
def Few (xs : List Str) : Prop := ∀ l : List Str, l.Nodup → (∀ k ∈ l, k ∈ xs) → l.length ≤ 2000
end
section
variable {X : Cx} {c : Cfg} {e : Expr} {a : E} {pos : Pos}
theorem SetS.nodup {w : World} {h : Heap} {a : Addr} {ks : List Str} (R : SetS w h a ks) : ks.Nodup := by
  obtain ⟨o, es, ep, t, ho, hex, hd, g, pmk, nd, r⟩ := R
  exact nd
end
end Bm
namespace Bm
open PySem PySem.Spec L2 PyProof.Rows
end Bm
end
section
set_option Elab.async false
set_option linter.all false
set_option maxRecDepth 100000
set_option maxHeartbeats 1000000
namespace Bm
open PySem PySem.Spec L2
end Bm
end
section
set_option Elab.async false
set_option linter.all false
namespace Bm
open PySem
theorem nub_mem {α : Type} [DecidableEq α] (x : α) : ∀ l : List α, x ∈ nub l ↔ x ∈ l
  | [] => by simp [nub]
  | y :: r => by
    by_cases h : y ∈ r
    · rw [nub, if_pos h, nub_mem x r, List.mem_cons]
      refine ⟨.inr, fun z => ?_⟩
      rcases z with z | z
      · rw [z]; exact h
      · exact z
    · rw [nub, if_neg h, List.mem_cons, nub_mem x r, List.mem_cons]
theorem nub_nodup {α : Type} [DecidableEq α] : ∀ l : List α, (nub l).Nodup
  | [] => by simp [nub]
  | y :: r => by
    by_cases h : y ∈ r
    · rw [nub, if_pos h]; exact nub_nodup r
    · rw [nub, if_neg h, List.nodup_cons]
      exact ⟨fun z => h ((nub_mem y r).mp z), nub_nodup r⟩
theorem perm_nodup {α : Type} [DecidableEq α] {l m : List α} (h1 : l.Nodup) (h2 : m.Nodup) (h : ∀ x, x ∈ l ↔ x ∈ m) : l.Perm m := by
  rw [List.perm_iff_count]
  intro a
  have c : ∀ {l : List α}, l.Nodup → l.count a = if a ∈ l then 1 else 0 := fun {l} n => by
    by_cases z : a ∈ l
    · rw [if_pos z]; exact Nat.le_antisymm (List.nodup_iff_count.mp n a) (List.count_pos_iff.mpr z)
    · rw [if_neg z]; exact List.count_eq_zero.mpr z
  rw [c h1, c h2]
  simp only [h a]
theorem sub_len {α : Type} [DecidableEq α] : ∀ (l m : List α), l.Nodup → (∀ x ∈ l, x ∈ m) → l.length ≤ m.length
  | [], _, _, _ => Nat.zero_le _
  | x :: l, m, h, s => by
    have hx := s x List.mem_cons_self
    have := sub_len l (m.erase x) (List.nodup_cons.mp h).2 fun y hy => (List.mem_erase_of_ne (fun (e : y = x) => (List.nodup_cons.mp h).1 (by rw [← e]; exact hy))).mpr (s y (List.mem_cons_of_mem _ hy))
    rw [List.length_erase_of_mem hx] at this
    have := List.length_pos_of_mem hx
    simp only [List.length_cons]
    omega
end Bm
end
section
set_option Elab.async false
set_option linter.all false
set_option maxRecDepth 100000
set_option maxHeartbeats 1000000
namespace Bm
open PySem PySem.Spec L2
theorem x3_ins_perm (le : D → D → Bool) (x : D) : ∀ l : List D, (ins le x l).Perm (x :: l)
  | [] => .refl _
  | y :: r => by
    rw [ins]
    split
    · exact .refl _
    · exact ((x3_ins_perm le x r).cons y).trans (.swap ..)
theorem x3_isort_perm (le : D → D → Bool) : ∀ l : List D, (isort le l).Perm l
  | [] => .refl _
  | x :: r => (x3_ins_perm le x _).trans ((x3_isort_perm le r).cons x)
theorem x3_sorted_eq {l m : List D} (p : l.Perm m) (h1 : l.Pairwise (fun a b => dle a b = true)) (h2 : m.Pairwise (fun a b => dle a b = true)) (an : ∀ a ∈ l, ∀ b ∈ l, dle a b = true → dle b a = true → a = b) : l = m :=
  p.eq_of_pairwise (fun a b ha hb => an a ha b (p.mem_iff.mpr hb)) h1 h2
theorem x3_isort_eq {l m : List D} (p : l.Perm m) (an : ∀ a ∈ l, ∀ b ∈ l, dle a b = true → dle b a = true → a = b) : isort dle l = isort dle m :=
  x3_sorted_eq (((x3_isort_perm dle l).trans p).trans (x3_isort_perm dle m).symm) (isort_sorted l) (isort_sorted m) fun a ha b hb => an a ((x3_isort_perm dle l).mem_iff.mp ha) b ((x3_isort_perm dle l).mem_iff.mp hb)
end Bm
namespace Bm
open PySem PySem.Spec L2
theorem x3_str (a b : List Nat) : dle (dS a) (dS b) = !decide (b < a) := by
  unfold dle
  rw [PySem.W.dataLt_str]
  show (!decide (toL (st b) < toL (st a))) = _
  rw [toL_st, toL_st]
theorem x3_int (a b : Int) : dle (.int a) (.int b) = decide (a ≤ b) := by
  unfold dle
  have : PySem.W.dataLt (.int b) (.int a) = decide (b < a) := PySem.W.dataLt_int b a
  rw [this]
  by_cases h : a ≤ b
  · rw [decide_eq_true h, decide_eq_false (by omega)]; rfl
  · rw [decide_eq_false h, decide_eq_true (by omega)]; rfl
theorem x3_strA {a b : List Nat} (h1 : dle (dS a) (dS b) = true) (h2 : dle (dS b) (dS a) = true) : a = b := by
  rw [x3_str] at h1 h2
  simp only [Bool.not_eq_true', decide_eq_false_iff_not] at h1 h2
  exact List.le_antisymm h1 h2
/-- texts, in another order -/
theorem x3_isort_texts {l m : List (List Nat)} (p : l.Perm m) : isort dle (l.map dS) = isort dle (m.map dS) := by
  refine x3_isort_eq (p.map _) fun a ha b hb h1 h2 => ?_
  obtain ⟨x, _, rfl⟩ := List.mem_map.mp ha
  obtain ⟨y, _, rfl⟩ := List.mem_map.mp hb
  rw [x3_strA h1 h2]
theorem x3_isort_ints {l m : List Int} (p : l.Perm m) (s : m.Pairwise (· < ·)) : isort dle (l.map .int) = m.map .int := by
  have e : isort dle (m.map PyData.int) = m.map .int := by
    refine x3_sorted_eq (x3_isort_perm _ _) (isort_sorted _) ?_ fun a ha b hb h1 h2 => ?_
    · refine List.pairwise_map.mpr (s.imp fun {a b} h => ?_)
      rw [x3_int]; exact decide_eq_true (by omega)
    · obtain ⟨x, _, rfl⟩ := List.mem_map.mp ((x3_isort_perm dle _).mem_iff.mp ha)
      obtain ⟨y, _, rfl⟩ := List.mem_map.mp ((x3_isort_perm dle _).mem_iff.mp hb)
      rw [x3_int, decide_eq_true_eq] at h1 h2
      rw [Int.le_antisymm h1 h2]
  rw [← e]
  refine x3_isort_eq (p.map _) fun a ha b hb h1 h2 => ?_
  obtain ⟨x, _, rfl⟩ := List.mem_map.mp ha
  obtain ⟨y, _, rfl⟩ := List.mem_map.mp hb
  rw [x3_int, decide_eq_true_eq] at h1 h2
  rw [Int.le_antisymm h1 h2]
theorem x3_toL_nodup {l : List Str} (nd : l.Nodup) : (l.map toL).Nodup := List.Pairwise.map toL (fun a b (n : a ≠ b) (e : toL a = toL b) => n (by have := congrArg st e; simpa using this)) nd
theorem x3_dpa_ints {K : PySem.W.Frag} {F : Hp} : ∀ l : List Int, DpAll K F (l.map V.int) (l.map PyData.int)
  | [] => .nil
  | x :: r => .cons (Dp.int x) (x3_dpa_ints r)
theorem x3_dpa_texts {K : PySem.W.Frag} {F F' : Hp} {zs : List Str} : ∀ {l : List D} {us : List V}, (∀ d ∈ l, d ∈ zs.map PyData.str) → DpAll K F' us l → DpAll K F us l
  | _, _, _, .nil => .nil
  | d :: l, _, h, .cons h1 t => by
    obtain ⟨z, _, e⟩ := List.mem_map.mp (h d List.mem_cons_self)
    subst e
    cases h1
    exact .cons (Dp.str z) (x3_dpa_texts (fun d hd => h d (List.mem_cons_of_mem _ hd)) t)
section
variable {X : Cx} {c : Cfg} {e e1 e2 e3 : Expr} {es : List Expr} {a b m : E} {pos : Pos}
theorem sv_ssetI {p p2 q : Pos} (hc : X.calm = true) (hg : Gl X "sorted") (hm : X.mg "sorted" = none) (hg2 : Gl X "set") (hm2 : X.mg "set" = none) (ha : PE X e (TEv X.K c a))
    (na : starEach [e] X.env = (false, eval e X.env) :: starEach [] X.env := by rfl) (nb : starEach [.Call (.Name "set" p2) [e] [] q] X.env = (false, eval (.Call (.Name "set" p2) [e] [] q) X.env) :: starEach [] X.env := by rfl) :
    PE X (.Call (.Name "sorted" p) [.Call (.Name "set" p2) [e] [] q] [] pos) (TEv X.K c (.op .ssetI (.cons a .nil))) := by
  refine PE.mono (pe_ssetI hc hg hm hg2 hm2 ha na nb) fun σ H Q h => tev_un1 (rr := fun x H1 Q => ∃ (l : Addr) (ns : List Int), x = .ref l ∧ SqL X.K H1 l (ns.map V.int) ∧ ns.length < 64 ∧ ∀ (out : List Int) (p : Addr), out.Pairwise (· < ·) → (∀ k, k ∈ out ↔ k ∈ ns) → H1 p = none → Q (.ref p) (upd H1 p (.lst (out.map V.int)))) ?_ h
  intro ds d vs F H Q s q e w
  simp only [opD] at e; unfold dop_ssetI at e
  split at e
  · rename_i l
    match q with
    | .cons q1 .nil =>
      obtain ⟨p, xs, rfl, h1, h2⟩ := dn_list q1
      cases en : allInt l with
      | none => rw [en] at e; cases e
      | some ns =>
        rw [en] at e
        obtain ⟨hl, e⟩ := guardO_some e
        rw [decide_eq_true_eq] at hl
        have hx := ints_dp en h2
        subst hx
        refine ⟨_, rfl, p, ns, rfl, SqL.of (s _ _ h1), hl, fun out p' so mo np => ?_⟩
        have ei : isort dle ((nub ns).map .int) = out.map .int := x3_isort_ints (perm_nodup (nub_nodup ns) (so.imp fun {a b} h => Int.ne_of_lt h) fun x => (nub_mem x ns).trans (mo x).symm) so
        have e' := Option.some.inj e
        rw [ei] at e'
        subst e'
        refine Wish.lst w s np ?_
        exact x3_dpa_ints out
  · cases e
theorem x3_few_of {ss : List (List Nat)} (h : (nub ss).length ≤ 2000) : Few (ss.map st) := fun l nd hl => by
  have : (l.map toL).length ≤ (nub ss).length := sub_len _ _ (x3_toL_nodup nd) fun x hx => by
    obtain ⟨y, hy, rfl⟩ := List.mem_map.mp hx
    obtain ⟨z, hz, rfl⟩ := List.mem_map.mp (hl y hy)
    rw [toL_st]; exact (nub_mem z ss).mpr hz
  rw [List.length_map] at this
  omega
theorem x3_toL_perm {ss : List (List Nat)} {zs : List Str} (nd : zs.Nodup) (mz : ∀ k, k ∈ zs ↔ k ∈ ss.map st) : (nub ss).Perm (zs.map toL) := by
  refine perm_nodup (nub_nodup ss) (x3_toL_nodup nd) fun x => ?_
  rw [nub_mem]
  constructor
  · intro h
    exact List.mem_map.mpr ⟨st x, (mz _).mpr (List.mem_map.mpr ⟨x, h, rfl⟩), toL_st x⟩
  · intro h
    obtain ⟨y, hy, rfl⟩ := List.mem_map.mp h
    obtain ⟨z, hz, rfl⟩ := List.mem_map.mp ((mz y).mp hy)
    rw [toL_st]; exact hz
end
end Bm
namespace Bm
open PySem PySem.Spec L2
section
variable {X : Cx} {c : Cfg} {e e1 e2 e3 : Expr} {es : List Expr} {a b m : E} {pos : Pos}
/-- x += e for ints -/
theorem ss_aug {i : Nat} {x : Str} {p1 : Pos} (hN : X.N.Nodup) (hi : X.N[i]? = some x) (hx : Loc X.env.scope x) (he : PE X e (TEv X.K c a)) (hz : ZOk c [i] := by exact ⟨_, by assumption, by decide⟩) (hf : X.fn x = true ∨ X.env.scope.names.lookup x = some .local := by first | exact .inl rfl | exact .inr rfl | assumption) :
    PS X (.AugAssign (.Name x p1) .Add e pos) (TSv X.K c (.asg (.name i) (.op .iadd (.cons (.var i) (.cons a .nil))))) := by
  refine PS.mono (ps_aug hN hi hx he ip_add hf) fun D σ H ⟨F, r, y, h⟩ => ?_
  rw [denS_asg] at h
  have hsl := y.rel.ok i
  simp only [den] at h
  cases hs : getS r i with
  | un => rw [hs] at h; exact h.elim
  | dicT l => rw [hs] at h; exact h.elim
  | dicK l => rw [hs] at h; exact h.elim
  | ins l => rw [hs] at h; exact h.elim
  | lck l => rw [hs] at h; exact h.elim
  | exs l => rw [hs] at h; exact h.elim
  | own l =>
    rw [hs] at h
    simp only [R.ok_bind] at h
    cases ed : den c.call a (putS r i (.sh (.list l))) with
    | ok p => rw [ed] at h; exact h.elim
    | exc k =>
      obtain ⟨b, q1, F', x', ef, so, dn⟩ := y.freeze hs
      have hh : OkS X.K c F (.exc k) D := by rw [ed] at h; exact h
      refine ⟨.ref b, vAt_some q1, F', _, x', ?_⟩
      rw [ed]
      exact hh
    | stuck => rw [ed] at h; exact h.elim
  | sh d =>
    rw [hs] at h hsl
    obtain ⟨v, hv, hd⟩ := hsl
    simp only [R.ok_bind] at h
    refine ⟨v, vAt_some hv, F, r, y, ?_⟩
    cases ed : den c.call a r with
    | ok p =>
      obtain ⟨d2, r1⟩ := p
      rw [ed] at h
      simp only [R.ok_bind, opD] at h
      intro u F1 H1 x1 ef so qu
      cases d with
      | int j =>
        cases d2 with
        | int k =>
          have ev := dn_int hd
          have eu := dn_int qu
          subst ev; subst eu
          refine ⟨j, k, rfl, rfl, ?_⟩
          simp only [dop_iadd, R.opt_some, R.ok_bind, bindT] at h
          exact h _ H1 F1 (x1.put_sh hz (show Dn X.K F1 (.int (j + k)) (.int (j + k)) from Dp.int _)) (ef.same y.rel)
        | _ => exact h.elim
      | _ => exact h.elim
    | exc k => rw [ed] at h; exact h
    | stuck => rw [ed] at h; exact h.elim
end
end Bm
end
section
set_option Elab.async false
set_option linter.all false
set_option maxRecDepth 100000
set_option maxHeartbeats 1000000
namespace Bm
open PySem PySem.Spec L2
open PyProof.Rows hiding St
/-- the objects of the frame keep their data -/
def Fk (X : Cx) (h h' : Heap) : Prop := ∀ b ob, (b = X.env.locals ∨ ∃ x, X.env.cells.lookup x = some b) → h.get? b = some ob → ∃ sl, h'.get? b = some { ob with slots := sl }
theorem Fk.refl {X : Cx} {h : Heap} : Fk X h h := fun b ob _ e => ⟨ob.slots, e⟩
theorem Fk.trans {X : Cx} {h h1 h2 : Heap} (a : Fk X h h1) (b : Fk X h1 h2) : Fk X h h2 := fun c ob z e => by
  obtain ⟨sl, e1⟩ := a c ob z e
  obtain ⟨sl2, e2⟩ := b c _ z e1
  exact ⟨sl2, e2⟩
theorem Fk.grown {X : Cx} {h h' : Heap} (k : ∀ b ob, h.get? b = some ob → h'.get? b = some ob) : Fk X h h' := fun b ob _ e => ⟨ob.slots, k b ob e⟩
theorem Fk.of_un {X : Cx} {pins : List (Addr × Obj)} {σ : St} {H H' : Hp} {s : Shared} {h' : Heap} {fs : List Addr} (I : Inv X pins σ H s) (un : Un fs [] H H' s.heap h') : Fk X s.heap h' := fun b ob z e => by
  refine un.any e ?_ (by simp)
  rcases z with rfl | ⟨x, hx⟩
  · exact I.free
  · exact I.freeC x b hx
/-- a good value: a text with a token that is out -/
def Gd (u : Value) (s : Shared) : Prop := ∃ y t, u = .str y t ∧ 0 < t ∧ t < s.toks
theorem Gd.mono {u : Value} {s s' : Shared} (h : Gd u s) (k : s.toks ≤ s'.toks) : Gd u s' := by
  obtain ⟨y, t, e, a, b⟩ := h
  exact ⟨y, t, e, a, Nat.lt_of_lt_of_le b k⟩
/-- the name x holds a good value -/
def GV (X : Cx) (x : Str) (s : Shared) : Prop := ∃ u m, s.heap.Ns X.env.locals m ∧ Look X.env s.heap m x u ∧ Gd u s
theorem GV.fk {X : Cx} {x : Str} {s s' : Shared} (g : GV X x s) (f : Fk X s.heap s'.heap) (k : s.toks ≤ s'.toks) : GV X x s' := by
  obtain ⟨u, m, ⟨ob, es, ep, e, d, r⟩, l, gd⟩ := g
  obtain ⟨sl, e'⟩ := f _ ob (.inl rfl) e
  refine ⟨u, m, ⟨_, es, ep, e', d, r⟩, ?_, gd.mono k⟩
  rcases l with l | ⟨kd, c, hc, oc, ec, dc⟩
  · exact .inl l
  · obtain ⟨sl2, e2⟩ := f c oc (.inr ⟨x, hc⟩) ec
    exact .inr ⟨kd, c, hc, _, e2, dc⟩
abbrev FQ {α : Type} (X : Cx) (s : Shared) (R : α → Shared → Prop) : α → Shared → Prop := fun u s' => R u s' ∧ Fk X s.heap s'.heap
structure PEF (X : Cx) (e : Expr) (t : TE) : Prop where
  go : ∀ (pins : List (Addr × Obj)) (s : Shared) (σ : St) (H : Hp) (Q : VK), Inv X pins σ H s → t σ H Q → wpAny (model X.prog X.w) X.A (eval e X.env) (FQ X s (EP X pins σ Q)) X.xe s
structure PTF (X : Cx) (e : Expr) (t : TT) : Prop where
  go : ∀ (pins : List (Addr × Obj)) (s : Shared) (σ : St) (H : Hp) (Q : Bool → Hp → Prop), Inv X pins σ H s → t σ H Q → wpAny (model X.prog X.w) X.A (isTrue e X.env (eval e X.env)) (FQ X s (TP X pins σ Q)) X.xe s
structure PWF (X : Cx) (e : Expr) (t : TT) : Prop where
  go : ∀ (wh : Sem Value) (pins : List (Addr × Obj)) (s : Shared) (σ : St) (H : Hp) (Q : Bool → Hp → Prop), Inv X pins σ H s → t σ H Q → wpAny (model X.prog X.w) X.A (isTrue e X.env wh) (FQ X s (TP X pins σ Q)) X.xe s
structure PAF (X : Cx) (es : List Expr) (t : TA) : Prop where
  go : ∀ (pos : Pos) (pins : List (Addr × Obj)) (s : Shared) (σ : St) (H : Hp) (Q : List V → Hp → Prop), Inv X pins σ H s → t σ H Q → wpAny (model X.prog X.w) X.A (spliced (backTo pos (starEach es X.env))) (FQ X s (AP X pins σ Q)) X.xe s
section
variable {X : Cx} {e e1 e2 : Expr} {es : List Expr} {pos : Pos}
theorem PTF.pt {t : TT} (h : PTF X e t) : PT X e t := ⟨fun pins s σ H Q I q => thn (h.go pins s σ H Q I q) fun _ _ z => z.1⟩
theorem PEF.mono {t u : TE} (h : PEF X e t) (i : ∀ σ H Q, u σ H Q → t σ H Q) : PEF X e u := ⟨fun pins s σ H Q I q => h.go pins s σ H Q I (i σ H Q q)⟩
theorem PTF.mono {t u : TT} (h : PTF X e t) (i : ∀ σ H Q, u σ H Q → t σ H Q) : PTF X e u := ⟨fun pins s σ H Q I q => h.go pins s σ H Q I (i σ H Q q)⟩
theorem PWF.mono {t u : TT} (h : PWF X e t) (i : ∀ σ H Q, u σ H Q → t σ H Q) : PWF X e u := ⟨fun wh pins s σ H Q I q => h.go wh pins s σ H Q I (i σ H Q q)⟩
theorem PAF.mono {t u : TA} (h : PAF X es t) (i : ∀ σ H Q, u σ H Q → t σ H Q) : PAF X es u := ⟨fun pos pins s σ H Q I q => h.go pos pins s σ H Q I (i σ H Q q)⟩
/-- what leaves the heap as it is -/
theorem pef_still {t : TE} (h : ∀ (pins : List (Addr × Obj)) (s : Shared) (σ : St) (H : Hp) (Q : VK), Inv X pins σ H s → t σ H Q → wpAny (model X.prog X.w) X.A (eval e X.env) (fun u s' => EP X pins σ Q u s' ∧ s'.heap = s.heap) X.xe s) : PEF X e t :=
  ⟨fun pins s σ H Q I q => thn (h pins s σ H Q I q) fun u s' ⟨a, b⟩ => ⟨a, by rw [b]; exact Fk.refl⟩⟩
theorem pef_var {i : Nat} {x : Str} (hN : X.N[i]? = some x) (hv : Vis X.env.scope x) (hd : (x == ("__debug__" : Str)) = false := by decide) (hcd : (x == ("__classdict__" : Str)) = false := by decide) : PEF X (.Name x pos) (tVar i) := by
  refine pef_still fun pins s σ H Q I ⟨v, ev, q⟩ => ?_
  obtain ⟨m, hn, hl⟩ := I.loc
  obtain ⟨u, rv, l⟩ := hl i x v hN ev hv
  have fin : EP X pins σ Q u s ∧ s.heap = s.heap := ⟨⟨v, H, I, rv, q⟩, rfl⟩
  rcases l with ⟨kd, em⟩ | ⟨kd | kd, c, hc, hz⟩
  · exact wpAny_Name (wpAny_loadName_local I.ok.kind kd hn em fin) hd
  · exact wpAny_Name (wpAny_loadName_cell I.ok.kind kd hc hz fin) hd
  · exact wpAny_Name (wpAny_loadName_free I.ok.kind kd hc hz fin hcd) hd
theorem pef_int {i j} : PEF X (.Constant (.int i) j pos) (tC (.int i)) := pef_still fun _ _ _ H _ I h => wpAny_Constant_int ⟨⟨.int i, H, I.tok _, ⟨_, rfl⟩, h⟩, rfl⟩
theorem paf_nil : PAF X [] tNil := ⟨fun _ _ _ _ H _ I h => Calls.spliced_nil ⟨⟨[], H, I, .nil, h⟩, Fk.refl⟩⟩
theorem paf_cons {te : TE} {t : TA} (ha : PEF X e te) (hr : PAF X es t) (hs : starEach (e :: es) X.env = (false, eval e X.env) :: starEach es X.env := by rfl) : PAF X (e :: es) (tCons te t) := by
  refine ⟨fun pos pins s σ H Q I q => ?_⟩
  rw [hs]
  refine Calls.spliced_cons (thn (ha.go pins s σ H _ I q) fun u s1 ⟨⟨x, H1, I1, r1, q1⟩, f1⟩ => ?_)
  exact thn (hr.go pos pins s1 σ H1 _ I1 q1) fun us s2 ⟨⟨xs, H2, I2, r2, q2⟩, f2⟩ => ⟨⟨x :: xs, H2, I2, .cons r1 r2, q2⟩, f1.trans f2⟩
/-- a call of a def -/
theorem run_fnF {CX : CXT} {k : Nat} {f : Addr} {fd : FuncData} {ps : List Str} {sp : Sp} {E : XK} {pins : List (Addr × Obj)} {σ : St} {H : Hp} {s : Shared} {Q : VK} {us : List Value} {vs : List V} (F : FnOk X.prog X.w X.K X.mg X.base CX k f fd ps sp) (hr : Room k X.A) (hb : Binds X.K fd ps []) (hx : Passes CX X E)
    (I : Inv X pins σ H s) (rv : Vals vs us) (h : sp vs H Q E) : wpAny (model X.prog X.w) X.A (call (.ref f) us) (FQ X s (EP X pins σ Q)) X.xe s := by
  have hl : (us ++ ([] : List Value)).length = ps.length := by rw [List.append_nil, ← rv.length]; exact F.len _ _ _ _ h
  have bt := hb s us I.kIn hl
  rw [List.append_nil] at bt
  refine wpAny_call (codeAny_mono (F.run X.A X.stack s H ⟨us, []⟩ us vs Q E hr I.env0 bt rv h) fun rs s' hq => ?_)
  cases rs with
  | error ev => exact hx pins σ H s ev s' I hq
  | ok fl =>
    cases fl with
    | ret u => exact ⟨I.after hq, let ⟨_, _, _, _, un, _⟩ := hq; Fk.of_un I un⟩
    | next => exact hq.elim
    | brk => exact hq.elim
    | cont => exact hq.elim
theorem pef_call {CX : CXT} {k : Nat} {f : Addr} {fd : FuncData} {ps : List Str} {sp : Sp} {E : XK} {x : Str} {p : Pos} {t : TA} (F : FnOk X.prog X.w X.K X.mg X.base CX k f fd ps sp) (hr : Room k X.A) (hg : Gl X x) (hm : X.mg x = some (.ref f)) (hk : PySem.W.keepIn X.K (.ref f) = true) (hb : Binds X.K fd ps []) (hx : Passes CX X E)
    (ha : PAF X (e :: es) t) (hdb : (x == ("__debug__" : Str)) = false := by decide) (he : starEach (e :: es) X.env = (false, eval e X.env) :: starEach es X.env := by rfl) (hpl : (backTo pos (starEach es X.env)).any (·.1) = false := by rfl) :
    PEF X (.Call (.Name x p) (e :: es) [] pos) (tCall sp [] E t) := by
  refine ⟨fun pins s σ H Q I q => wpAny_Call_Name_kw (ld_glob I hg hm (PySem.W.callWith_K (h₀ := X.base) I.ok.mod.kin hk (thn (ha.go pos pins s σ H _ I q) ?_) he hpl) hdb)⟩
  rintro us s1 ⟨⟨vs, H1, I1, rv, q1⟩, f1⟩
  rw [List.append_nil] at q1
  exact ⟨I1.kIn, thn (run_fnF F hr hb hx I1 rv q1) fun u s2 ⟨z, f2⟩ => ⟨z, f1.trans f2⟩⟩
/-- operations of two values that leave the heap -/
def OpRF (X : Cx) (f : Value → Value → Sem Value) (r : R2) : Prop :=
  ∀ (pins : List (Addr × Obj)) (s : Shared) (σ : St) (H : Hp) (x y : V) (v u : Value) (Q : VK), Inv X pins σ H s → RelV x v → RelV y u → r x y H Q → wpAny (model X.prog X.w) X.A (f v u) (FQ X s (EP X pins σ Q)) X.xe s
def CallRF (X : Cx) (f : Value) (r : List V → Hp → VK → Prop) : Prop :=
  ∀ (pins : List (Addr × Obj)) (s : Shared) (σ : St) (H : Hp) (xs : List V) (us : List Value) (Q : VK), Inv X pins σ H s → Vals xs us → r xs H Q → wpAny (model X.prog X.w) X.A (call f us) (FQ X s (EP X pins σ Q)) X.xe s
theorem ptf_cmp {op : CmpOp} {rr : R2} {ta tb : TE} (ho : OpRF X (compareOp op) rr) (ha : PEF X e1 ta) (hb : PEF X e2 tb) (hm : behindInMarks op e2 = false) : PTF X (.Compare e1 [op] [e2] pos) (tTest (tOp rr ta tb)) := by
  refine ⟨fun pins s σ H Q I q => wpAny_isTrue_Compare1 (thn (ha.go pins s σ H _ I q) fun v s1 ⟨⟨x, H1, I1, r1, q1⟩, f1⟩ => ?_) hm⟩
  refine thn (hb.go pins s1 σ H1 _ I1 q1) fun u s2 ⟨⟨y, H2, I2, r2, q2⟩, f2⟩ => ?_
  refine thn (ho pins s2 σ H2 x y v u _ I2 r1 r2 q2) fun c s3 ⟨⟨z, H3, I3, r3, k, ez, q3⟩, f3⟩ => ?_
  subst ez
  cases r3
  exact wpAny_truthy_bool ⟨⟨H3, I3, q3⟩, (f1.trans f2).trans f3⟩
theorem pef_callB {x : Str} {p : Pos} {id : String} {rr : List V → Hp → VK → Prop} {t : TA} (hc : CallRF X (.builtin id) rr) (hg : Gl X x) (hm : X.mg x = none) (hv : bootBuiltins x = some (.builtin id)) (ha : PAF X (e :: es) t) (hn : x ≠ "__name__" := by decide) (hdb : (x == ("__debug__" : Str)) = false := by decide)
    (he : starEach (e :: es) X.env = (false, eval e X.env) :: starEach es X.env := by rfl) (hpl : (backTo pos (starEach es X.env)).any (·.1) = false := by rfl) : PEF X (.Call (.Name x p) (e :: es) [] pos) (tCB rr t) := by
  refine ⟨fun pins s σ H Q I q => wpAny_Call_Name_kw (ld_blt I hg hm hv (callWith_builtin1 (thn (ha.go pos pins s σ H _ I q) ?_) he hpl) hn hdb)⟩
  rintro us s1 ⟨⟨vs, H1, I1, r1, q1⟩, f1⟩
  exact thn (hc pins s1 σ H1 vs us Q I1 r1 q1) fun u s2 ⟨z, f2⟩ => ⟨z, f1.trans f2⟩
variable {c : Cfg} {a b m : E}
theorem of_eqP (hu : X.A.units + 64 < cLine) : OpRF X (compareOp .Eq) (rD2 X.K gEq fun d e => PyData.eqv d e) := by
  rintro pins s σ H x y v u Q I rx ry ⟨F, d, e, sm, hd, he, ⟨pd, pe, dd⟩, q⟩
  obtain ⟨as, r1⟩ := L2.Dp.reads I d x v (Dp.l2 sm _ _ hd) rx
  obtain ⟨bs, r2⟩ := L2.Dp.reads I e y u (Dp.l2 sm _ _ he) ry
  exact PySem.SeqAt.eq_plain r1 r2 pd pe (by have := Nat.min_le_left d.depth e.depth; omega) ⟨⟨.bl _, H, I, rfl, q⟩, Fk.refl⟩
theorem cf_len : CallRF X (.builtin "len") (fun xs H Q => ∃ x n, xs = [x] ∧ LenV X.K x H n ∧ Q (.int n) H) := by
  rintro pins s σ H xs us Q I rv ⟨x, n, rfl, e, q⟩
  obtain ⟨u, rfl, rx⟩ := vals1 rv
  have hl := line63
  have hs : sizeLine = 16777216 := sizeLine_eq
  cases x with
  | str y =>
    obtain ⟨t, rfl⟩ := rx
    obtain ⟨hy, rfl⟩ : y.length ≤ sizeLine ∧ n = y.length := e
    exact len_str (by omega) ⟨⟨.int _, H, I.tok _, ⟨_, rfl⟩, q⟩, Fk.refl⟩
  | byt y =>
    obtain ⟨t, rfl⟩ := rx
    obtain ⟨hy, rfl⟩ : y.size ≤ sizeLine ∧ n = y.size := e
    exact PySem.W.len_bytes (by omega) ⟨⟨.int _, H, I.tok _, ⟨_, rfl⟩, q⟩, Fk.refl⟩
  | ref p =>
    cases rx
    rcases (show (∃ xs, SqL X.K H p xs ∧ n = xs.length) ∨ ∃ xs, SqT X.K H p xs ∧ n = xs.length from e) with ⟨xs, hx, rfl⟩ | ⟨xs, hx, rfl⟩
    · obtain ⟨its, r', pl, hz⟩ := I.list hx
      have hk := r'.length
      refine Calls.call_len_list pl.isList (by rw [List.size_toArray]; omega) ⟨⟨.int xs.length, H, I.tok _, ⟨s.toks + 1, ?_⟩, q⟩, Fk.refl⟩
      rw [List.size_toArray, hk]
    · obtain ⟨its, r', pl, hz⟩ := I.tuple hx
      have hk := r'.length
      refine len_tuple pl (by rw [List.size_toArray]; omega) ⟨⟨.int xs.length, H, I.tok _, ⟨s.toks + 1, ?_⟩, q⟩, Fk.refl⟩
      rw [List.size_toArray, hk]
  | _ => exact (show False from e).elim
theorem fa_nil : PAF X [] (TAv X.K c .nil) := PAF.mono paf_nil fun σ H Q ⟨F, r, x, h⟩ => h [] F H x Ef.refl (fun _ q => q) .nil
theorem fv_int {i j} : PEF X (.Constant (.int i) j pos) (TEv X.K c (.lit (.int i))) := PEF.mono pef_int fun σ H Q ⟨F, r, x, h⟩ => h (.int i) F H x Ef.refl (fun _ q => q) (Dp.int i)
end
end Bm
namespace Bm
open PySem PySem.Spec L2
open PyProof.Rows hiding St
section
variable {X : Cx} {e e1 e2 : Expr} {es : List Expr} {pos : Pos} {c : Cfg} {a b m : E}
theorem imp_var {K : PySem.W.Frag} {i : Nat} (σ : St) (H : Hp) (Q : VK) (w : TEv K c (.var i) σ H Q) : tVar i σ H Q := by
  obtain ⟨F, r, x, h⟩ := w
  simp only [den] at h
  cases es : getS r i with
  | sh d =>
    rw [es] at h
    have ok := x.rel.ok i
    rw [es] at ok
    obtain ⟨v, q1, q2⟩ := ok
    exact ⟨v, vAt_some q1, h v F H x Ef.refl (fun _ z => z) q2⟩
  | own l =>
    rw [es] at h
    obtain ⟨ad, q1, F', x', ef, so, dn⟩ := x.freeze es
    exact ⟨.ref ad, vAt_some q1, h _ F' H x' ef so dn⟩
  | un => rw [es] at h; exact h.elim
  | dicT l => rw [es] at h; exact h.elim
  | dicK l => rw [es] at h; exact h.elim
  | ins l => rw [es] at h; exact h.elim
  | lck l => rw [es] at h; exact h.elim
  | exs l => rw [es] at h; exact h.elim
theorem fv_var {i : Nat} {x : Str} (hN : X.N[i]? = some x := by rfl) (hv : Vis X.env.scope x := by first | exact Or.inl rfl | exact Or.inr (Or.inl rfl) | exact Or.inr (Or.inr rfl)) (hd : (x == ("__debug__" : Str)) = false := by decide)
    (hcd : (x == ("__classdict__" : Str)) = false := by decide) : PEF X (.Name x pos) (TEv X.K c (.var i)) := PEF.mono (pef_var hN hv hd hcd) imp_var
theorem imp_cons {K : PySem.W.Frag} (σ : St) (H : Hp) (Q : List V → Hp → Prop) (w : TAv K c (.cons a b) σ H Q) : tCons (TEv K c a) (TAv K c b) σ H Q := by
  obtain ⟨F, r, x, h⟩ := w
  refine ⟨F, r, x, ?_⟩
  simp only [den] at h
  cases ea : den c.call a r with
  | exc k => rw [ea] at h; exact h
  | stuck => rw [ea] at h; exact h
  | ok p =>
    obtain ⟨d, r1⟩ := p
    rw [ea] at h
    simp only [R.ok_bind] at h
    intro v F1 H1 x1 ef1 so1 q1
    refine ⟨F1, r1, x1, ?_⟩
    cases eb : den c.call b r1 with
    | exc k => rw [eb] at h; exact h
    | stuck => rw [eb] at h; exact h
    | ok p =>
      obtain ⟨y, r2⟩ := p
      rw [eb] at h
      simp only [R.ok_bind] at h
      cases y with
      | list ds => exact fun vs F2 H2 x2 ef2 so2 q2 => h (v :: vs) F2 H2 x2 (ef1.trans ef2 so1) (fun ad z => so1 ad (so2 ad z)) (.cons (dn_same (ef2.same x1.rel) q1) q2)
      | none => exact h
      | bool _ => exact h
      | int _ => exact h
      | str _ => exact h
      | tuple _ => exact h
      | dict _ => exact h
theorem fa_cons (ha : PEF X e (TEv X.K c a)) (hb : PAF X es (TAv X.K c b)) (hs : starEach (e :: es) X.env = (false, eval e X.env) :: starEach es X.env := by rfl) : PAF X (e :: es) (TAv X.K c (.cons a b)) := PAF.mono (paf_cons ha hb hs) imp_cons
theorem imp_call {K : PySem.W.Frag} {f : Nat} (σ : St) (H : Hp) (Q : VK) (w : TEv K c (.call f a) σ H Q) : tCall (spF K c.J c.cl (c.call f none)) [] c.E (TAv K c a) σ H Q := by
  obtain ⟨F, r, x, h⟩ := w
  refine ⟨F, r, x, ?_⟩
  simp only [den] at h
  refine OkA.bind h (fun d r1 nl => by cases d <;> first | rfl | exact absurd rfl (nl _)) ?_
  intro ds r1 vs F1 H1 x1 e1 s1 q1 h1
  rw [List.append_nil]
  refine ⟨F1, ds, x1.rel.same, x1.tie, q1, ?_⟩
  simp only at h1
  cases ec : c.call f none ds with
  | ok p => rw [ec] at h1; exact fun v F' H' g j q => h1 v F' H' (g.stt x1 j) g.ef (fun _ z => z) q
  | exc k => rw [ec] at h1; exact fun F' H' g j => h1 F' H' j g.same (x1.kp.grow g)
  | stuck => rw [ec] at h1; exact h1
theorem fv_call {x : Str} {p : Pos} {f k : Nat} (hf : FnAt X.prog X.w X.K X.mg X.base k x (spF X.K c.J c.cl (c.call f none))) (hr : Room k X.A) (hx : Passes (L2N.CX X.prog X.w) X c.E) (hg : Gl X x) (ha : PAF X (e :: es) (TAv X.K c a))
    (hdb : (x == ("__debug__" : Str)) = false := by decide) (he : starEach (e :: es) X.env = (false, eval e X.env) :: starEach es X.env := by rfl) (hpl : (backTo pos (starEach es X.env)).any (·.1) = false := by rfl) :
    PEF X (.Call (.Name x p) (e :: es) [] pos) (TEv X.K c (.call f a)) := by
  obtain ⟨fa, fd, ps, hm, hk, hb, F⟩ := hf
  exact PEF.mono (pef_call F hr hg hm hk hb hx ha hdb he hpl) imp_call
theorem fw_eq (hu : X.A.units + 64 < cLine) (ha : PEF X e1 (TEv X.K c a)) (hb : PEF X e2 (TEv X.K c b)) : PTF X (.Compare e1 [.Eq] [e2] pos) (TTv X.K c (.op .eq (.cons a (.cons b .nil)))) :=
  PTF.mono (ptf_cmp (of_eqP hu) ha hb (nomark _)) fun _ _ _ h => tev_op2 os_eq h
theorem fv_len {p : Pos} (hg : Gl X "len") (hm : X.mg "len" = none) (ha : PEF X e (TEv X.K c a)) (he : starEach [e] X.env = (false, eval e X.env) :: starEach [] X.env := by rfl) : PEF X (.Call (.Name "len" p) [e] [] pos) (TEv X.K c (.op .len (.cons a .nil))) :=
  PEF.mono (pef_callB cf_len hg hm boot_len' (fa_cons ha fa_nil he) (by decide) (by decide) he rfl) fun _ _ _ h => tev_op os_len h
structure PSG (X : Cx) (x : Str) (st : Stmt) (t : TS) : Prop where
  go : ∀ (pins : List (Addr × Obj)) (s : Shared) (σ : St) (H : Hp) (D : Ends), Inv X pins σ H s → GV X x s → t D σ H → wpAny (model X.prog X.w) X.A (exec st X.env) (fun f s' => SP X pins D f s' ∧ (f = .next → GV X x s')) X.xe s
structure PSU (X : Cx) (x : Str) (st : Stmt) (t : TS) : Prop where
  go : ∀ (pins : List (Addr × Obj)) (s : Shared) (σ : St) (H : Hp) (D : Ends), Inv X pins σ H s → GV X x s → t D σ H → wpAny (model X.prog X.w) X.A (exec st X.env) (SP X pins D) X.xe s
structure PSsU (X : Cx) (x : Str) (sts : List Stmt) (t : TS) : Prop where
  go : ∀ (pins : List (Addr × Obj)) (s : Shared) (σ : St) (H : Hp) (D : Ends), Inv X pins σ H s → GV X x s → t D σ H → wpAny (model X.prog X.w) X.A (execs sts X.env) (SP X pins D) X.xe s
structure PGG (X : Cx) (x : Str) (tg : Expr) (g : TG) : Prop where
  go : ∀ (pins : List (Addr × Obj)) (s : Shared) (σ : St) (H : Hp) (v : V) (u : Value) (Q : St → Hp → Prop), Inv X pins σ H s → GV X x s → RelV v u → g v σ H Q → wpAny (model X.prog X.w) X.A (assign tg X.env u) (fun _ s' => (∃ σ' H', Inv X pins σ' H' s' ∧ Q σ' H') ∧ GV X x s') X.xe s
structure PGsG (X : Cx) (x : Str) (ts : List Expr) (g : TGs) : Prop where
  go : ∀ (pins : List (Addr × Obj)) (s : Shared) (σ : St) (H : Hp) (vs : List V) (us : List Value) (Q : St → Hp → Prop), Inv X pins σ H s → GV X x s → Vals vs us → g vs σ H Q →
    wpAny (model X.prog X.w) X.A (assignInOrder ((assignEach ts X.env).map (·.2)) us) (fun _ s' => (∃ σ' H', Inv X pins σ' H' s' ∧ Q σ' H') ∧ GV X x s') X.xe s
variable {x : Str} {sta : Stmt} {rest sts sts' : List Stmt} {t u : TS}
theorem PSU.mono (h : PSU X x sta t) (i : ∀ D σ H, u D σ H → t D σ H) : PSU X x sta u := ⟨fun pins s σ H D I g q => h.go pins s σ H D I g (i D σ H q)⟩
theorem PSG.mono (h : PSG X x sta t) (i : ∀ D σ H, u D σ H → t D σ H) : PSG X x sta u := ⟨fun pins s σ H D I g q => h.go pins s σ H D I g (i D σ H q)⟩
theorem PSsU.mono (h : PSsU X x sts t) (i : ∀ D σ H, u D σ H → t D σ H) : PSsU X x sts u := ⟨fun pins s σ H D I g q => h.go pins s σ H D I g (i D σ H q)⟩
theorem PSsU.of (h : PSs X sts t) : PSsU X x sts t := ⟨fun pins s σ H D I _ q => h.run pins s σ H D I q⟩
theorem PSU.of (h : PS X sta t) : PSU X x sta t := ⟨fun pins s σ H D I _ q => h.run pins s σ H D I q⟩
theorem pssu_cons (h1 : PSG X x sta t) (h2 : PSsU X x rest u) : PSsU X x (sta :: rest) (tSeq t u) := by
  refine ⟨fun pins s σ H D I g q => wpAny_execs_cons (thn (h1.go pins s σ H { D with nx := u D } I g q) fun f s1 ⟨z, g1⟩ => ?_)⟩
  cases f with
  | next => obtain ⟨σ', H', I', q'⟩ := z; exact h2.go pins s1 σ' H' D I' (g1 rfl) q'
  | ret v => exact z
  | brk => exact z
  | cont => exact z
theorem pssu_one (h1 : PSU X x sta t) : PSsU X x [sta] t := by
  refine ⟨fun pins s σ H D I g q => wpAny_execs_cons (thn (h1.go pins s σ H D I g q) fun f s1 z => ?_)⟩
  cases f with
  | next => exact wpAny_execs_nil z
  | ret v => exact z
  | brk => exact z
  | cont => exact z
theorem psg_expr {te : TE} (he : PEF X e te) (hs : swapsWith e none pos.line X.env = pure false := by rfl) : PSG X x (.Expr e pos) (tDrop te) := by
  refine ⟨fun pins s σ H D I g q => wpAny_Expr_any (thn (wpAny_toks (he.go pins s σ H _ I q)) ?_ |> fun z => wpAny_mono z (fun _ _ y => y) fun _ _ y => y.2) I.quiet hs⟩
  rintro v s1 ⟨tk, ⟨y, H1, I1, r1, q1⟩, f1⟩
  exact ⟨⟨σ, H1, I1, q1⟩, fun _ => g.fk f1 tk⟩
end
end Bm
end
section
set_option Elab.async false
set_option linter.all false
set_option maxRecDepth 100000
set_option maxHeartbeats 1000000
namespace Bm
open PySem PySem.Spec L2
open PyProof.Rows hiding St
theorem thnT {α : Type} {t : Sem α} {Q Q' : α → Shared → Prop} {M : Model} {A : Around} {E : Value → Shared → Prop} {s : Shared} (h : wpAny M A t Q E s) (k : ∀ a s', s.toks ≤ s'.toks → Q a s' → Q' a s') : wpAny M A t Q' E s :=
  wpAny_mono (wpAny_toks h) (fun a s' z => k a s' z.1 z.2) fun _ _ z => z.2
section
variable {X : Cx} {e e1 e2 : Expr} {es : List Expr} {pos : Pos} {c : Cfg} {a b m : E} {x : Str} {sta : Stmt} {rest sts sts' : List Stmt} {t u : TS} {s1 s2 : S}
/-- another name is stored; x lives in a cell -/
theorem pgg_name {i : Nat} {y : Str} (hN : X.N.Nodup) (hi : X.N[i]? = some y) (hy : Loc X.env.scope y) (hne : y ≠ x) (hk : X.env.kindOf x ≠ some .local) (hf : X.fn y = true ∨ X.env.scope.names.lookup y = some .local := by first | exact .inl rfl | exact .inr rfl | assumption) : PGG X x (.Name y pos) (gName i) := by
  refine ⟨fun pins s σ H v u Q I g rv q => wpAny_assign_Name (thnT (store_ok2 (Q := fun _ s' => Inv X pins (σ.set i (some v)) H s' ∧ ∃ ad, Heap.SameBut ad s.heap s'.heap ∧ (ad = X.env.locals ∨ X.env.cells.lookup y = some ad)) I hN hi hy rv (fun s' I' z => ⟨I', z⟩) hf) ?_)⟩
  rintro _ s' tk ⟨I', ad, hs, had⟩
  refine ⟨⟨_, H, I', q⟩, ?_⟩
  obtain ⟨w, mm, _, l, gd⟩ := g
  obtain ⟨m', hn', _⟩ := I'.loc
  refine ⟨w, m', hn', ?_, gd.mono tk⟩
  rcases l with ⟨kd, _⟩ | ⟨kd, cc, hc, hv⟩
  · exact absurd kd hk
  · refine .inr ⟨kd, cc, hc, hv.sameBut hs fun z => ?_⟩
    subst z
    rcases had with z | z
    · exact I.cne x _ hc z
    · exact hne (I.ok.inj _ _ _ z hc)
theorem pgsg_nil : PGsG X x [] (gNames []) := by
  refine ⟨fun pins s σ H vs us Q I g rv q => ?_⟩
  obtain ⟨e, q⟩ := q
  subst e
  cases rv
  exact assignInOrder_nil ⟨⟨σ, H, I, q⟩, g⟩
theorem pgsg_names {y : Str} {i : Nat} {is : List Nat} {ts : List Expr} (h1 : PGG X x (.Name y pos) (gName i)) (h2 : PGsG X x ts (gNames is)) (hs : (assignEach (.Name y pos :: ts) X.env).map (·.2) = assign (.Name y pos) X.env :: (assignEach ts X.env).map (·.2) := by rfl) :
    PGsG X x (.Name y pos :: ts) (gNames (i :: is)) := by
  refine ⟨fun pins s σ H vs us Q I g rv q => ?_⟩
  obtain ⟨v, vr, e, q⟩ := q
  subst e
  cases rv with
  | cons r1 rr =>
    rw [hs]
    exact assignInOrder_cons (thn (h1.go pins s σ H _ _ _ I g r1 q) fun _ s1 ⟨⟨σ1, H1, I1, q1⟩, g1⟩ => h2.go pins s1 σ1 H1 _ _ Q I1 g1 rr q1)
theorem pgg_tup {ts : List Expr} {k : Nat} {g : TGs} {n : Nat} (hc : X.calm = true) (h : PGsG X x ts g) (hn : (assignEach ts X.env).length = n := by rfl) (hst : (assignEach ts X.env).findIdx? (·.1) = none := by rfl) : PGG X x (.Tuple ts k pos) (gTup X.K n g) := by
  refine ⟨fun pins s σ H v u Q I gv rv q => ?_⟩
  obtain ⟨ad, xs, e1, hq, hl, q⟩ := q
  subst e1
  cases rv
  obtain ⟨its, rs, ht, _⟩ := I.tuple hq
  refine assign_Tuple_tuple (I.ok.hd hc) ht (by simp [hn, ← hl, rs.length]) hst fun h' hx => ?_
  have kp : ∀ b o, s.heap.get? b = some o → h'.get? b = some o := fun b o z => hx b o (Nat.ne_of_lt (Heap.lt_size z)) z
  exact h.go pins { s with heap := h' } σ H xs _ Q (I.kept (t' := s.toks) kp) (gv.fk (s' := { s with heap := h' }) (Fk.grown kp) (Nat.le_refl _)) (by simpa using rs) q
theorem psg_asg {tg : Expr} {te : TE} {g : TG} (he : PEF X e te) (hg : PGG X x tg g) (hs : swapsWithSole [tg] e pos.line X.env = pure false := by rfl) (hw : swappedStores [tg] e X.env = pure none := by rfl)
    (h1 : (assignEach [tg] X.env).map (·.2) = [assign tg X.env] := by rfl) : PSG X x (.Assign [tg] e pos) (tAsg te g) := by
  refine ⟨fun pins s σ H D I gv q => wpAny_Assign_stores (thnT (he.go pins s σ H _ I q) fun v s1 tk ⟨⟨y, H1, I1, r1, q1⟩, f1⟩ => ?_) hs hw⟩
  rw [h1]
  exact thn (hg.go pins s1 σ H1 y v _ I1 (gv.fk f1 tk) r1 q1) fun _ s2 ⟨z, g2⟩ => ⟨z, fun _ => g2⟩
/-- it never goes on -/
def Stops (t : TS) : Prop := ∀ D σ H, t D σ H → t { D with nx := fun _ _ => False } σ H
theorem psg_if {tc : TT} (hc : PTF X e tc) (ha : PSs X sts t) (hst : Stops t) : PSG X x (.If e sts [] pos) (tIfS tc t tNext) := by
  refine ⟨fun pins s σ H D I g q => wpAny_If (thnT (hc.go pins s σ H _ I q) fun d s1 tk ⟨⟨H1, I1, q1⟩, f1⟩ => ?_)⟩
  cases d with
  | true =>
    refine thn (ha.run pins s1 σ H1 _ I1 (hst D σ H1 q1)) fun f s2 z => ?_
    cases f with
    | next => obtain ⟨_, _, _, z⟩ := z; exact z.elim
    | ret v => exact ⟨z, fun y => by cases y⟩
    | brk => exact ⟨z, fun y => by cases y⟩
    | cont => exact ⟨z, fun y => by cases y⟩
  | false => exact wpAny_execs_nil ⟨⟨σ, H1, I1, q1⟩, fun _ => g.fk f1 tk⟩
structure PEU (X : Cx) (x : Str) (e : Expr) (t : TE) : Prop where
  go : ∀ (pins : List (Addr × Obj)) (s : Shared) (σ : St) (H : Hp) (Q : VK), Inv X pins σ H s → GV X x s → t σ H Q → wpAny (model X.prog X.w) X.A (eval e X.env) (EP X pins σ Q) X.xe s
structure PAU (X : Cx) (x : Str) (es : List Expr) (t : TA) : Prop where
  go : ∀ (pos : Pos) (pins : List (Addr × Obj)) (s : Shared) (σ : St) (H : Hp) (Q : List V → Hp → Prop), Inv X pins σ H s → GV X x s → t σ H Q → wpAny (model X.prog X.w) X.A (spliced (backTo pos (starEach es X.env))) (AP X pins σ Q) X.xe s
theorem PEU.mono {t u : TE} (h : PEU X x e t) (i : ∀ σ H Q, u σ H Q → t σ H Q) : PEU X x e u := ⟨fun pins s σ H Q I g q => h.go pins s σ H Q I g (i σ H Q q)⟩
theorem PAU.mono {t u : TA} (h : PAU X x es t) (i : ∀ σ H Q, u σ H Q → t σ H Q) : PAU X x es u := ⟨fun pos pins s σ H Q I g q => h.go pos pins s σ H Q I g (i σ H Q q)⟩
/-- the name in the first argument -/
theorem pau_head {te : TE} {ta : TA} (ha : PEU X x e te) (hr : PA X es ta) (hs : starEach (e :: es) X.env = (false, eval e X.env) :: starEach es X.env := by rfl) : PAU X x (e :: es) (tCons te ta) := by
  refine ⟨fun pos pins s σ H Q I g q => ?_⟩
  rw [hs]
  refine Calls.spliced_cons (thn (ha.go pins s σ H _ I g q) fun u s1 ⟨y, H1, I1, r1, q1⟩ => ?_)
  exact thn (hr.run pos pins s1 σ H1 _ I1 q1) fun us s2 ⟨ys, H2, I2, r2, q2⟩ => ⟨y :: ys, H2, I2, .cons r1 r2, q2⟩
theorem peu_call {CX : CXT} {k : Nat} {f : Addr} {fd : FuncData} {ps : List Str} {sp : Sp} {E : XK} {y : Str} {p : Pos} {ta : TA} (F : FnOk X.prog X.w X.K X.mg X.base CX k f fd ps sp) (hr : Room k X.A) (hg : Gl X y) (hm : X.mg y = some (.ref f)) (hk : PySem.W.keepIn X.K (.ref f) = true) (hb : Binds X.K fd ps []) (hx : Passes CX X E)
    (ha : PAU X x (e :: es) ta) (hdb : (y == ("__debug__" : Str)) = false := by decide) (he : starEach (e :: es) X.env = (false, eval e X.env) :: starEach es X.env := by rfl) (hpl : (backTo pos (starEach es X.env)).any (·.1) = false := by rfl) :
    PEU X x (.Call (.Name y p) (e :: es) [] pos) (tCall sp [] E ta) := by
  refine ⟨fun pins s σ H Q I g q => wpAny_Call_Name_kw (ld_glob I hg hm (PySem.W.callWith_K (h₀ := X.base) I.ok.mod.kin hk (thn (ha.go pos pins s σ H _ I g q) ?_) he hpl) hdb)⟩
  rintro us s1 ⟨vs, H1, I1, rv, q1⟩
  rw [List.append_nil] at q1
  exact ⟨I1.kIn, thn (run_fnF F hr hb hx I1 rv q1) fun u s2 z => z.1⟩
theorem psu_ret {te : TE} (he : PEU X x e te) : PSU X x (.Return (some e) pos) (tRet te) :=
  ⟨fun pins s σ H D I g q => wpAny_Return_some (thn (he.go pins s σ H _ I g q) fun v s1 ⟨y, H1, I1, r1, q1⟩ => ⟨y, σ, H1, I1, r1, q1⟩)⟩
structure FnOkT (P : Program) (w : World) (K : PySem.W.Frag) (mg : Str → Option Value) (base : Heap) (CX : CXT) (k : Nat) (f : Addr) (fd : FuncData) (ps : List Str) (sp : Sp) : Prop where
  len : ∀ vs H Q E, sp vs H Q E → vs.length = ps.length
  go : ∀ (A : Around) (outer : List PySem.Env) (s : Shared) (H : Hp) (args : Args) (us : List Value) (vs : List V) (Q : VK) (E : XK), Room k A → Env0 P w K mg base A outer s H → BindsTo s fd args (ps.zip us) → Vals vs us → (∃ u, us[1]? = some u ∧ Gd u s) → sp vs H Q E →
    codeAny (model P w) A (.call (.ref f) args) (CR CX outer P w H s Q E) s
theorem look_one {X : Cx} {s : Shared} {m m' : Str → Option Value} {y : Str} {u u' : Value} (h : s.heap.Ns X.env.locals m) (h' : s.heap.Ns X.env.locals m') (l : Look X.env s.heap m y u) (l' : Look X.env s.heap m' y u') : u = u' := by
  rcases l with ⟨kd, z⟩ | ⟨kd, cc, hc, o, ho, hd⟩
  · rcases l' with ⟨_, z'⟩ | ⟨kd', _⟩
    · obtain ⟨o1, es1, ep1, e1, d1, _, f1⟩ := h
      obtain ⟨o2, es2, ep2, e2, d2, _, f2⟩ := h'
      rw [e1] at e2; cases e2
      rw [d1] at d2; cases d2
      rw [← f1] at z; rw [← f2, z] at z'; exact Option.some.inj z'
    · rw [kd] at kd'; rcases kd' with k | k <;> cases k
  · rcases l' with ⟨kd', _⟩ | ⟨_, cc', hc', o', ho', hd'⟩
    · rw [kd'] at kd; rcases kd with k | k <;> cases k
    · rw [hc] at hc'; cases hc'
      rw [ho] at ho'; cases ho'
      rw [hd] at hd'; cases hd'; rfl
theorem name_is {pins : List (Addr × Obj)} {σ : St} {H : Hp} {s : Shared} {u : Value} {mm : Str → Option Value} {Q E : Value → Shared → Prop} (I : Inv X pins σ H s) (hn : s.heap.Ns X.env.locals mm) (l : Look X.env s.heap mm x u) (q : Q u s)
    (hd : (x == ("__debug__" : Str)) = false := by decide) (hcd : (x == ("__classdict__" : Str)) = false := by decide) : wpAny (model X.prog X.w) X.A (eval (.Name x pos) X.env) Q E s := by
  rcases l with ⟨kd, z⟩ | ⟨kd | kd, cc, hc, hv⟩
  · exact wpAny_Name (wpAny_loadName_local I.ok.kind kd hn z q) hd
  · exact wpAny_Name (wpAny_loadName_cell I.ok.kind kd hc hv q) hd
  · exact wpAny_Name (wpAny_loadName_free I.ok.kind kd hc hv q hcd) hd
/-- f(e, x) with x good -/
theorem peu_call2 {CX : CXT} {k i : Nat} {f : Addr} {fd : FuncData} {ps : List Str} {sp : Sp} {E : XK} {y : Str} {p px : Pos} {te : TE} (F : FnOkT X.prog X.w X.K X.mg X.base CX k f fd ps sp) (hr : Room k X.A) (hg : Gl X y) (hm : X.mg y = some (.ref f)) (hk : PySem.W.keepIn X.K (.ref f) = true) (hb : Binds X.K fd ps []) (hx : Passes CX X E)
    (ha : PEF X e te) (hN : X.N[i]? = some x) (hv : Vis X.env.scope x) (hdb : (y == ("__debug__" : Str)) = false := by decide) (he : starEach [e, .Name x px] X.env = (false, eval e X.env) :: starEach [.Name x px] X.env := by rfl) (he2 : starEach [.Name x px] X.env = (false, eval (.Name x px) X.env) :: starEach [] X.env := by rfl) (hpl : (backTo pos (starEach [.Name x px] X.env)).any (·.1) = false := by rfl)
    (hd : (x == ("__debug__" : Str)) = false := by decide) (hcd : (x == ("__classdict__" : Str)) = false := by decide) : PEU X x (.Call (.Name y p) [e, .Name x px] [] pos) (tCall sp [] E (tCons te (tCons (tVar i) tNil))) := by
  refine ⟨fun pins s σ H Q I g q => wpAny_Call_Name_kw (ld_glob I hg hm (PySem.W.callWith_K (h₀ := X.base) I.ok.mod.kin hk ?_ he hpl) hdb)⟩
  rw [he]
  refine Calls.spliced_cons (thnT (ha.go pins s σ H _ I q) fun u1 s1 tk ⟨⟨v1, H1, I1, r1, q1⟩, f1⟩ => ?_)
  rw [he2]
  have g1 := g.fk f1 tk
  obtain ⟨v2, ev, q1⟩ := q1
  refine Calls.spliced_cons ?_
  obtain ⟨u2, m2, hn2, l2, gd2⟩ := g1
  obtain ⟨m3, hn3, hl3⟩ := I1.loc
  obtain ⟨u3, r3, l3⟩ := hl3 i x v2 hN ev hv
  obtain rfl := look_one hn2 hn3 l2 l3
  refine name_is I1 hn2 l2 (Calls.spliced_nil ?_) hd hcd
  refine ⟨I1.kIn, ?_⟩
  have rv : Vals [v1, v2] [u1, u2] := .cons r1 (.cons r3 .nil)
  have q1 : sp [v1, v2] H1 Q E := q1
  have hl : (([u1, u2] : List Value) ++ ([] : List Value)).length = ps.length := by rw [List.append_nil, ← rv.length]; exact F.len _ _ _ _ q1
  have bt := hb s1 [u1, u2] I1.kIn hl
  rw [List.append_nil] at bt
  refine wpAny_call (codeAny_mono (F.go X.A X.stack s1 H1 ⟨[u1, u2], []⟩ [u1, u2] [v1, v2] Q E hr I1.env0 bt rv ⟨u2, rfl, gd2⟩ q1) fun rs s' hq => ?_)
  cases rs with
  | error ev => exact hx pins σ H1 s1 ev s' I1 hq
  | ok fl =>
    cases fl with
    | ret u => exact I1.after hq
    | next => exact hq.elim
    | brk => exact hq.elim
    | cont => exact hq.elim
/-- .. by its body -/
theorem fn_ofT {CX : CXT} {P : Program} {w : World} {K : PySem.W.Frag} {mg : Str → Option Value} {base : Heap} {k : Nat} {f : Addr} {name qual : Str} {params : Arguments} {body : List Stmt} {scope : Scope} {dV kV doc pm cdv ct oc : Value} {an od : Option Addr}
    {osl : Array (Option Value)} {N ps : List Str} {sp : Sp} {x : Str} (lk : K.lookup f = some ⟨oc, od, .func (PySem.W.fnOf name qual params body scope dV kV doc pm an cdv ct), osl⟩) (hcd : PySem.W.codeIn K cdv qual = true) (S : FnScope N ps scope)
    (len : ∀ vs H Q E, sp vs H Q E → vs.length = ps.length) (hx1 : ps[1]? = some x)
    (hbody : ∀ (A : Around) (outer : List PySem.Env) (s : Shared) (H : Hp) (vs : List V) (Q : VK) (E : XK), Room k (A.deeper (envOfC qual scope s.heap.objs.size f cdv)) → sp vs H Q E →
      ∃ t, PSsU (cxOf CX P w K mg base N qual scope f cdv A outer s H E) x body t ∧ t { nx := fun _ H' => Q .non H', rt := Q } (start N vs) H) :
    FnOkT P w K mg base CX (k + 1) f (PySem.W.fnOf name qual params body scope dV kV doc pm an cdv ct) ps sp := by
  refine ⟨len, fun A outer s H args us vs Q E hr e0 hb rv ⟨ux, hux, gd⟩ hsp => ?_⟩
  have kin : K.In s.heap := e0.mod.kin.keeps fun b o z => (e0.bs b o z).1
  have nl : s.heap.NoLimit := e0.mod.nolimit.keeps fun b o z => (e0.bs b o z).1
  have kinds : ∀ y ∈ ps.zip us, scope.names.lookup y.1 = some .local ∨ (scope.names.lookup y.1 = some .cell ∧ ((cellsFrom (s.heap.objs.size + 1) scope.names []).lookup y.1).isSome = true) := fun y hy => by
    rcases S.par y.1 (List.of_mem_zip (a := y.1) (b := y.2) hy).1 with z | z
    · exact .inl z
    · exact .inr ⟨z, PySem.W.cellsFrom_some _ _ _ (.inl z)⟩
  refine codeAny_call_function hr.depth (kin _ _ lk) rfl S.co S.gen rfl (PySem.W.codeRec_of kin hcd) (hb _ _ _ _ ?_)
  refine wpAny_with_toks (n := s.toks) (Nat.le_refl _) (wpAny_newFunctionEnv_cells S.kind kinds fun env he s1 ic tk => ?_)
  subst he
  refine ⟨nl.keeps ic.toInCall.keep, codeAny_func ?_⟩
  obtain ⟨t, ht, hq⟩ := hbody A outer s H vs Q E (hr.deeper _) hsp
  have I : Inv (cxOf CX P w K mg base N qual scope f cdv A outer s H E) [] (start N vs) H s1 := inv_start S hr.hd e0 (len _ _ _ _ hsp) rv ic
  have ndP : ps.Nodup := by rw [← S.pre]; exact S.nd.sublist (List.take_sublist _ _)
  have g : GV (cxOf CX P w K mg base N qual scope f cdv A outer s H E) x s1 := by
    refine ⟨ux, _, ic.toInCall.ns, ?_, gd.mono tk⟩
    rcases S.par x (List.mem_of_getElem? hx1) with kd | kd
    · exact .inl ⟨kd, bindL_get ndP hx1 hux kd⟩
    · obtain ⟨cc, ec⟩ := cell_has (n := s.heap.objs.size + 1) kd
      have q := ic.cell x cc ec
      rw [bindC_get ndP hx1 hux (by show scope.names.lookup x ≠ _; rw [kd]; decide)] at q
      exact .inr ⟨.inl kd, cc, ec, q⟩
  refine wpAny_mono (ht.go [] s1 (start N vs) H _ I g hq) (fun fl s' hs => ?_) fun e s' hs => hs
  cases fl with
  | ret u =>
    obtain ⟨v, σ', H', J, r', q⟩ := hs
    exact ⟨v, H', J.os, J.bare, J.base, J.hok, r', q⟩
  | next =>
    obtain ⟨σ', H', J, q⟩ := hs
    exact ⟨.non, H', J.os, J.bare, J.base, J.hok, rfl, q⟩
  | brk => obtain ⟨_, _, _, q⟩ := hs; exact q.elim
  | cont => obtain ⟨_, _, _, q⟩ := hs; exact q.elim
end
end Bm
end
section
set_option Elab.async false
set_option linter.all false
set_option maxRecDepth 100000
set_option maxHeartbeats 1000000
namespace Bm
open PySem PySem.Spec L2
open PyProof.Rows hiding St
theorem thnTF {α : Type} {t : Sem α} {Q Q' : α → Shared → Prop} {M : Model} {A : Around} {E : Value → Shared → Prop} {s : Shared} (h : wpAny M A t Q (fun _ _ => False) s) (k : ∀ a s', s.toks ≤ s'.toks → Q a s' → Q' a s') : wpAny M A t Q' E s :=
  wpAny_mono (wpAny_toks h) (fun a s' z => k a s' z.1 z.2) fun _ _ z => z.2.elim
section
variable {X : Cx} {e : Expr} {pos : Pos} {c : Cfg} {a : E} {x : Str} {tg : Expr}
/-- what is walked, the frame kept -/
structure PIF (X : Cx) (tg iter : Expr) (wi : TI) : Prop where
  go : ∀ (pins : List (Addr × Obj)) (s : Shared) (σ : St) (H : Hp) (R : It → Hp → Prop), Inv X pins σ H s → wi σ H R →
    wpAny (model X.prog X.w) X.A (eval iter X.env) (fun v s1 => wpAny (model X.prog X.w) X.A (pyIter v) (FQ X s (PIE X pins σ tg R)) X.xe s1) X.xe s
theorem PIF.mono {t u : TI} (h : PIF X tg e t) (i : ∀ σ H R, u σ H R → t σ H R) : PIF X tg e u := ⟨fun pins s σ H R I q => h.go pins s σ H R I (i σ H R q)⟩
theorem pif_any {tl : TE} (hl : PEF X e tl) : PIF X tg e (iAny X.K tl) := by
  refine ⟨fun pins s σ H R I q => thn (hl.go pins s σ H _ I q) fun v s1 ⟨⟨y, H1, I1, r1, q1⟩, f1⟩ => ?_⟩
  have up : ∀ ob, Fk X s.heap (s1.heap.push ob) := fun ob => f1.trans (Fk.grown fun b o z => Heap.get?_push_of_some _ z)
  have fr : ∀ b ∈ [s1.heap.objs.size], FpOk X pins H1 b := fun b hb => by
    rw [List.mem_singleton.mp hb]
    exact I1.fpOk (Nat.le_refl _) (I1.hok.fresh (Nat.le_refl _))
  rcases q1 with ⟨ad, ey, ⟨xs, hq⟩, q⟩ | ⟨ad, ey, ⟨xs, hq⟩, q⟩ | ⟨z, ey, q⟩
  · subst ey
    cases r1
    obtain ⟨its, rv, pl, _⟩ := I1.list hq
    exact wpAny_pyIter_list pl.isList ⟨⟨_, _, _, _, H1, rfl, I1.kept (t' := s1.toks) fun b o z => Heap.get?_push_of_some _ z, turn_list ad _, ⟨_, Heap.get?_push_size _ rfl, rfl, rfl⟩, fr, q⟩, up _⟩
  · subst ey
    cases r1
    obtain ⟨its, rv, pl, _⟩ := I1.tuple hq
    exact wpAny_pyIter_tuple pl ⟨⟨_, _, _, _, H1, rfl, I1.kept (t' := s1.toks) fun b o z => Heap.get?_push_of_some _ z, turn_tuple ad _, ⟨_, Heap.get?_push_size _ rfl, rfl, rfl⟩, fr, q⟩, up _⟩
  · subst ey
    obtain ⟨tk, rfl⟩ := r1
    cases ha : z.cps.all (· < 128)
    · exact wpAny_pyIter_wide ha ⟨pi_one (tk := s1.toks) I1 _ (turn_str _ z tk "str_iterator" (.inr rfl)) ⟨_, Heap.get?_push_size _ rfl, rfl, rfl⟩ q, up _⟩
    · exact wpAny_pyIter_ascii ha ⟨pi_one (tk := s1.toks) I1 _ (turn_str _ z tk "str_ascii_iterator" (.inl rfl)) ⟨_, Heap.get?_push_size _ rfl, rfl, rfl⟩ q, up _⟩
/-- an expression, so many tokens out -/
structure PEN (X : Cx) (n : Nat) (e : Expr) (t : TE) : Prop where
  go : ∀ (pins : List (Addr × Obj)) (s : Shared) (σ : St) (H : Hp) (Q : VK), n ≤ s.toks → Inv X pins σ H s → t σ H Q → wpAny (model X.prog X.w) X.A (eval e X.env) (EP X pins σ Q) X.xe s
theorem lcT {pins : List (Addr × Obj)} {s : Shared} {σ : St} {H : Hp} {Q : VK} {elt iter : Expr} {ifs : List Expr} {scope : Scope} {own : List (Str × Nat)} {pos' : Pos} {wi : TI} {g : TG} {tt : TT} {te : TE} {Qf : Value → Shared → Prop}
    (hc : X.calm = true) (hN : X.N.Nodup) (I : Inv X pins σ H s) (hi : PIF X tg iter wi) (ok : BlkOk X.N X.env.scope scope own)
    (hg : ∀ (s : Shared) (H : Hp) (C : Addr) (cl : List (Str × Addr)) (fp : List Addr), PG (X.blk s H scope (compEnvC scope cl C X.env) fp) tg g) (ht : ∀ (s : Shared) (H : Hp) (C : Addr) (cl : List (Str × Addr)) (fp : List Addr), PTs (X.blk s H scope (compEnvC scope cl C X.env) fp) ifs tt)
    (he : ∀ (s' : Shared) (H' : Hp) (C : Addr) (cl : List (Str × Addr)) (fp : List Addr), Fk X s.heap s'.heap → s.toks ≤ s'.toks → (∀ y cc, X.env.cells.lookup y = some cc → H' cc = none ∧ cc ∉ fp) → cl = cellsFrom (s'.heap.objs.size + 1) scope.names (cloFrom X.env.cells scope.names []) →
      PEN (X.blk s' H' scope (compEnvC scope cl C X.env) fp) s'.toks elt te) (hs : ∀ y, foldedSetIterable iter X.env y = pure y)
    (h : tLc wi g tt te (own.map (·.2)) σ H Q)
    (fin : ∀ B C s' m H', Inv X pins σ H' s' → Fk X s.heap s'.heap → Q (.ref B) H' → s'.heap.Ns C m → FpOk X pins H' C → compPost (model X.prog X.w) X.A X.xe none Qf (.ref B) C (.ok .next) s') :
    wpAny (model X.prog X.w) X.A (comprehension (.ListComp elt [⟨tg, iter, ifs, 0⟩] scope pos) scope X.env pos' (newList []) false (eval iter X.env) none) Qf X.xe s := by
  have frees : ∀ y ∈ scope.names, y.2 = .free → ∃ cc, X.env.cells.lookup y.1 = some cc := fun y hy ey => (ok.free y hy ey).elim (fun z => I.ok.has _ (.inl z)) fun z => I.ok.has _ (.inr z)
  refine wpAny_comprehension_free (use := none) rfl hs (closure_ok frees) ok.kind (fun y hy ey => by rw [ok.uniq y hy, ey]) (thnT (hi.go pins s σ H _ I h) fun xv sa tka hx => thnT hx fun itv sb tkb hb => ?_)
  obtain ⟨⟨it, fp, tn, J, Hb, ei, Ib, T, stb, fb, q⟩, fkb⟩ := hb
  subst ei
  refine wpAny_newObj_type (newEnv_comp ?_) (by show 0 ≤ sizeLine; decide)
  generalize eB : sb.heap.objs.size = B
  have nB : Hb B = none := Ib.hok.fresh (Nat.le_of_eq eB)
  obtain ⟨W, ⟨n0, w0⟩, turn⟩ := q B nB
  generalize esc : ({ sb with heap := sb.heap.push { cls := .type "list", data := .seq ([] : List Value).toArray } } : Shared) = sc
  have hsc : sc.heap = sb.heap.push { cls := .type "list", data := .seq ([] : List Value).toArray } := by rw [← esc]
  have tksc : sc.toks = sb.toks := by rw [← esc]
  have kpc : ∀ b o, sb.heap.get? b = some o → sc.heap.get? b = some o := fun b o z => by rw [hsc]; exact Heap.get?_push_of_some _ z
  have Ic : Inv X pins σ (upd Hb B (.lst [])) sc := by
    rw [← esc]
    refine Ib.laid (t' := sb.toks) (fun b o z => Heap.get?_push_of_some _ z) (Nat.le_of_eq eB) ⟨Nat.zero_le _, [], 0, .nil, ?_⟩
    rw [← eB]; exact Heap.get?_push_size _ rfl
  have fc : ∀ b ∈ fp, FpOk X pins (upd Hb B (.lst [])) b ∧ b < sc.heap.objs.size := fun b hb => by
    obtain ⟨o, eo, _⟩ := T.obj _ _ stb b hb
    have lt := Heap.lt_size eo
    refine ⟨⟨?_, (fb b hb).2⟩, by rw [hsc, Heap.size_push]; exact Nat.lt_succ_of_lt lt⟩
    rw [upd_ne (by rw [← eB]; exact Nat.ne_of_lt lt)]; exact (fb b hb).1
  have stc : tn 0 sc.heap := T.keep _ _ _ stb fun b _ o z => kpc b o z
  have Id := block_start Ic ok hN fc
  have fkc : Fk X s.heap sc.heap := fkb.trans (Fk.grown kpc)
  have pe := he sc (upd Hb B (.lst [])) sc.heap.objs.size (cellsFrom (sc.heap.objs.size + 1) scope.names (cloFrom X.env.cells scope.names [])) fp fkc (by rw [tksc]; exact Nat.le_trans tka tkb) (fun y cc hcc => ⟨Ic.freeC y cc hcc, fun z => (fc cc z).1.2.2.2.2.1 y cc hcc rfl⟩) rfl
  have pg := hg sc (upd Hb B (.lst [])) sc.heap.objs.size (cellsFrom (sc.heap.objs.size + 1) scope.names (cloFrom X.env.cells scope.names [])) fp
  have pt := ht sc (upd Hb B (.lst [])) sc.heap.objs.size (cellsFrom (sc.heap.objs.size + 1) scope.names (cloFrom X.env.cells scope.names [])) fp
  show codeAny _ _ (.compStart (.ListComp elt [⟨tg, iter, ifs, 0⟩] scope pos) 0 (.ref it) (.ref B) (compEnvC scope (cellsFrom (sc.heap.objs.size + 1) scope.names (cloFrom X.env.cells scope.names [])) sc.heap.objs.size X.env)) (compPost (model X.prog X.w) X.A X.xe none Qf (.ref B) sc.heap.objs.size) { sc with heap := pushCells (sc.heap.push { cls := .type "dict", data := .dict #[] }) scope.names }
  have nfp : ∀ b ∈ fp, (upd Hb B (.lst [])) b = none := fun b hb => (fc b hb).1.1
  generalize ece : compEnvC scope (cellsFrom (sc.heap.objs.size + 1) scope.names (cloFrom X.env.cells scope.names [])) sc.heap.objs.size X.env = ce at Id pg pt pe ⊢
  have ceL : ce.locals = sc.heap.objs.size := by subst ece; rfl
  generalize eHc : upd Hb B (.lst []) = Hc at Ic Id pg pt pe w0 nfp fc
  generalize esd : ({ sc with heap := pushCells (sc.heap.push { cls := .type "dict", data := .dict #[] }) scope.names } : Shared) = sd at Id ⊢
  have tksd : sc.toks ≤ sd.toks := by rw [← esd]; exact Nat.le_refl _
  have std : tn 0 sd.heap := T.keep _ _ _ stc fun b _ o z => by rw [← esd]; exact pushCells_keeps _ _ _ _ (Heap.get?_push_of_some _ z)
  have foot : ∀ {σ' : St} {H' : Hp} {s' : Shared}, Inv (X.blk sc Hc scope ce fp) [] σ' H' s' → (∀ b ∈ fp, H' b = none) → ∀ b ∈ fp, FpOk (X.blk sc Hc scope ce fp) [] H' b := fun {σ' H' s'} I' hn b hb =>
    ⟨hn b hb, (I'.ok.exf b hb).1, I'.ok.exfs b hb, .inl hb, fun y c' z => (I'.ok.exf b hb).2 y c' z, fun p hp => absurd (show p ∈ ([] : List (Addr × Obj)) ++ [] from hp) (by simp)⟩
  have loop : codeAny (model X.prog X.w) X.A (.compLoop (.ListComp elt [⟨tg, iter, ifs, 0⟩] scope pos) 0 (.ref it) (.ref B) ce) (compPost (model X.prog X.w) X.A X.xe none Qf (.ref B) sc.heap.objs.size) sd := by
    refine compLoop_any (fun n s' => sc.toks ≤ s'.toks ∧ ∃ i H', Inv (X.blk sc Hc scope ce fp) [] (wipe σ (own.map (·.2))) H' s' ∧ tn i s'.heap ∧ (∀ b ∈ fp, H' b = none) ∧ W i n H') ?_ n0 ⟨tksd, 0, Hc, Id, std, nfp, w0⟩
    rintro n se ⟨tke, i, He, Ie, ste, ne, we⟩
    rcases turn i n He we with ⟨stop, qq⟩ | ⟨go, Nx, hNx, step⟩
    · refine thnF (T.done (X.blk sc Hc scope ce fp) rfl rfl rfl hc i [] se _ He (fun _ _ => False) Ie (foot Ie ne) ste stop) fun r sf ⟨hr, If⟩ => ?_
      subst hr
      have back : Inv X pins σ He sf := Ic.call' (ch := fp) If.os If.base If.hok If.bare fun b hb => ⟨(fc b hb).1.2.2.2.1, (fc b hb).1.2.1, (fc b hb).1.2.2.2.2.1, (fc b hb).1.2.2.2.2.2⟩
      have fkf : Fk X sc.heap sf.heap := fun b ob z eo => If.base.any eo (z.elim (fun w => by subst w; exact Ic.free) fun ⟨y, w⟩ => Ic.freeC y b w) fun w => z.elim (fun v => (fc b w).1.2.1 v) fun ⟨y, v⟩ => (fc b w).1.2.2.2.2.1 y b v rfl
      have nL : He ce.locals = none := If.free
      obtain ⟨m, hn, _⟩ := If.loc
      have hn : sf.heap.Ns ce.locals m := hn
      rw [ceL] at nL hn
      exact fin B sc.heap.objs.size sf m He back (fkc.trans fkf) qq hn (Ic.fpOk (Nat.le_refl _) nL)
    · refine thnTF (T.item (X.blk sc Hc scope ce fp) rfl rfl rfl hc i [] se _ He (fun _ _ => False) Ie (foot Ie ne) ste go) fun r sf tkf ⟨uf, hr, hf⟩ => ?_
      subst hr
      refine thnTF hf fun _ sg tkg ⟨y, Hg, Ig, rg, yg, stg, ng⟩ => ?_
      have Ip := Ig.pinned (foot Ig ng) (T.obj _ _ stg)
      refine thnTF (pg.run _ sg _ Hg y uf _ Ip rg (step y Hg yg)) fun _ sh tkh ⟨σh, Hh, Ih, wh, qh⟩ => ?_
      refine thnTF (pt.run _ sh σh Hh _ Ih qh) fun b si tki ⟨Hi, Ii, qi⟩ => ?_
      have tk5 : sc.toks ≤ si.toks := Nat.le_trans tke (Nat.le_trans tkf (Nat.le_trans tkg (Nat.le_trans tkh tki)))
      have ends : ∀ {s' : Shared} {H' : Hp}, sc.toks ≤ s'.toks → Inv (X.blk sc Hc scope ce fp) ([] ++ pinsAt fp sg.heap) σh H' s' → Nx H' → ∃ m, m < n ∧ (sc.toks ≤ s'.toks ∧ ∃ i H', Inv (X.blk sc Hc scope ce fp) [] (wipe σ (own.map (·.2))) H' s' ∧ tn i s'.heap ∧ (∀ b ∈ fp, H' b = none) ∧ W i m H') := fun {s' H'} tk' I' nx => by
        obtain ⟨m', hm, w'⟩ := hNx H' nx
        have pins' : ∀ b ∈ fp, ∀ o, sg.heap.get? b = some o → s'.heap.get? b = some o ∧ H' b = none := fun b hb o z => ⟨(I'.pin (b, o) (List.mem_append_right _ (List.mem_append_right _ (mem_pinsAt hb z)))).1, (I'.pin (b, o) (List.mem_append_right _ (List.mem_append_right _ (mem_pinsAt hb z)))).2.1⟩
        have lens : (wipe σ (own.map (·.2))).length = σh.length := by rw [← wh, wipe_length]
        refine ⟨m', hm, tk', i + 1, H', (I'.unpinned (pins := [])).weak lens (fun j v z => by rw [← wh] at z; exact (wipe_some z).1), T.keep _ _ _ stg fun b hb o z => (pins' b hb o z).1, fun b hb => ?_, w'⟩
        obtain ⟨o, z, _⟩ := T.obj _ _ stg b hb
        exact (pins' b hb o z).2
      cases b with
      | false =>
        rw [if_neg Bool.false_ne_true] at qi ⊢
        exact ends tk5 Ii qi
      | true =>
        rw [if_pos rfl] at qi ⊢
        refine thnTF (pe.go _ si σh Hi _ tk5 Ii qi) fun z sj tkj ⟨yv, Hj, Ij, rj, acc, hBj, hzj, nx⟩ => ?_
        refine thnT (app_ok (X := X.blk sc Hc scope ce fp) Ij hBj hzj rj (Q := fun _ s' => Inv (X.blk sc Hc scope ce fp) ([] ++ pinsAt fp sg.heap) σh (upd Hj B (.lst (acc ++ [yv]))) s') fun s' I' => I') fun _ sk tkk Ik => ?_
        exact ends (Nat.le_trans tk5 (Nat.le_trans tkj tkk)) Ik nx
  exact codeAny_compStart_list loop (T.self X.A 0 _ _ _ std loop)
/-- a free name's cell in the block is the frame's -/
theorem clo_look {X : Cx} {scope : Scope} {own : List (Str × Nat)} {h : Heap} {x : Str} {cc : Addr} (ok : BlkOk X.N X.env.scope scope own) (hf : scope.names.lookup x = some .free) (hc : X.env.cells.lookup x = some cc) : (cellsFrom (h.objs.size + 1) scope.names (cloFrom X.env.cells scope.names [])).lookup x = some cc := by
  rw [← Heap.size_push h { cls := .type "dict", data := .dict #[] }]
  obtain ⟨c', e'⟩ := mem_lookup (cells_acc (names := scope.names) (n := (h.push { cls := .type "dict", data := .dict #[] }).objs.size) (cloFrom_has (cells := X.env.cells) (acc := []) (PySem.mem_of_lookup hf)))
  rw [e']
  rcases cells_mem (PySem.mem_of_lookup e') with z | ⟨z, _, _⟩
  · rcases cloFrom_mem z with z | ⟨_, z⟩
    · cases z
    · rw [z, hc]; rfl
  · have w := ok.uniq _ z
    have w : scope.names.lookup x = some .cell := w
    rw [hf] at w; cases w
theorem peu_lc {elt iter : Expr} {ifs : List Expr} {scope : Scope} {own : List (Str × Nat)} {wi : TI} {g : TG} {tt : TT} {te : TE} (hc : X.calm = true) (hN : X.N.Nodup) (hk : X.env.kindOf x ≠ some .local) (hi : PIF X tg iter wi) (ok : BlkOk X.N X.env.scope scope own) (hfr : scope.names.lookup x = some .free)
    (hg : ∀ (s : Shared) (H : Hp) (C : Addr) (cl : List (Str × Addr)) (fp : List Addr), PG (X.blk s H scope (compEnvC scope cl C X.env) fp) tg g) (ht : ∀ (s : Shared) (H : Hp) (C : Addr) (cl : List (Str × Addr)) (fp : List Addr), PTs (X.blk s H scope (compEnvC scope cl C X.env) fp) ifs tt)
    (he : ∀ (s : Shared) (H : Hp) (C : Addr) (cl : List (Str × Addr)) (fp : List Addr) (cc : Addr) (u : Value), cl.lookup x = some cc → s.heap.IsCell cc (some u) → Gd u s → H cc = none → cc ∉ fp → PEN (X.blk s H scope (compEnvC scope cl C X.env) fp) s.toks elt te) (hs : ∀ y, foldedSetIterable iter X.env y = pure y := by intro _; rfl) :
    PEU X x (.ListComp elt [⟨tg, iter, ifs, 0⟩] scope pos) (tLc wi g tt te (own.map (·.2))) := by
  refine ⟨fun pins s σ H Q I gv q => ?_⟩
  rw [eval_ListComp]
  refine lcT hc hN I hi ok hg ht (fun s' H' C cl fp fk tk fr ecl => ?_) hs q fun B C s' m H' I' _ qq hn f => ⟨m, hn, fun h' sb => ?_⟩
  · obtain ⟨u, mm, _, lk, gd⟩ := gv.fk fk tk
    rcases lk with ⟨kd, _⟩ | ⟨_, cc, h1, h2⟩
    · exact absurd kd hk
    · refine he s' H' C cl fp cc u ?_ h2 gd (fr x cc h1).1 (fr x cc h1).2
      rw [ecl]; exact clo_look ok hfr h1
  · obtain ⟨f0, f1, f2, f3, f4, f5⟩ := f
    exact ⟨.ref B, H', I'.turned (t' := s'.toks) (fun b o hb z => (sb.2 b hb).trans z) f0 f1 f3 f4 f5, rfl, qq⟩
end
end Bm
end
section
set_option Elab.async false
set_option linter.all false
set_option maxRecDepth 100000
set_option maxHeartbeats 1000000
namespace Bm
open PySem PySem.Spec L2
open PyProof.Rows hiding St
theorem filt_join (k : Nat) : ∀ ps : List Str, (∀ p ∈ ps, k ∉ p.cps.toList) → (Str.join ⟨#[k]⟩ ps).cps.toList.filter (fun y => y != k) = (Str.join ⟨#[]⟩ ps).cps.toList
  | [], _ => rfl
  | [p], h => by
    show p.cps.toList.filter _ = p.cps.toList
    refine List.filter_eq_self.mpr fun y hy => ?_
    have : y ≠ k := fun z => h p List.mem_cons_self (z ▸ hy)
    simpa using this
  | p :: q :: r, h => by
    have ih := filt_join k (q :: r) fun a ha => h a (List.mem_cons_of_mem _ ha)
    show (p ++ ⟨#[k]⟩ ++ Str.join ⟨#[k]⟩ (q :: r)).cps.toList.filter (fun y => y != k) = (p ++ ⟨#[]⟩ ++ Str.join ⟨#[]⟩ (q :: r)).cps.toList
    simp only [Str.cps_append, Array.toList_append]
    rw [List.filter_append, List.filter_append, ih]
    have e1 : p.cps.toList.filter (fun y => y != k) = p.cps.toList := List.filter_eq_self.mpr fun y hy => by
      have : y ≠ k := fun z => h p List.mem_cons_self (z ▸ hy)
      simpa using this
    rw [e1]
    simp
theorem repl_filter (z : Str) (k : Nat) : Txt.replace z ⟨#[k]⟩ ⟨#[]⟩ = st ((toL z).filter fun y => y != k) := by
  have h : (Txt.replace z ⟨#[k]⟩ ⟨#[]⟩).cps.toList = (toL z).filter fun y => y != k := by
    rw [StrLaws.replace_one, ← filt_join k _ (StrLaws.split_free z k), StrLaws.join_split]
    rfl
  have := congrArg st h
  rw [← this]
  exact (st_toL _).symm
section
variable {X : Cx} {e e1 e2 : Expr} {es : List Expr} {pos : Pos} {c : Cfg} {a b m : E} {x : Str}
theorem pen_replace {row : Str} {j i k : Nat} {p1 p2 p3 apos cpos : Pos} {u : Value} {cc : Addr} (hcl : X.env.cells.lookup x = some cc) (h0 : X.s_0.heap.IsCell cc (some u)) (gd : Gd u X.s_0) (hH : X.H_0 cc = none) (hex : cc ∉ X.ex) (hk : X.env.kindOf x ≠ some .local)
    (hj : X.N[j]? = some row) (hvj : Vis X.env.scope row) (hi : X.N[i]? = some x) (hvi : Vis X.env.scope x) (hfew : ((backTo cpos (starEach [.Name x p2, .Constant (.str "") k p3] X.env)).all (fun x => !x.1) && (backToKw cpos (keywordEach [] X.env)).all (fun x => x.1.isSome)
      && decide (([.Name x p2, .Constant (.str "") k p3] : List Expr).length + ([] : List Keyword).length + (if ([] : List Keyword).isEmpty then 0 else 1) < 30)) = true := by rfl)
    (hline : (apos.endLine == cpos.line) = true := by rfl) (hd : (x == ("__debug__" : Str)) = false := by decide) (hcd : (x == ("__classdict__" : Str)) = false := by decide) (hdr : (row == ("__debug__" : Str)) = false := by decide) (hcr : (row == ("__classdict__" : Str)) = false := by decide)
    (hbase : attributeBase (.Name row p1) "replace" X.env (eval (.Name row p1) X.env) = eval (.Name row p1) X.env := by rfl) (hs : starEach [.Name x p2, .Constant (.str "") k p3] X.env = (false, eval (.Name x p2) X.env) :: starEach [.Constant (.str "") k p3] X.env := by rfl) (hs2 : starEach [.Constant (.str "") k p3] X.env = (false, eval (.Constant (.str "") k p3) X.env) :: starEach [] X.env := by rfl) :
    PEN X X.s_0.toks (.Call (.Attribute (.Name row p1) "replace" apos) [.Name x p2, .Constant (.str "") k p3] [] cpos) (TEv X.K c (.meth .replace (.var j) (.cons (.var i) (.cons (.lit (.str "")) .nil)))) := by
  refine ⟨fun pins s σ H Q tk I q => ?_⟩
  have q2 := tev_meth (G := fun v vs H2 => ∃ z kk, v = .str z ∧ vs = [.str ⟨#[kk]⟩, .str ""] ∧ z.length ≤ lim ∧ Q (.str (st ((toL z).filter fun y => y != kk))) H2) q (fun z ds d' vs F2 H2 sm dn ed w => by
    simp only [opD] at ed; unfold dop_replace at ed
    split at ed
    · rename_i z' t0 t1 heq
      cases heq
      obtain ⟨hg, ed⟩ := guardO_some ed
      simp only [Bool.and_eq_true, decide_eq_true_eq] at hg
      match dn with
      | .cons d1 (.cons d2 .nil) =>
        have v1 := dn_str d1; subst v1
        have v2 := dn_str d2; subst v2
        cases hsg : sign1 t0 with
        | none => rw [hsg] at ed; cases ed
        | some kk =>
          rw [hsg] at ed; cases ed
          have et : t1 = "" := by rw [← st_toL t1, hg.2]; rfl
          rw [sign1_eq hsg, et]
          exact ⟨z, kk, rfl, rfl, hg.1, w.here sm (Dp.str _)⟩
    · cases ed)
  obtain ⟨v1, ev1, ⟨z, rfl⟩, q3⟩ := imp_var σ H _ q2
  obtain ⟨v2, ev2, q4⟩ := imp_var σ H _ (imp_cons σ H _ q3)
  have q5 := imp_cons σ H _ q4
  have q6 := lit_of (c := c) (K := X.K) (v := .str "") (d := .str "") (fun F => Dn.of (Dp.str "")) σ H _ q5
  obtain ⟨F, r, x0, h9⟩ := q6
  obtain ⟨z', kk, ez, evs, hz, qq⟩ := h9 [] F H x0 Ef.refl (fun _ z => z) .nil
  cases ez
  have ev2' : v2 = .str ⟨#[kk]⟩ := by injection evs
  subst ev2'
  obtain ⟨mm, hn, hl⟩ := id I.loc
  obtain ⟨u1, r1, l1⟩ := hl j row (.str z) hj ev1 hvj
  obtain ⟨u2, r2, l2⟩ := hl i x (.str ⟨#[kk]⟩) hi ev2 hvi
  obtain ⟨t1, rfl⟩ := r1
  have eu : u2 = u := by
    obtain ⟨ob, ho, hod⟩ := h0
    obtain ⟨sl, e1⟩ := I.base.any ho hH hex
    rcases l2 with ⟨kd, _⟩ | ⟨_, c2, hc2, o2, ho2, hd2⟩
    · exact absurd kd hk
    · rw [hcl] at hc2; cases hc2
      rw [e1] at ho2; cases ho2
      have hd2 : ob.data = .cell (some u2) := hd2
      rw [hod] at hd2; injection hd2 with w; injection w with w; exact w.symm
  obtain ⟨y, tu, rfl, g1, g2⟩ := gd
  subst eu
  obtain ⟨t2, e2⟩ := r2
  injection e2 with ey et
  subst ey; subst et
  refine wpAny_Call_method_late hbase hfew hline rfl ?_
  refine name_is I hn l1 ?_ hdr hcr
  obtain ⟨g3, g4⟩ := tyV_is (T := "str") I (x := V.str z) (v := Value.str z t1) ⟨t1, rfl⟩ (tyV_str ⟨z, rfl⟩)
  refine ⟨"str", "str.replace", PySem.F.plainAttrs_str, PySem.F.slot_str_replace, PySem.F.type_str_replace, g3, g4, ?_⟩
  rw [hs]
  refine Calls.callWith_builtin (by show (false || (backTo cpos (starEach [.Constant (.str "") k p3] X.env)).any (·.1)) = false; rw [hs2]; rfl) (Calls.evalArgs_plain ?_)
  refine Calls.spliced_cons (name_is I hn l2 ?_ hd hcd)
  rw [hs2]
  refine Calls.spliced_cons (Calls.Constant_str (k := k) (pos := p3) (Calls.spliced_nil ?_))
  refine PySem.SC.replace (Nat.ne_of_gt g1) (Nat.ne_of_gt (Nat.lt_of_lt_of_le (Nat.lt_trans g1 g2) tk)) (Nat.ne_of_lt (Nat.lt_of_lt_of_le g2 tk)) (by rfl) (by
    have e0 : ("" : Str).length = 0 := rfl
    rw [e0, Nat.mul_zero, Nat.add_zero]
    exact Nat.le_trans hz (by decide)) fun t' kt => ?_
  refine ⟨.str _, H, (I.tok (s.toks + 1)).tok kt, ⟨t', rfl⟩, ?_⟩
  rw [show ("" : Str) = ⟨#[]⟩ from rfl, repl_filter]
  exact qq
end
end Bm
end
section
set_option Elab.async false
set_option linter.all false
set_option maxRecDepth 100000
set_option maxHeartbeats 1000000
namespace Bm
open PySem PySem.Spec L2
open PyProof.Rows hiding St
section
variable {X : Cx} {e e1 e2 : Expr} {es : List Expr} {pos : Pos} {c : Cfg} {a b m : E} {x : Str} {tg : Expr} {sta : Stmt} {rest sts sts' : List Stmt} {s1 s2 : S}
theorem imp_seq {K : PySem.W.Frag} (σ : St) (H : Hp) (R' : It → Hp → Prop) (w : TIv K c (.it .seq (.cons a .nil)) σ H R') : iAny K (TEv K c a) σ H R' := by
  obtain ⟨F, r, x, h⟩ := w
  refine ⟨F, r, x, ?_⟩
  simp only [den] at h
  cases ed : den c.call a r with
  | ok p =>
    obtain ⟨d, r1⟩ := p
    rw [ed] at h
    simp only [R.ok_bind] at h
    intro v F1 H1 x1 e1 s1 q1
    cases d with
    | list l =>
      have q1' : Dp K F1 v (.list l) := q1
      cases q1' with
      | lst h1 h2 => exact .inl ⟨_, rfl, ⟨_, .inl (.inl (x1.rel.same _ _ h1))⟩, h _ F1 H1 x1 e1 s1 (yields_list h1 h2)⟩
    | tuple l =>
      have q1' : Dp K F1 v (.tuple l) := q1
      cases q1' with
      | tup h1 h2 => exact .inr (.inl ⟨_, rfl, ⟨_, .inl (.inl (x1.rel.same _ _ h1))⟩, h _ F1 H1 x1 e1 s1 (yields_tup h1 h2)⟩)
    | str z =>
      have q1' : Dp K F1 v (.str z) := q1
      cases q1'
      exact .inr (.inr ⟨z, rfl, h _ F1 H1 x1 e1 s1 (yields_str z)⟩)
    | none => exact h.elim
    | bool _ => exact h.elim
    | int _ => exact h.elim
    | dict _ => exact h.elim
  | exc k => rw [ed] at h; exact h
  | stuck => rw [ed] at h; exact h
theorem fi_seq (h : PEF X e (TEv X.K c a)) : PIF X tg e (TIv X.K c (.it .seq (.cons a .nil))) := PIF.mono (pif_any h) imp_seq
theorem imp_lc {K : PySem.W.Frag} {wi : TI} {t : Tg} {g : TG} {src cnd el : E} {vs : List Nat} (hwi : wi = TIv K c src) (ht : TGo K (qt c) t g) (ho : vs = tgs t) (σ : St) (H : Hp) (Q : VK) (w : TEv K c (.lc (tgs t) t src cnd el) σ H Q) : tLc wi g (TTv K (qt c) cnd) (TEv K (qt c) el) vs σ H Q := by
  subst hwi
  obtain ⟨F, r, x, h⟩ := w
  rw [ho]
  refine tev_lc ht x ?_
  cases ed : den c.call (.lc (tgs t) t src cnd el) r with
  | exc k => rw [ed] at h; exact h
  | stuck => rw [ed] at h; exact h
  | ok p =>
    obtain ⟨d, r'⟩ := p
    rw [ed] at h
    obtain ⟨ys, rfl⟩ := lc_list_of ed
    intro A vs F' H' x' ef ow hA fA nO dA oA dD
    refine h (.ref A) (upd F' A (.lst vs)) H' ?_ ?_ ow (Dp.lst upd_same (dpa_same (same_upd fA) _ _ dA))
    · refine ⟨⟨x'.rel.len, fun b o hb => ?_, fun i => ?_, x'.rel.inj⟩, x'.tie, fun b o hb n => ?_, x'.own, x'.pin⟩
      · by_cases hbA : b = A
        · subst hbA; rw [upd_same] at hb; cases hb; exact hA
        · rw [upd_ne hbA] at hb; exact x'.rel.same b o hb
      · refine slot_same (same_upd fA) (fun b o1 o2 hf _ => ⟨?_, rfl⟩) Aside.refl (x'.rel.ok i)
        rw [upd_ne (fun (z : b = A) => nO ⟨i, o1, z ▸ o2⟩)]; exact hf
      · have k := x'.kp b o hb n
        refine ⟨?_, k.2⟩
        rw [upd_ne (fun z => ?_)]
        · exact k.1
        · rcases oA with w | w
          · exact n (by rw [z]; exact w)
          · rw [← z, hb] at w; cases w
    · intro b o hb nb
      have k := ef b o hb nb
      refine ⟨?_, k.2⟩
      rw [upd_ne (fun z => dD b o hb nb z.symm)]; exact k.1
/-- [row.replace(x, "") for row in e] -/
theorem uv_lcR {iter : Expr} {scope : Scope} {own : List (Str × Nat)} {t : Tg} {g : TG} {src : E} {row : Str} {j i k : Nat} {p1 p2 p3 apos cpos : Pos} (hc : X.calm = true) (hN : X.N.Nodup) (hk : X.env.kindOf x ≠ some .local) (hi : PIF X tg iter (TIv X.K c src)) (ok : BlkOk X.N X.env.scope scope own) (hfr : scope.names.lookup x = some .free) (ht : TGo X.K (qt c) t g) (ho : own.map (·.2) = tgs t)
    (hg : ∀ (s : Shared) (H : Hp) (C : Addr) (cl : List (Str × Addr)) (fp : List Addr), PG (X.blk s H scope (compEnvC scope cl C X.env) fp) tg g) (hj : X.N[j]? = some row) (hii : X.N[i]? = some x)
    (hvj : ∀ (C : Addr) (cl : List (Str × Addr)), Vis (compEnvC scope cl C X.env).scope row) (hvi : ∀ (C : Addr) (cl : List (Str × Addr)), Vis (compEnvC scope cl C X.env).scope x) (hkb : ∀ (C : Addr) (cl : List (Str × Addr)), (compEnvC scope cl C X.env).kindOf x ≠ some .local)
    (hfew : ∀ (C : Addr) (cl : List (Str × Addr)), ((backTo cpos (starEach [.Name x p2, .Constant (.str "") k p3] (compEnvC scope cl C X.env))).all (fun x => !x.1) && (backToKw cpos (keywordEach [] (compEnvC scope cl C X.env))).all (fun x => x.1.isSome)
      && decide (([.Name x p2, .Constant (.str "") k p3] : List Expr).length + ([] : List Keyword).length + (if ([] : List Keyword).isEmpty then 0 else 1) < 30)) = true := by intro _ _; rfl)
    (hbase : ∀ (C : Addr) (cl : List (Str × Addr)), attributeBase (.Name row p1) "replace" (compEnvC scope cl C X.env) (eval (.Name row p1) (compEnvC scope cl C X.env)) = eval (.Name row p1) (compEnvC scope cl C X.env) := by intro _ _; rfl)
    (hline : (apos.endLine == cpos.line) = true := by rfl) (hd : (x == ("__debug__" : Str)) = false := by decide) (hcd : (x == ("__classdict__" : Str)) = false := by decide) (hdr : (row == ("__debug__" : Str)) = false := by decide) (hcr : (row == ("__classdict__" : Str)) = false := by decide) (hs : ∀ y, foldedSetIterable iter X.env y = pure y := by intro _; rfl) :
    PEU X x (.ListComp (.Call (.Attribute (.Name row p1) "replace" apos) [.Name x p2, .Constant (.str "") k p3] [] cpos) [⟨tg, iter, [], 0⟩] scope pos) (TEv X.K c (.lc (tgs t) t src (.lit (.bool true)) (.meth .replace (.var j) (.cons (.var i) (.cons (.lit (.str "")) .nil))))) := by
  refine PEU.mono (peu_lc hc hN hk hi ok hfr hg (fun _ _ _ _ _ => st_nil) ?_ hs) (imp_lc rfl ht ho)
  intro s H C cl fp cc u h1 h2 h3 h4 h5
  exact pen_replace (X := X.blk s H scope (compEnvC scope cl C X.env) fp) h1 h2 h3 h4 h5 (hkb C cl) hj (hvj C cl) hii (hvi C cl) (hfew C cl) hline hd hcd hdr hcr (hbase C cl) rfl rfl
def FnAtT (P : Program) (w : World) (K : PySem.W.Frag) (mg : Str → Option Value) (base : Heap) (k : Nat) (x : Str) (sp : Sp) : Prop :=
  ∃ (fa : Addr) (fd : FuncData) (ps : List Str), mg x = some (.ref fa) ∧ PySem.W.keepIn K (.ref fa) = true ∧ L2.Binds K fd ps [] ∧ FnOkT P w K mg base (L2N.CX P w) k fa fd ps sp
theorem uv_call2 {y : Str} {p px : Pos} {f k i : Nat} (hf : FnAtT X.prog X.w X.K X.mg X.base k y (spF X.K c.J c.cl (c.call f none))) (hr : Room k X.A) (hx : Passes (L2N.CX X.prog X.w) X c.E) (hg : Gl X y) (ha : PEF X e (TEv X.K c a)) (hN : X.N[i]? = some x := by rfl) (hv : Vis X.env.scope x := by first | exact Or.inl rfl | exact Or.inr (Or.inl rfl) | exact Or.inr (Or.inr rfl))
    (hdb : (y == ("__debug__" : Str)) = false := by decide) (he : starEach [e, .Name x px] X.env = (false, eval e X.env) :: starEach [.Name x px] X.env := by rfl) (he2 : starEach [.Name x px] X.env = (false, eval (.Name x px) X.env) :: starEach [] X.env := by rfl) (hpl : (backTo pos (starEach [.Name x px] X.env)).any (·.1) = false := by rfl)
    (hd : (x == ("__debug__" : Str)) = false := by decide) (hcd : (x == ("__classdict__" : Str)) = false := by decide) : PEU X x (.Call (.Name y p) [e, .Name x px] [] pos) (TEv X.K c (.call f (.cons a (.cons (.var i) .nil)))) := by
  obtain ⟨fa, fd, ps, hm, hk, hb, F⟩ := hf
  refine PEU.mono (peu_call2 (i := i) F hr hg hm hk hb hx ha hN hv hdb he he2 hpl hd hcd) fun σ H Q w => ?_
  have w1 := imp_call σ H Q w
  refine TEv.imp (imp_cons σ H _ w1) fun v H1 w2 => ?_
  have w3 := imp_cons σ H1 _ w2
  obtain ⟨v2, ev, w4⟩ := imp_var σ H1 _ w3
  obtain ⟨F, r, x0, h0⟩ := w4
  exact ⟨v2, ev, h0 [] F H1 x0 Ef.refl (fun _ z => z) .nil⟩
theorem uv_call1 {y : Str} {p : Pos} {f k : Nat} (hf : FnAt X.prog X.w X.K X.mg X.base k y (spF X.K c.J c.cl (c.call f none))) (hr : Room k X.A) (hx : Passes (L2N.CX X.prog X.w) X c.E) (hg : Gl X y) (ha : PAU X x (e :: es) (TAv X.K c a))
    (hdb : (y == ("__debug__" : Str)) = false := by decide) (he : starEach (e :: es) X.env = (false, eval e X.env) :: starEach es X.env := by rfl) (hpl : (backTo pos (starEach es X.env)).any (·.1) = false := by rfl) :
    PEU X x (.Call (.Name y p) (e :: es) [] pos) (TEv X.K c (.call f a)) := by
  obtain ⟨fa, fd, ps, hm, hk, hb, F⟩ := hf
  exact PEU.mono (peu_call F hr hg hm hk hb hx ha hdb he hpl) imp_call
theorem ua_head (ha : PEU X x e (TEv X.K c a)) (hr : PA X es (TAv X.K c b)) (hs : starEach (e :: es) X.env = (false, eval e X.env) :: starEach es X.env := by rfl) : PAU X x (e :: es) (TAv X.K c (.cons a b)) := PAU.mono (pau_head ha hr hs) imp_cons
theorem imp_expr {K : PySem.W.Frag} (D : Ends) (σ : St) (H : Hp) (w : TSv K c (.expr a) D σ H) : tDrop (TEv K c a) D σ H := by
  obtain ⟨F, r, x, h⟩ := w
  refine ⟨F, r, x, ?_⟩
  rw [denS_expr] at h
  exact okE_stmt x h fun d r1 v F1 H1 ⟨x1, _, _, q1⟩ h1 => h1 σ H1 F1 x1 (Same.refl _)
theorem imp_ret {K : PySem.W.Frag} (D : Ends) (σ : St) (H : Hp) (w : TSv K c (.ret a) D σ H) : tRet (TEv K c a) D σ H := by
  obtain ⟨F, r, x, h⟩ := w
  refine ⟨F, r, x, ?_⟩
  rw [denS_ret] at h
  exact okE_stmt x h fun d r1 v F1 H1 ⟨x1, _, _, q1⟩ h1 => h1 v σ H1 F1 x1 (Same.refl _) q1
theorem imp_asg {K : PySem.W.Frag} {t : Tg} {g : TG} (ht : TGv K c t g) (D : Ends) (σ : St) (H : Hp) (w : TSv K c (.asg t a) D σ H) : tAsg (TEv K c a) g D σ H := by
  obtain ⟨F, r, x, h⟩ := w
  refine ⟨F, r, x, ?_⟩
  rw [denS_asg] at h
  refine okE_stmt x h fun d r1 v F1 H1 ⟨x1, _, _, q1⟩ h1 => ?_
  simp only at h1
  cases eb : bindT t d r1 with
  | none => rw [eb] at h1; exact h1.elim
  | some r2 =>
    rw [eb] at h1
    exact ht v d r1 r2 σ F1 H1 D.nx x1 q1 eb fun σ' x' _ _ => h1 σ' H1 F1 x' (Same.refl _)
theorem imp_ifs {K : PySem.W.Frag} (D : Ends) (σ : St) (H : Hp) (w : TSv K c (.ifs m s1 s2) D σ H) : tIfS (TTv K c m) (TSv K c s1) (TSv K c s2) D σ H := by
  obtain ⟨F, r, x, h⟩ := w
  refine ⟨F, r, x, ?_⟩
  simp only [denS] at h
  cases e : den c.call m r with
  | exc k => rw [e] at h; exact h
  | stuck => rw [e] at h; exact h
  | ok p =>
    obtain ⟨d, r1⟩ := p
    rw [e] at h
    intro v F1 H1 x1 e1 s1 q1
    cases d with
    | bool k =>
      refine ⟨k, dn_bool q1, ?_⟩
      cases k with
      | true => exact iteT ⟨F1, r1, x1, OkS.shift h (e1.same x.rel)⟩
      | false => exact iteF ⟨F1, r1, x1, OkS.shift h (e1.same x.rel)⟩
    | none => exact h.elim
    | int _ => exact h.elim
    | str _ => exact h.elim
    | list _ => exact h.elim
    | tuple _ => exact h.elim
    | dict _ => exact h.elim
theorem ks_expr (he : PEF X e (TEv X.K c a)) (hs : swapsWith e none pos.line X.env = pure false := by rfl) : PSG X x (.Expr e pos) (TSv X.K c (.expr a)) := PSG.mono (psg_expr he hs) imp_expr
theorem ks_asg {t : Tg} {g : TG} (ht : TGv X.K c t g) (he : PEF X e (TEv X.K c a)) (hg : PGG X x tg g) (hs : swapsWithSole [tg] e pos.line X.env = pure false := by rfl) (hw : swappedStores [tg] e X.env = pure none := by rfl)
    (h1 : (assignEach [tg] X.env).map (·.2) = [assign tg X.env] := by rfl) : PSG X x (.Assign [tg] e pos) (TSv X.K c (.asg t a)) := PSG.mono (psg_asg he hg hs hw h1) (imp_asg ht)
theorem stops_raise {K : PySem.W.Frag} {k : Nat} : Stops (TSv K c (.raise k)) := fun D σ H ⟨F, r, x, h⟩ => ⟨F, r, x, h⟩
theorem imp_skip {K : PySem.W.Frag} (D : Ends) (σ : St) (H : Hp) (w : TSv K c .skip D σ H) : tNext D σ H := by
  obtain ⟨F, r, x, h⟩ := w
  exact h σ H F x (Same.refl _)
theorem ks_if (hc : PTF X e (TTv X.K c m)) (ha : PSs X sts (TSv X.K c s1)) (hst : Stops (TSv X.K c s1)) : PSG X x (.If e sts [] pos) (TSv X.K c (.ifs m s1 .skip)) := by
  refine PSG.mono (psg_if hc ha hst) fun D σ H w => ?_
  have w1 := imp_ifs D σ H w
  refine TEv.imp w1 fun v H1 ⟨k, ev, z⟩ => ⟨k, ev, ?_⟩
  cases k with
  | true => exact z
  | false => exact imp_skip D σ H1 z
theorem us_ret (he : PEU X x e (TEv X.K c a)) : PSU X x (.Return (some e) pos) (TSv X.K c (.ret a)) := PSU.mono (psu_ret he) imp_ret
theorem us_cons (h1 : PSG X x sta (TSv X.K c s1)) (h2 : PSsU X x rest (TSv X.K c s2)) : PSsU X x (sta :: rest) (TSv X.K c (.seq s1 s2)) := PSsU.mono (pssu_cons h1 h2) fun _ _ _ q => tsv_seq q
theorem us_one (h1 : PSU X x sta (TSv X.K c s1)) : PSsU X x [sta] (TSv X.K c s1) := pssu_one h1
end
section
variable {P : Program} {w : World} {K : PySem.W.Frag} {mg : Str → Option Value} {base : Heap} {J : Hp → Prop} {hJ : ∀ H H' : Hp, (∀ b o, H b = some o → H' b = some o ∨ isMut o) → J H → J H'} {cl : Nat → Value} {T : Nat → Option FDef}
/-- a def whose second argument is good -/
theorem def_okT {n f : Nat} {fd : FDef} {x qual y : Str} {st : Stmt} {fa : Addr} {fdat : FuncData} {N ps : List Str} (hT : T f = some fd) (hio : fd.io = false) (F : Fun K x qual st fa fdat) (S : FnScope N ps (defScope st)) (hy : ps[1]? = some y) (hnp : fd.np = ps.length) (hns : fd.ns = N.length) (hle : fd.np ≤ fd.ns)
    (hb : L2.Binds K fdat ps []) (hmg : mg x = some (.ref fa))
    (der : ∀ (W : Ent) (E : XK) (cdv : Value) (A : Around) (outer : List PySem.Env) (s : Shared) (H : Hp), Free W [] → Room (n + 1) (A.deeper (PyProof.Rows.envOfC qual (defScope st) s.heap.objs.size fa cdv)) →
      PSsU (cxOf (L2N.CX P w) P w K mg base N qual (defScope st) fa cdv A outer s H E) y (defBody st) (TSv K (cfg J hJ cl (run T n) W E) fd.body)) :
    FnAtT P w K mg base (n + 2) x (spF K J cl (run T (n + 1) f none)) := by
  have len : ∀ vs H Q E, spF K J cl (run T (n + 1) f none) vs H Q E → vs.length = ps.length := by
    rintro vs H Q E ⟨F, ds, _, _, q, h⟩
    simp only [run, hT, entry] at h
    by_cases hl : ds.length = fd.np
    · rw [dna_len q, hl, hnp]
    · rw [if_neg (fun z => hl z.2)] at h; exact h.elim
  have hmg' := hmg
  obtain ⟨oc, od, kV, doc, pm, an, cdv, ct, osl, rfl, lk, hcd⟩ := F.ex
  refine ⟨fa, _, ps, hmg, F.kp, hb, fn_ofT lk hcd S len hy fun A outer s H vs Q E hr h => ?_⟩
  obtain ⟨F, ds, sm, j, q, h⟩ := h
  refine ⟨_, der (entC H F (fun _ => False) (fun _ _ => True)) E cdv A outer s H (fun _ _ _ => trivial) hr, ?_⟩
  simp only [run, hT, entry] at h
  by_cases hl : ds.length = fd.np
  · rw [if_pos ⟨hio, hl⟩] at h
    refine ⟨F, _, start_ok (N := N) (ns := fd.ns) (np := fd.np) sm j q hns hl hle rfl, ?_⟩
    show OkS K _ F (denS (run T n) fd.body _) _
    cases ed : denS (run T n) fd.body (ds.map .sh ++ List.replicate (fd.ns - fd.np) .un) with
    | nxt r =>
      simp only [ed, endOf] at h
      exact fun σ' H' F' x' _ => h .non F' H' (kp_grow x'.rel.same x'.kp) x'.tie Dp.non
    | ret d r =>
      simp only [ed, endOf] at h
      exact fun v σ' H' F' x' _ q' => h v F' H' (kp_grow x'.rel.same x'.kp) x'.tie q'
    | exc k =>
      simp only [ed, endOf] at h
      exact fun F' H' j' sm' kp' => h F' H' (kp_grow sm' kp') j'
    | stuck => simp only [ed, endOf] at h
  · rw [if_neg (fun z => hl z.2)] at h; exact h.elim
theorem def_okT0 {f : Nat} {x qual y : Str} {st : Stmt} {fa : Addr} {fdat : FuncData} {N ps : List Str} (F : Fun K x qual st fa fdat) (S : FnScope N ps (defScope st)) (hy : ps[1]? = some y) (hb : L2.Binds K fdat ps []) (hmg : mg x = some (.ref fa)) :
    FnAtT P w K mg base 1 x (spF K J cl (run T 0 f none)) := by
  obtain ⟨oc, od, kV, doc, pm, an, cdv, ct, osl, rfl, lk, hcd⟩ := F.ex
  exact ⟨fa, _, ps, hmg, F.kp, hb, fn_ofT lk hcd S (fun vs H Q E h => by obtain ⟨F, ds, _, _, q, h⟩ := h; exact h.elim) hy fun A outer s H vs Q E hr h => by obtain ⟨F, ds, _, _, q, h⟩ := h; exact h.elim⟩
end
end Bm
end
section
set_option Elab.async false
set_option linter.all false
set_option maxRecDepth 100000
set_option maxHeartbeats 1000000
namespace Bm
open PySem PySem.Spec L2
open PyProof.Rows hiding St
end Bm
namespace Bm
open PySem PySem.Spec L2
open PyProof.Rows hiding St
/-- a token is out -/
structure PSN (X : Cx) (st : Stmt) (t : TS) : Prop where
  go : ∀ (pins : List (Addr × Obj)) (s : Shared) (σ : St) (H : Hp) (D : Ends), 1 ≤ s.toks → Inv X pins σ H s → t D σ H → wpAny (model X.prog X.w) X.A (exec st X.env) (SP X pins D) X.xe s
structure PSsN (X : Cx) (sts : List Stmt) (t : TS) : Prop where
  go : ∀ (pins : List (Addr × Obj)) (s : Shared) (σ : St) (H : Hp) (D : Ends), 1 ≤ s.toks → Inv X pins σ H s → t D σ H → wpAny (model X.prog X.w) X.A (execs sts X.env) (SP X pins D) X.xe s
section
variable {X : Cx} {tg : Expr} {x : Str} {sta : Stmt} {rest sts : List Stmt} {t u : TS} {pos : Pos}
theorem PSN.of (h : PS X sta t) : PSN X sta t := ⟨fun pins s σ H D _ I q => h.run pins s σ H D I q⟩
theorem PSsN.of (h : PSs X sts t) : PSsN X sts t := ⟨fun pins s σ H D _ I q => h.run pins s σ H D I q⟩
theorem PSN.mono (h : PSN X sta t) (i : ∀ D σ H, u D σ H → t D σ H) : PSN X sta u := ⟨fun pins s σ H D k I q => h.go pins s σ H D k I (i D σ H q)⟩
theorem PSsN.mono (h : PSsN X sts t) (i : ∀ D σ H, u D σ H → t D σ H) : PSsN X sts u := ⟨fun pins s σ H D k I q => h.go pins s σ H D k I (i D σ H q)⟩
end
end Bm
end
section
set_option Elab.async false
set_option linter.all false
set_option maxRecDepth 100000
set_option maxHeartbeats 4000000
namespace Bm
open PySem PySem.Spec PyProof.Rows L2 HotX L2H LamX
/-- what is wished of an exception of the body -/
def wAt (K : PySem.W.Frag) (cv : Value) (i : Nat) (Y : Addr → Value → Option Addr → L2.St → Hp → Prop) (Wout : WX) : WX := fun cls d σ H =>
  ∃ b, PySem.W.exmOne K cls cv = some b ∧ (b = true → ∀ a, H a = none → Y a cls d (σ.set i (some (.ref a))) H) ∧ (b = false → Wout cls d σ H)
/-- the ends of a suite, the exception's object still known -/
def SPX (X : Cx) (pins : List (Addr × Obj)) (i : Nat) (a : Addr) (cls : Value) (d : Option Addr) (D : Ends) (f : Flow) (s6 : Shared) : Prop :=
  ∃ oe σ6 H6, Inv (X.suite a ((a, oe) :: (X.pn ++ pins))) [] σ6 H6 s6 ∧ L2N.Zn cls d oe ∧ (∃ vs, oe.data = .fields vs) ∧
    match f with
    | .next => ∃ H7, (∀ s7, Inv X pins (σ6.set i none) H6 s7 → s7.heap.get? a = some oe → ∃ σ8, Inv X pins σ8 H7 s7 ∧ D.nx σ8 H7)
    | .ret u => ∃ v H7, RelV v u ∧ (∀ s7, Inv X pins (σ6.set i none) H6 s7 → s7.heap.get? a = some oe → ∃ σ8, Inv X pins σ8 H7 s7 ∧ D.rt v H7)
    | _ => False
section
variable {X : Cx} {x n : Str} {cv : Value} {i : Nat} {body suite : List Stmt} {b₀ : Stmt} {np pos pos' : Pos} {Y : Addr → Value → Option Addr → L2.St → Hp → Prop} {Wout : WX} {pins : List (Addr × Obj)} {s : Shared} {σ : L2.St} {H : Hp} {D : Ends}
theorem try_at (hs : X.stack = X.env :: X.outer) (hf : X.env.frame = some X.env.locals) (hxe : X.ex = []) (hN : X.N.Nodup) (hi : X.N[i]? = some n) (hln : X.env.kindOf n = some .local) (hcn : Names X x cv) (tk : L2N.Takes X Wout) (I : Inv X pins σ H s)
    (hb : ∀ (pn : List (Addr × Obj)) (xe : Value → Shared → Prop), L2N.Takes (X.tr pn xe) (wAt X.K cv i Y Wout) → PassesOwn (model X.prog X.w) X.A X.env xe → Inv (X.tr pn xe) [] σ H s → wpAny (model X.prog X.w) X.A (execs body X.env) (SP (X.tr pn xe) [] D) xe s)
    (hsu : ∀ (a : Addr) (oe : Obj) (cls : Value) (d : Option Addr) (s5 : Shared) (σ5 : L2.St) (H5 : Hp), X.s_0.heap.get? a = none → L2N.Zn cls d oe → (∃ vs, oe.data = .fields vs) → Inv (X.suite a ((a, oe) :: (X.pn ++ pins))) [] σ5 H5 s5 → Y a cls d σ5 H5 →
      wpAny (model X.prog X.w) (X.A.mark (some (.ref a))) (execs (b₀ :: suite) X.env) (SPX X pins i a cls d D) (fun _ _ => False) s5) :
    wpAny (model X.prog X.w) X.A (exec (.Try body [.ExceptHandler (some (.Name x np)) (some n) (b₀ :: suite) pos'] [] [] pos) X.env) (SP X pins D) X.xe s := by
  have okX := I.ok
  have frames : X.A.frames = some (X.env :: X.outer) := by rw [okX.frames, hs]
  refine wpAny_Try_except (wpAny_mono (hb (X.pn ++ pins) (fun ev sa => wpAny (model X.prog X.w) X.A (noteFrame ev X.env) (fun _ sb => wpAny (model X.prog X.w) X.A (setFlight ev none) (fun _ sc =>
    wpAny (model X.prog X.w) X.A (handleBy ev X.env [.ExceptHandler (some (.Name x np)) (some n) (b₀ :: suite) pos']) (SP X pins D) X.xe sc) X.xe sb) X.xe sa) (fun uv sv xx => ?_) PassesOwn.looking (I.toTry _)) (fun fl sv hv => ?_) fun _ _ z => z)
  · obtain ⟨a, B, sI, pv, σv, Hv, cls, d, rfl, Jt, nb, up, sky, na, os, ag, b, hbk, hyes, hno⟩ := xx
    have J : Inv X pins σv Hv sI := Jt.ofTry okX
    have sky2 : Sky B (X.env :: X.outer) a (L2N.Zn cls d) X.env.locals sv.heap := by rw [← hs]; exact sky
    show wpAny (model X.prog X.w) X.A (noteFrame (.ref a) X.env) _ _ _
    refine L2N.Sky.land L2N.Zn.steady frames hf sky2 fun hA flA upA => ?_
    have JA : Inv X pins σv Hv { sv with heap := hA } := J.landed nb flA.1 (up.trans upA) os ag
    obtain ⟨oA, vA, eA, zA, dA⟩ := flA.there
    have nfr : a ∉ frs (X.env :: X.outer) := fun hm => by
      obtain ⟨_, o2, e2, hnf⟩ := flA.2.2.1.mem hm
      rw [eA] at e2; cases e2
      exact hnf _ dA
    have nL : a ≠ X.env.locals := fun z => nfr (List.mem_filterMap.mpr ⟨X.env, List.mem_cons_self, by rw [hf, z]⟩)
    have nF : a ∉ X.fs := fun hm => by
      obtain ⟨ee, he, q⟩ := List.mem_filterMap.mp hm
      exact nfr (List.mem_filterMap.mpr ⟨ee, List.mem_cons_of_mem _ he, q⟩)
    have n0 : X.s_0.heap.get? a = none := by
      cases e0 : X.s_0.heap.get? a with
      | none => rfl
      | some o0 =>
        obtain ⟨o', e1⟩ := J.base.there a o0 e0 (by rw [hxe]; simp)
        have e2 := nb a o' e1 (by rw [hs]; exact nfr)
        rcases sky with ⟨_, z, _⟩ | z | z
        · rw [z] at e2; cases e2
        · rw [z.2.1] at e2; cases e2
        · rw [z.2.1] at e2; cases e2
    have SA := JA.suite eA dA na nL nF
    refine wpAny_handleBy_cons (codeAny_handlers_test ?_) (by intro q; cases q)
    have looks : PySem.W.Looks (model X.prog X.w) hA (typeOf (.ref a)) cls := fun A' Q' E' s' k q => wpAny_typeOf_ref (k _ _ eA) (by rw [zA.1]; exact q)
    have match1 := PySem.W.exm_one (M := model X.prog X.w) (JA.kIn) looks hbk
    have test : ∀ {Q' : Value → Shared → Prop} {E' : Value → Shared → Prop}, Q' cv { sv with heap := hA } → wpAny (model X.prog X.w) (X.A.mark (some (.ref a))) (eval (.Name x np) X.env) Q' E' { sv with heap := hA } := fun {Q' E'} q => by
      obtain ⟨g1, g2, g3 | ⟨g3, g4, g5⟩⟩ := hcn
      · exact ld_glob (X := X.suite a ((a, oA) :: (X.pn ++ pins))) SA g1 g3 q g2
      · exact ld_blt (X := X.suite a ((a, oA) :: (X.pn ++ pins))) SA g1 g3 g4 q g5 g2
    refine test (match1.here ?_)
    cases b with
    | false =>
      show wpAny _ X.A (handleBy (.ref a) X.env []) _ _ _
      refine wpAny_handleBy_nil ?_
      obtain ⟨k1, k2, k3, oe, vs, T, oT, ts', he, hz, hd, h1, hr⟩ := id flA
      unfold PySem.passOn
      refine wpAny_bind (wpAny_field he hd h1 ?_)
      rw [if_neg (show ¬ ((Value.ref T == Value.none) = true) from by simp)]
      have out : wpAny (model X.prog X.w) X.A (setFlight (.ref a) X.env.frame) (fun _ sz => wpAny (model X.prog X.w) X.A (throw (.ref a) : Sem Flow) (SP X pins D) X.xe sz) X.xe { sv with heap := hA } := by
        rw [hf]
        refine HandSPX.setFlight_upZ flA fun hB hhB upB => wpAny_throw (tk _ _ ?_)
        exact ⟨a, B, sI, pins, σv, Hv, cls, d, rfl, J, nb, (up.trans upA).trans upB, .inr (.inr (by rw [hs]; exact hhB)), na, os, ag, hno rfl⟩
      first
        | exact wpAny_bind (wpAny_pure (wpAny_bind out))
        | exact wpAny_bind out
    | true =>
      refine codeAny_handlers_suite_as (HandSPX.lands_againZ flA fun hB flB upB => ?_)
      have JB : Inv X pins σv Hv { sv with heap := hB } := J.landed nb flB.1 ((up.trans upA).trans upB) os ag
      obtain ⟨oB, vB, eB, zB, dB⟩ := flB.there
      have SB := JB.suite eB dB na nL nF
      refine store_ok (X := X.suite a ((a, oB) :: (X.pn ++ pins))) (v := .ref a) SB hN hi (.inl hln) rfl (fun s5 S5 => ?_) (.inr hln)
      refine wpAny_mono (hsu a oB cls d s5 _ Hv n0 zB ⟨_, dB⟩ S5 (hyes rfl a na)) (fun fl s6 hsp => ?_) fun _ _ z => z.elim
      obtain ⟨oe, σ6, H6, S6, z6, d6, rest⟩ := hsp
      have pin6 : s6.heap.get? a = some oe := (S6.pin (a, oe) (List.mem_append_left _ List.mem_cons_self)).1
      have gone : ∀ {Q' : Shared → Prop}, (∀ s7, Inv X pins (σ6.set i none) H6 s7 → s7.heap.get? a = some oe → Q' s7) → wpAny (model X.prog X.w) X.A (do bindName X.env n .none; unbindBehindTheSuite X.env n pos') (fun _ s7 => Q' s7) X.xe s6 := fun {Q'} q => by
        have J6 : Inv X (pins ++ [(a, oe)]) σ6 H6 s6 := by
          refine (S6.unsuite okX).pins_of fun p hp => ?_
          rcases List.mem_append.mp hp with z | z
          · exact S6.pin p (List.mem_append_left _ (List.mem_cons_of_mem _ (List.mem_append_right _ z)))
          · rw [List.mem_singleton.mp z]; exact S6.pin (a, oe) (List.mem_append_left _ List.mem_cons_self)
        exact gone_ok J6 hN hi hln fun s7 J7 => q s7 J7.unpinned (J7.pin (a, oe) (List.mem_append_right _ (List.mem_append_right _ (List.mem_singleton.mpr rfl)))).1
      cases fl with
      | next =>
        obtain ⟨H7, q7⟩ := rest
        exact gone fun s7 J7 p7 => let ⟨σ8, a8, b8⟩ := q7 s7 J7 p7; ⟨σ8, H7, a8, b8⟩
      | ret uu =>
        obtain ⟨v, H7, r7, q7⟩ := rest
        exact gone fun s7 J7 p7 => let ⟨σ8, a8, b8⟩ := q7 s7 J7 p7; ⟨v, σ8, H7, a8, r7, b8⟩
      | brk => exact rest.elim
      | cont => exact rest.elim
  · cases fl with
    | next => obtain ⟨σ', H', J', q⟩ := hv; exact wpAny_execs_nil ⟨σ', H', J'.ofTry okX, q⟩
    | brk => obtain ⟨σ', H', J', q⟩ := hv; exact ⟨σ', H', J'.ofTry okX, q⟩
    | cont => obtain ⟨σ', H', J', q⟩ := hv; exact ⟨σ', H', J'.ofTry okX, q⟩
    | ret v => obtain ⟨w, σ', H', J', r, q⟩ := hv; exact ⟨w, σ', H', J'.ofTry okX, r, q⟩
end
end Bm
end
section
set_option Elab.async false
set_option linter.all false
set_option maxRecDepth 100000
set_option maxHeartbeats 4000000
namespace Bm
open PySem PySem.Spec PyProof.Rows L2 HotX L2H LamX
/-- a def called at one state -/
theorem run_at {CX : CXT} {P : Program} {w : World} {K : PySem.W.Frag} {mg : Str → Option Value} {base : Heap} {k : Nat} {f : Addr} {name qual : Str} {params : Arguments} {body : List Stmt} {scope : Scope} {dV kV doc pm cdv ct oc : Value} {an od : Option Addr}
    {osl : Array (Option Value)} {N ps : List Str} (lk : K.lookup f = some ⟨oc, od, .func (PySem.W.fnOf name qual params body scope dV kV doc pm an cdv ct), osl⟩) (hcd : PySem.W.codeIn K cdv qual = true) (S : FnScope N ps scope)
    {A : Around} {outer : List PySem.Env} {s : Shared} {H : Hp} {args : Args} {us : List Value} {vs : List V} {Q : VK} {E : XK} (hr : Room (k + 1) A) (e0 : Env0 P w K mg base A outer s H) (hb : BindsTo s (PySem.W.fnOf name qual params body scope dV kV doc pm an cdv ct) args (ps.zip us)) (rv : Vals vs us) (hl : vs.length = ps.length)
    (hbody : ∀ s1, Room k (A.deeper (envOfC qual scope s.heap.objs.size f cdv)) → s.toks ≤ s1.toks → Inv (cxOf CX P w K mg base N qual scope f cdv A outer s H E) [] (L2.start N vs) H s1 →
      wpAny (model P w) (cxOf CX P w K mg base N qual scope f cdv A outer s H E).A (execs body (cxOf CX P w K mg base N qual scope f cdv A outer s H E).env) (SP (cxOf CX P w K mg base N qual scope f cdv A outer s H E) [] { nx := fun _ H' => Q .non H', rt := Q }) (cxOf CX P w K mg base N qual scope f cdv A outer s H E).xe s1) :
    codeAny (model P w) A (.call (.ref f) args) (CR CX outer P w H s Q E) s := by
  have kin : K.In s.heap := e0.mod.kin.keeps fun b o z => (e0.bs b o z).1
  have nl : s.heap.NoLimit := e0.mod.nolimit.keeps fun b o z => (e0.bs b o z).1
  have kinds : ∀ y ∈ ps.zip us, scope.names.lookup y.1 = some .local ∨ (scope.names.lookup y.1 = some .cell ∧ ((cellsFrom (s.heap.objs.size + 1) scope.names []).lookup y.1).isSome = true) := fun y hy => by
    rcases S.par y.1 (List.of_mem_zip (a := y.1) (b := y.2) hy).1 with z | z
    · exact .inl z
    · exact .inr ⟨z, PySem.W.cellsFrom_some _ _ _ (.inl z)⟩
  refine codeAny_call_function hr.depth (kin _ _ lk) rfl S.co S.gen rfl (PySem.W.codeRec_of kin hcd) (hb _ _ _ _ ?_)
  refine wpAny_with_toks (n := s.toks) (Nat.le_refl _) (wpAny_newFunctionEnv_cells S.kind kinds fun env he s1 ic tk => ?_)
  subst he
  refine ⟨nl.keeps ic.toInCall.keep, codeAny_func ?_⟩
  have I : Inv (cxOf CX P w K mg base N qual scope f cdv A outer s H E) [] (L2.start N vs) H s1 := inv_start S hr.hd e0 hl rv ic
  refine wpAny_mono (hbody s1 (hr.deeper _) tk I) (fun fl s' hs => ?_) fun e s' hs => hs
  cases fl with
  | ret u =>
    obtain ⟨v, σ', H', J, r', q⟩ := hs
    exact ⟨v, H', J.os, J.bare, J.base, J.hok, r', q⟩
  | next =>
    obtain ⟨σ', H', J, q⟩ := hs
    exact ⟨.non, H', J.os, J.bare, J.base, J.hok, rfl, q⟩
  | brk => obtain ⟨_, _, _, q⟩ := hs; exact q.elim
  | cont => obtain ⟨_, _, _, q⟩ := hs; exact q.elim
end Bm
end
section
set_option Elab.async false
set_option linter.all false
set_option maxRecDepth 100000
set_option maxHeartbeats 4000000
namespace Bm
open PySem PySem.Spec PyProof.Rows L2 HotX L2H LamX
structure MetAt (K : PySem.W.Frag) (mg : Str → Option Value) : Prop where
  ex : ∃ (g : Addr) (fd : FuncData) (st : Stmt), mg "_law_met" = some (.ref g) ∧ Fun K "_law_met" "_law_met" st g fd ∧ L2.Binds K fd ["deed"] [] ∧ FnScope ["deed", "e"] ["deed"] (defScope st) ∧
    (defScope st).names.lookup ("MapError" : Str) = some .globalImplicit ∧ (defScope st).names.lookup ("e" : Str) = some .local ∧ (defScope st).names.lookup ("deed" : Str) = some .local ∧
    ∃ p1 p2 p3 p4 p6 p8 p9 p10 p11 p12 kn, defBody st = [.Try [.Expr (.Call (.Name "deed" p1) [] [] p2) p3] [.ExceptHandler (some (.Name "MapError" p4)) (some "e") [.Return (some (.Name "e" p6)) p8] p9] [] [] p10, .Return (some (.Constant .none kn p11)) p12]
/-- an untracked exception that was not there at the entry is tracked -/
theorem trackX {X : Cx} {σ : L2.St} {H : Hp} {s : Shared} {a : Addr} {oe : Obj} {ca : Nat → Addr} {k : Nat} (I : Inv X [] σ H s) (hpn : X.pn = []) (g : s.heap.get? a = some oe) (n0 : X.s_0.heap.get? a = none) (na : H a = none) (nL : a ≠ X.env.locals)
    (hc : oe.cls = .ref (ca k)) (hd : oe.dict = none) (hf : ∃ vs, oe.data = .fields vs) : Inv X [] σ (upd H a (.ext (exT ca k a))) s := by
  refine ⟨I.ok, I.os, I.bare, ⟨I.base.keep, I.base.slot, fun b o e n hx => ?_, I.base.there, fun b xs e => ?_, fun b o u e => ?_, fun b ps e => ?_⟩, I.loc, I.cell, ?_, fun x c e => ?_, fun p hp => ?_, fun b u e => ?_, I.len⟩
  · rw [upd_ne (fun z => by rw [z, n0] at e; cases e)]; exact I.base.free b o e n hx
  · have z := I.base.tups b xs e
    rw [upd_ne (ne_of_none z na)]; exact z
  · have z := I.base.frzs b o u e
    rw [upd_ne (ne_of_none z na)]; exact z
  · obtain ⟨m, z⟩ := I.base.tbls b ps e
    exact ⟨m, by rw [upd_ne (ne_of_none z na)]; exact z⟩
  · rw [upd_ne (fun z => nL z.symm)]; exact I.free
  · rw [upd_ne (fun z => ?_)]
    · exact I.freeC x c e
    · obtain ⟨v, o, ho, hd'⟩ := I.cell x c e
      rw [z, g] at ho
      cases ho
      obtain ⟨vs, hv⟩ := hf
      rw [hv] at hd'; cases hd'
  · rw [hpn] at hp; cases hp
  · by_cases hb : b = a
    · subst hb
      rw [upd_same] at e
      cases e
      exact ⟨⟨oe, g, hc, hd, hf⟩, ⟨oe, g⟩, fun _ _ ⟨o, q, r⟩ k => ⟨o, k o q, r⟩⟩
    · rw [upd_ne hb] at e
      exact (I.hok b u e).stay (fun c v _ q => q) (fun c q => by rw [upd_ne (ne_of_none q na)]; exact q) fun c xs q => by rw [upd_ne (ne_of_none q na)]; exact q
/-- what is wanted of the exception -/
def Emet (ca : Nat → Addr) (Q : VK) : XK := fun cls d H' => d = none ∧ ∃ k, k < 13 ∧ cls = .ref (ca k) ∧ ∀ a H'', Same H' H'' → H' a = none → H'' a = some (.ext (exT ca k a)) → Q (.ref a) H''
def tMet (T : List (Addr × Str)) (P : Addr) (ca : Nat → Addr) (t : XK → TE) : TE := fun σ H Q => Tabs T H ∧ ∀ H1, (∀ b o, b ≠ P → H b = some o → H1 b = some o) → Tabs T H1 → t (Emet ca Q) σ H1 (fun _ _ => False)
theorem pe_met {X : Cx} {T : List (Addr × Str)} {c P : Addr} {k : Nat} {ca : Nat → Addr} {M : Addr} {params : Arguments} {body : Expr} {scope : Scope} {t : XK → TE} {p lpos pos : Pos} (Z : ExcTop X.K X.mg ca M) (TO : MetAt X.K X.mg) (hg : Gl X "_law_met")
    (TB : TabB X.base X.mg c P) (hcode : X.env.code = .ref c) (hmT : (P, X.env.qual ++ "<lambda>") ∈ T) (hu : ∀ p ∈ T, p.1 = P → p.2 = X.env.qual ++ "<lambda>") (hr : Room (k + 2) X.A) (L : LamS X.env.scope scope) (hdef : defaultsOf params X.env = ([], []))
    (hbind : ∀ (q : Str) (cl : List (Str × Addr)) (pm cv ctv : Value), bindArgs (PySem.W.kla_fn "<lambda>" q params body scope cl pm cv ctv) ⟨[], []⟩ = pure [])
    (hbody : ∀ (A : Around) (outer : List PySem.Env) (s : Shared) (H : Hp) (E : XK) (f c' : Addr), Room k (A.deeper (lamEnv X scope s.heap.objs.size f c')) → PE (lamN X A outer s H E scope f c') body (t E)) :
    PE X (.Call (.Name "_law_met" p) [.Lambda params body scope lpos] [] pos) (tMet T P ca t) := by
  refine ⟨fun pins s σ H Q I ⟨hT, h⟩ => ?_⟩
  obtain ⟨g, fd, st, hm, F, hb, S, hs2, hs3, hs4, p1, p2, p3, p4, p6, p8, p9, p10, p11, p12, kn, hbd⟩ := TO.ex
  obtain ⟨oc, od, kV, doc, pm, an, cdv, ct, osl, rfl, lk, hcd⟩ := F.ex
  refine wpAny_Call_Name_kw (ld_glob I hg hm ?_ (by decide))
  refine PySem.W.callWith_K (h₀ := X.base) I.ok.mod.kin F.kp ?_ (by rfl) (by rfl)
  show wpAny _ _ (spliced ((false, eval (.Lambda params body scope lpos) X.env) :: backTo pos (starEach [] X.env))) _ _ s
  refine Calls.spliced_cons (lam_new I TB hcode hmT hu hT hdef (L.has I.ok) fun f c' pm' ctv H1 s' I1 ko T1 _ hf hfn hfr hco => ?_)
  refine Calls.spliced_nil ⟨I1.kIn, ?_⟩
  have tl := h H1 ko T1
  have rc : codeAny (model X.prog X.w) X.A (.call (.ref g) ⟨[.ref f], []⟩) (CR C8.CX0 X.stack X.prog X.w H1 s' Q C8.E0) s' := by
    refine run_at (N := ["deed", "e"]) (ps := ["deed"]) (us := [.ref f]) (vs := [.ref f]) lk hcd S hr I1.env0 (hb s' [.ref f] I1.kIn rfl) (.cons rfl .nil) rfl fun sa hr' tka Ia => ?_
    rw [hbd]
    refine wpAny_execs_cons (thn (try_at (X := cxOf C8.CX0 X.prog X.w X.K X.mg X.base ["deed", "e"] "_law_met" (defScope st) g cdv X.A X.stack s' H1 C8.E0) (cv := .ref M) (i := 1) (D := { nx := fun _ _ => False, rt := Q })
      (Y := fun a cls d σ' H' => (σ'[1]? = some (some (.ref a)) ∨ σ'.length ≤ 1) ∧ Emet ca Q cls d H') rfl rfl rfl S.nd rfl hs3 ⟨hs2, by decide, .inl Z.gM⟩ takesN0 Ia (fun pn xe tkx po Iz => ?_) (fun a oe cls d s5 σ5 H5 n0 hz hf' S5 yy => ?_)) fun fl sz hz => ?_)
    · have hW : ∀ cls d σ' H', Emet ca Q cls d H' → wAt X.K (.ref M) 1 (fun a cls d σ' H' => (σ'[1]? = some (some (.ref a)) ∨ σ'.length ≤ 1) ∧ Emet ca Q cls d H') (fun _ _ _ _ => False) cls d σ' H' := by
        intro cls d σ' H' hE
        have hE0 := hE
        obtain ⟨hd, k', hk', hc', q'⟩ := hE
        refine ⟨true, by rw [hc']; exact Z.exm k' hk', fun _ a na => ⟨?_, hE0⟩, fun z => by cases z⟩
        rcases Nat.lt_or_ge 1 σ'.length with hl | hl
        · exact .inl (by rw [List.getElem?_set_self hl])
        · exact .inr (by rw [List.length_set]; exact hl)
      have act := act_n (CXg := C8.CX0) (Eg := C8.E0) (X := X) (pins := pins) (p1 := p1) (p2 := p2) (i := 0) (a := "deed") (Ng := ["deed", "e"]) (tb := t (Emet ca Q)) I1 L hf hfn hfr (hbind _ _ _ _ _) tkx hW hr' (fun A outer s H hr2 => hbody A outer s H (Emet ca Q) f c' hr2) rfl (.inl hs4)
      exact (pss_one (ps_expr (pos := p3) act)).run [] sa _ H1 { nx := fun _ _ => False, rt := Q } Iz ⟨rfl, hco, tl⟩
    · have hσ : σ5[1]? = some (some (.ref a)) := yy.1.elim id fun z => by
        have l1 : σ5.length = 2 := S5.len
        omega
      have pa := S5.pin (a, oe) (List.mem_append_left _ List.mem_cons_self)
      refine thn ((pss_one (ps_ret (pos := p8) (pe_var (X := (cxOf C8.CX0 X.prog X.w X.K X.mg X.base ["deed", "e"] "_law_met" (defScope st) g cdv X.A X.stack s' H1 C8.E0).suite a ((a, oe) :: ((cxOf C8.CX0 X.prog X.w X.K X.mg X.base ["deed", "e"] "_law_met" (defScope st) g cdv X.A X.stack s' H1 C8.E0).pn ++ []))) (pos := p6) (i := 1) (x := "e") rfl (.inl hs3) (by decide) (by decide)))).run [] s5 σ5 H5 { nx := fun _ _ => False, rt := fun v H' => v = .ref a ∧ H' = H5 } S5 ⟨.ref a, hσ, rfl, rfl⟩) fun fl s6 z => ?_
      cases fl with
      | next => obtain ⟨σ6, H6, S6, q6⟩ := z; exact q6.elim
      | ret uu =>
        obtain ⟨v, σ6, H6, S6, r6, ev, eH⟩ := z
        subst ev eH
        obtain ⟨hd, k', hk', hc', q'⟩ := yy.2
        refine ⟨oe, σ6, H6, S6, hz, hf', .ref a, upd H6 a (.ext (exT ca k' a)), r6, fun s7 J7 g7 => ⟨_, trackX J7 rfl g7 n0 pa.2.1 pa.2.2.1 (by rw [hz.1, hc']) (by rw [hz.2.1, hd]) hf', ?_⟩⟩
        exact q' a _ (same_upd pa.2.1) pa.2.1 upd_same
      | brk => obtain ⟨_, _, _, q6⟩ := z; exact q6.elim
      | cont => obtain ⟨_, _, _, q6⟩ := z; exact q6.elim
    · cases fl with
      | next => obtain ⟨_, _, _, q⟩ := hz; exact q.elim
      | ret uu => exact hz
      | brk => exact hz
      | cont => exact hz
  refine wpAny_call (codeAny_mono rc fun r s2 hq => ?_)
  cases r with
  | error e => exact (show False from hq).elim
  | ok fl =>
    cases fl with
    | ret u => exact I1.after hq
    | next => exact False.elim hq
    | brk => exact False.elim hq
    | cont => exact False.elim hq
end Bm
end
section
set_option Elab.async false
set_option linter.all false
set_option maxRecDepth 100000
set_option maxHeartbeats 2000000
namespace Bm
open PySem PySem.Spec PyProof.Rows L2 HotX L2H LamX
theorem paired_len {α β : Type} {P : α → β → Prop} : ∀ {l : List α} {m : List β}, Paired P l m → l.length = m.length
  | _, _, .nil => rfl
  | _, _, .cons _ t => congrArg (· + 1) (paired_len t)
theorem paired_app {α β : Type} {P : α → β → Prop} : ∀ {l l' : List α} {m m' : List β}, Paired P l m → Paired P l' m' → Paired P (l ++ l') (m ++ m')
  | _, _, _, _, .nil, h => h
  | _, _, _, _, .cons h t, q => .cons h (paired_app t q)
theorem sizeLine_1000 : 1000 ≤ sizeLine := Nat.le_trans (by decide) sizeLine_big
theorem met_go {K : PySem.W.Frag} {c : Cfg} {a : E} {T : List (Addr × Str)} {P : Addr} {q0 : Str} {ca : Nat → Addr} {σ : L2.St} {H F : Hp} {r : Env} {Q : VK} {k : Nat} (hJT : ∀ H, c.J H ↔ Tabs T H) (hmT : (P, q0) ∈ T) (hw : WOk c.W P) (hcl : ∀ k, c.cl k = .ref (ca k))
    (x : Stt K c r σ H F) (hk : k < 13) (ed : den c.call a (hidE r) = .exc k) (q : ∀ a H'' F'', Stt K c r σ H'' F'' → Same F F'' → F'' a = none → H'' a = some (.ext (exT ca k a)) → Q (.ref a) H'') : tMet T P ca (tLamE K c a) σ H Q := by
  have hT := (hJT H).mp x.tie
  refine ⟨hT, fun H1 ko T1 => ?_⟩
  obtain ⟨ps0, hw0⟩ := hw.h
  have fP : F P = none := (x.kp P _ hw0 hw.o).1.trans hw.f
  obtain ⟨ps, hP, _⟩ := hT _ hmT
  obtain ⟨ps1, hP1, _⟩ := T1 _ hmT
  have ne : ∀ b o, F b = some o → b ≠ P := fun b o e z => by rw [z, fP] at e; cases e
  have g : Grow F H F H1 := ⟨fun b o e => ko b o (ne b o e) (x.rel.same b o e), fun b o e => ⟨rfl, by
    by_cases hb : b = P
    · subst hb
      rw [hP] at e; cases e
      exact .inr ⟨⟨_, rfl⟩, _, hP1⟩
    · exact .inl (ko b o hb e)⟩⟩
  have x1 : Stt K c r σ H1 F := g.stt x ((hJT H1).mpr T1)
  have no : ∀ b, ¬ Own (hidE r) σ b := fun b ⟨i, q, _⟩ => by rw [hid_no] at q; cases q
  have lenE : (hidE r).length = r.length := by simp [hidE]
  have x2 : Stt K { c with W := entC H1 F (fun _ => False) (fun _ _ => True), E := Emet ca Q } (hidE r) σ H1 F := by
    refine ⟨⟨lenE.trans x1.rel.len, x1.rel.same, fun i => ?_, fun i j b q => absurd ⟨i, q⟩ (no b)⟩, x1.tie, fun b o e _ => ⟨rfl, .inl e⟩, fun b q => absurd q (no b), fun _ => trivial⟩
    have q := x1.rel.ok i
    rw [hidE_get]
    cases e : getS r i with
    | un => trivial
    | sh d => rw [e] at q; exact q
    | own l => trivial
    | dicT l => trivial
    | dicK l => trivial
    | ins l => trivial
    | lck l => rw [e] at q; exact q
    | exs l => trivial
  refine ⟨entC H1 F (fun _ => False) (fun _ _ => True), fun _ _ _ => trivial, F, hidE r, x2, ?_⟩
  show OkE K _ (hidE r) σ F H1 (den c.call a (hidE r)) _
  rw [ed]
  intro F' H' j' sm' kp'
  have g2 : Grow F H1 F' H' := kp_grow sm' kp'
  refine ⟨rfl, k, hk, hcl k, fun p H'' s2 n2 e2 => ?_⟩
  have nF : F' p = none := sm'.free n2
  have g3 : Grow F' H' F' H'' := ⟨fun b o e => s2 _ _ (sm' _ _ e), fun b o e => ⟨rfl, .inl (s2 _ _ e)⟩⟩
  have j3 : c.J H'' := c.hJ H' H'' (fun b o e => .inl (s2 b o e)) j'
  exact q p H'' F' (g3.stt (g2.stt x1 j') j3) (g2.sameF x1.rel.same) nF e2
section
variable {X : Cx} {c : Cfg} {a : E} {T : List (Addr × Str)} {cc P : Addr} {k i : Nat} {ca : Nat → Addr} {M : Addr} {params : Arguments} {body : Expr} {scope : Scope} {p lpos pos cpos : Pos}
/-- x = [_law_met(lambda: ..)] -/
theorem ss_metN {y : Str} {py lp : Pos} (hN : X.N.Nodup) (hi : X.N[i]? = some y) (hy : Loc X.env.scope y) (hca : ca = exCa X.K) (Z : ExcTop X.K X.mg ca M) (TO : MetAt X.K X.mg) (hJT : ∀ H, c.J H ↔ Tabs T H) (hw : WOk c.W P) (hcl : ∀ k, c.cl k = .ref (ca k))
    (TB : TabB X.base X.mg cc P) (hcode : X.env.code = .ref cc) (hmT : (P, X.env.qual ++ "<lambda>") ∈ T) (hu : ∀ p ∈ T, p.1 = P → p.2 = X.env.qual ++ "<lambda>") (hr : Room (k + 2) X.A) (hg : Gl X "_law_met") (L : LamS X.env.scope scope) (hdef : defaultsOf params X.env = ([], []))
    (hbind : ∀ (q : Str) (cl : List (Str × Addr)) (pm cv ctv : Value), bindArgs (PySem.W.kla_fn "<lambda>" q params body scope cl pm cv ctv) ⟨[], []⟩ = pure [])
    (hbody : ∀ (A : Around) (outer : List PySem.Env) (s : Shared) (H : Hp) (E : XK) (f c' : Addr) (W : Ent), Free W [] → Room k (A.deeper (lamEnv X scope s.heap.objs.size f c')) → Passes (L2N.CX X.prog X.w) (lamN X A outer s H E scope f c') E → PE (lamN X A outer s H E scope f c') body (TEv X.K { c with W := W, E := E } a))
    (hpg : PG X (.Name y py) (gName i)) (hz : ZOk c [i] := by exact ⟨_, by assumption, by decide⟩) (hs : swapsWithSole [.Name y py] (.List [.Call (.Name "_law_met" p) [.Lambda params body scope lpos] [] cpos] lp) pos.line X.env = pure false := by rfl) (hsw : swappedStores [.Name y py] (.List [.Call (.Name "_law_met" p) [.Lambda params body scope lpos] [] cpos] lp) X.env = pure none := by rfl)
    (h1 : (assignEach [.Name y py] X.env).map (·.2) = [assign (.Name y py) X.env] := by rfl) (hst : starEach [.Call (.Name "_law_met" p) [.Lambda params body scope lpos] [] cpos] X.env = (false, eval (.Call (.Name "_law_met" p) [.Lambda params body scope lpos] [] cpos) X.env) :: starEach [] X.env := by rfl) :
    PS X (.Assign [.Name y py] (.List [.Call (.Name "_law_met" p) [.Lambda params body scope lpos] [] cpos] lp) pos) (TSv X.K c (.metN i a)) := by
  have pm := pe_met (X := X) (p := p) (lpos := lpos) (pos := cpos) Z TO hg TB hcode hmT hu hr L hdef hbind (t := tLamE X.K c a) fun A outer s H E f c' hr' => by
    refine pe_lamE (X := lamN X A outer s H E scope f c') fun W hp => hbody A outer s H E f c' W hp hr' ?_
    exact L2N.passes_call (W := fun cls d _ H => E cls d H) (L2N.takes_of rfl rfl rfl rfl) (fun _ _ _ _ h => h)
  refine PS.mono (ps_asg (pe_lst (pa_cons pm pa_nil hst)) hpg hs hsw h1) fun D σ H ⟨F, r, x, h⟩ => ?_
  simp only [denS] at h
  cases ed : den c.call a (hidE r) with
  | ok p => rw [ed] at h; exact h.elim
  | stuck => rw [ed] at h; exact h.elim
  | exc j =>
    rw [ed] at h
    simp only at h
    by_cases hk : j < 13
    · rw [if_pos hk] at h
      refine met_go (q0 := X.env.qual ++ "<lambda>") hJT hmT hw hcl x hk ed fun b H2 F2 x2 s2 f2 e2 => ⟨Nat.le_trans (by decide : 1 ≤ 1000) sizeLine_1000, fun q nq => ?_⟩
      have x3 := (Grow.lay (o := .lst [.ref b]) x2.rel.same nq).stt x2 (x2.jup nq)
      have nb : b ≠ q := fun z => by rw [z, nq] at e2; cases e2
      refine h _ _ F2 (x3.put (s := .exs [j]) (v := .ref q) hz ⟨q, [.ref b], rfl, x2.rel.same.free nq, upd_same, .cons ⟨hk, b, rfl, ?_⟩ .nil⟩ fun b' _ ev => ?_) s2
      · rw [upd_ne nb, ← hca]; exact e2
      · cases ev
        exact ⟨not_own x2.rel nq, x2.fresh nq⟩
    · rw [if_neg hk] at h; exact h.elim
/-- x.append(_law_met(lambda: ..)) -/
theorem ss_metA {y : Str} {py apos ppos : Pos} (hy : PE X (.Name y py) (tVar i)) (hca : ca = exCa X.K) (Z : ExcTop X.K X.mg ca M) (TO : MetAt X.K X.mg) (hJT : ∀ H, c.J H ↔ Tabs T H) (hw : WOk c.W P) (hcl : ∀ k, c.cl k = .ref (ca k))
    (TB : TabB X.base X.mg cc P) (hcode : X.env.code = .ref cc) (hmT : (P, X.env.qual ++ "<lambda>") ∈ T) (hu : ∀ p ∈ T, p.1 = P → p.2 = X.env.qual ++ "<lambda>") (hr : Room (k + 2) X.A) (hg : Gl X "_law_met") (L : LamS X.env.scope scope) (hdef : defaultsOf params X.env = ([], []))
    (hbind : ∀ (q : Str) (cl : List (Str × Addr)) (pm cv ctv : Value), bindArgs (PySem.W.kla_fn "<lambda>" q params body scope cl pm cv ctv) ⟨[], []⟩ = pure [])
    (hbody : ∀ (A : Around) (outer : List PySem.Env) (s : Shared) (H : Hp) (E : XK) (f c' : Addr) (W : Ent), Free W [] → Room k (A.deeper (lamEnv X scope s.heap.objs.size f c')) → Passes (L2N.CX X.prog X.w) (lamN X A outer s H E scope f c') E → PE (lamN X A outer s H E scope f c') body (TEv X.K { c with W := W, E := E } a))
    (hbase : attributeBase (.Name y py) "append" X.env (eval (.Name y py) X.env) = eval (.Name y py) X.env := by rfl)
    (hfew2 : ((backTo ppos (starEach [.Call (.Name "_law_met" p) [.Lambda params body scope lpos] [] cpos] X.env)).all (fun x => !x.1) && (backToKw ppos (keywordEach [] X.env)).all (fun x => x.1.isSome)
      && decide (([.Call (.Name "_law_met" p) [.Lambda params body scope lpos] [] cpos] : List Expr).length + ([] : List Keyword).length + (if ([] : List Keyword).isEmpty then 0 else 1) < 30)) = true := by rfl)
    (hline : (apos.endLine == ppos.line) = true := by rfl) (hst : starEach [.Call (.Name "_law_met" p) [.Lambda params body scope lpos] [] cpos] X.env = (false, eval (.Call (.Name "_law_met" p) [.Lambda params body scope lpos] [] cpos) X.env) :: starEach [] X.env := by rfl) :
    PS X (.Expr (.Call (.Attribute (.Name y py) "append" apos) [.Call (.Name "_law_met" p) [.Lambda params body scope lpos] [] cpos] [] ppos) pos) (TSv X.K c (.metA i a)) := by
  have pm := pe_met (X := X) (p := p) (lpos := lpos) (pos := cpos) Z TO hg TB hcode hmT hu hr L hdef hbind (t := tLamE X.K c a) fun A outer s H E f c' hr' => by
    refine pe_lamE (X := lamN X A outer s H E scope f c') fun W hp => hbody A outer s H E f c' W hp hr' ?_
    exact L2N.passes_call (W := fun cls d _ H => E cls d H) (L2N.takes_of rfl rfl rfl rfl) (fun _ _ _ _ h => h)
  refine PS.mono (ps_expr (pe_bm PySem.F.plainAttrs_list PySem.F.slot_list_append PySem.F.type_list_append mt_append hy (pa_cons pm pa_nil hst) hbase hfew2 hline hst rfl) rfl) fun D σ H ⟨F, r, x, h⟩ => ?_
  simp only [denS] at h
  have q0 := x.rel.ok i
  cases eg : getS r i with
  | exs l =>
    rw [eg] at h q0
    obtain ⟨a0, vs0, qv, _, qh, _⟩ := q0
    cases ed : den c.call a (hidE r) with
    | ok p => rw [ed] at h; exact h.elim
    | stuck => rw [ed] at h; exact h.elim
    | exc j =>
      rw [ed] at h
      simp only at h
      by_cases hk : j < 13 ∧ l.length < 1000
      · rw [if_pos hk] at h
        refine ⟨.ref a0, vAt_some qv, .inl ⟨rfl, vs0, SqL.of qh⟩, met_go (q0 := X.env.qual ++ "<lambda>") hJT hmT hw hcl x hk.1 ed fun b H2 F2 x2 s2 f2 e2 => ?_⟩
        have q2 := x2.rel.ok i
        rw [eg] at q2
        obtain ⟨a1, ws, z1, z2, z3, z4⟩ := q2
        rw [qv] at z1
        cases z1
        have hlw : ws.length = l.length := paired_len z4
        refine ⟨a0, ws, .ref b, rfl, rfl, z3, ?_, ?_⟩
        · rw [hlw]; exact Nat.lt_of_lt_of_le hk.2 sizeLine_1000
        · have nba : b ≠ a0 := fun z => by rw [z, z3] at e2; cases e2
          refine h σ _ F2 (x2.write (i := i) ⟨by rw [eg]; rfl, qv⟩ trivial ⟨a0, ws ++ [.ref b], rfl, z2, upd_same, ?_⟩ rfl) s2
          refine paired_app (exc_all (fun b' φ hb' => ?_) z4) (.cons ⟨hk.1, b, rfl, by rw [upd_ne nba, ← hca]; exact e2⟩ .nil)
          rw [upd_ne (fun z => by rw [z, z3] at hb'; cases hb')]; exact hb'
      · rw [if_neg hk] at h; exact h.elim
  | un => rw [eg] at h; exact h.elim
  | sh d => rw [eg] at h; exact h.elim
  | own d => rw [eg] at h; exact h.elim
  | dicT d => rw [eg] at h; exact h.elim
  | dicK d => rw [eg] at h; exact h.elim
  | ins d => rw [eg] at h; exact h.elim
  | lck d => rw [eg] at h; exact h.elim
end
end Bm
end
section
set_option Elab.async false
set_option linter.all false
set_option maxRecDepth 100000
set_option maxHeartbeats 400000
namespace Bm
open PySem PySem.Spec PyProof.Rows L2 HotX L2H LamX
/-- isinstance of a tracked exception -/
def rIsT (K : PySem.W.Frag) (ca : Nat → Addr) (k : Nat) (a : Addr) : List V → Hp → VK → Prop := fun xs H Q => ∃ (c : V) (cv : Value) (b : Bool), xs = [.ref a, c] ∧ (∀ u, RelV c u → u = cv) ∧ PySem.W.kitOne K (.ref (ca k)) cv = some b ∧ H a = some (.ext (exT ca k a)) ∧ Q (.bl b) H
theorem cr_isT {X : Cx} {ca : Nat → Addr} {k : Nat} {a : Addr} (hC : ExcC X.K (ca k)) : CallR X (.builtin "isinstance") (rIsT X.K ca k a) := by
  intro pins s σ H xs us Q I r h
  obtain ⟨c, cv, b, rfl, hcv, e, ha, q⟩ := h
  match us, r with
  | [u1, u2], .cons rx (.cons rt .nil) =>
    obtain rfl : u1 = .ref a := rx
    obtain rfl := hcv _ rt
    obtain ⟨⟨oe, hget, h1, h2, vs, hv⟩, _, _⟩ := (show ObjOk X.prog X.w H s.heap a (.ext (exT ca k a)) from I.hok a _ ha)
    have J : PySem.W.InstAt s.heap a oe (ca k) none := by
      obtain ⟨oc, od, oda, osl⟩ := oe
      dsimp only at h1 h2 hv
      subst h1 h2 hv
      exact ⟨hget, rfl, rfl, trivial⟩
    exact PySem.W.kia_one (PySem.W.handS_kitx_exc hC.hg hC.hk hC.hs hC.hd hC.ha hC.hn hC.ht hC.hm) I.kIn J e (fun z => nomatch z) fun tk => ⟨.bl b, H, I.kept (t' := tk) fun _ _ z => z, rfl, q⟩
section
variable {X : Cx} {c : Cfg} {ca : Nat → Addr} {k : Nat} {a : Addr} {M : Addr}
/-- what is known of the exception in the first place -/
structure ExIn (X : Cx) (c : Cfg) (ca : Nat → Addr) (k : Nat) (a : Addr) : Prop where
  hk : k < 13
  pin : ∀ o, c.W.P0 0 o → o = some (.ref a)
  tie : ∀ H, c.J H → H a = some (.ext (exT ca k a))
theorem sv_isx {te : TA} {e1 e2 : Expr} {p pos : Pos} {cv : V} {u : Value} {b : Bool} (Z : ExcTop X.K X.mg ca M) (A : ExIn X c ca k a) (hg : Gl X "isinstance") (h0 : PE X e1 (tVar 0)) (h1 : PE X e2 (tC cv)) (hu : ∀ w, RelV cv w → w = u) (hb : PySem.W.kitOne X.K (.ref (ca k)) u = some b)
    (he : starEach [e1, e2] X.env = (false, eval e1 X.env) :: starEach [e2] X.env := by rfl) (he2 : starEach [e2] X.env = (false, eval e2 X.env) :: starEach [] X.env := by rfl) (hpl : (backTo pos (starEach [e2] X.env)).any (·.1) = false := by rfl) :
    PE X (.Call (.Name "isinstance" p) [e1, e2] [] pos) (TEv X.K c (.lit (.bool b))) := by
  refine PE.mono (pe_callB (cr_isT (a := a) (Z.ec k A.hk)) hg Z.b1 PyProof.Rows.boot_isinstance (pa_cons h0 (pa_cons h1 pa_nil he2) he) (by decide) (by decide) he hpl) fun σ H Q ⟨F, r, x, h⟩ => ?_
  have hv : vAt σ 0 = some (.ref a) := A.pin _ (x.pin 0)
  exact ⟨.ref a, vAt_some hv, cv, u, b, rfl, hu, hb, A.tie _ x.tie, h (.bl b) F H x Ef.refl (fun _ z => z) (Dp.bl b)⟩
theorem sv_is {e1 e2 : Expr} {p pos : Pos} (j : Nat) (hj : j < 13) (Z : ExcTop X.K X.mg ca M) (A : ExIn X c ca k a) (hg : Gl X "isinstance") (h0 : PE X e1 (tVar 0)) (h1 : PE X e2 (tC (.ref (ca j))))
    (he : starEach [e1, e2] X.env = (false, eval e1 X.env) :: starEach [e2] X.env := by rfl) (he2 : starEach [e2] X.env = (false, eval e2 X.env) :: starEach [] X.env := by rfl) (hpl : (backTo pos (starEach [e2] X.env)).any (·.1) = false := by rfl) :
    PE X (.Call (.Name "isinstance" p) [e1, e2] [] pos) (TEv X.K c (.lit (.bool (decide (j = k))))) := sv_isx (te := tNil) Z A hg h0 h1 ref_only (Z.kit j k hj A.hk) he he2 hpl
end
/-- what the def computes -/
def aloneL : List Nat → Nat → E
  | [], _ => .nil
  | j :: r, k => .cons (.lit (.bool (decide (j = k)))) (aloneL r k)
def aloneS (k : Nat) : S :=
  .seq (.asg (.name 2) (.op .mkl (aloneL [0, 1, 2] k))) (.seq (.asg (.name 2) (.op .add (.cons (.var 2) (.cons (.op .mkl (aloneL [3, 4, 5] k)) .nil)))) (.seq (.asg (.name 2) (.op .add (.cons (.var 2) (.cons (.op .mkl (aloneL [6, 7, 8] k)) .nil))))
  (.seq (.asg (.name 2) (.op .add (.cons (.var 2) (.cons (.op .mkl (aloneL [9, 10, 11] k)) .nil)))) (.seq (.asg (.name 2) (.op .add (.cons (.var 2) (.cons (.op .mkl (aloneL [12] k)) .nil))))
  (.ret (.and (.lit (.bool true)) (.op .eq (.cons (.var 2) (.cons (.lc [3] (.name 3) (.it .range1 (.cons (.lit (.int 13)) .nil)) (.lit (.bool true)) (.op .eq (.cons (.var 3) (.cons (.var 1) .nil)))) .nil)))))))))
def noCall : CallS := fun _ _ _ => .stuck
def retB (b : Bool) : RS → Bool
  | .ret (.bool c) _ => c == b
  | _ => false
theorem alone_val : ∀ k, k < 13 → ∀ j, j < 13 → retB (decide (k = j)) (denS noCall (aloneS k) [.un, .sh (.int (j : Nat)), .un, .un]) = true := by decide +kernel
theorem retB_ok {b : Bool} {x : RS} (h : retB b x = true) : ∃ r, x = .ret (.bool b) r := by
  cases x with
  | ret d r =>
    cases d with
    | bool c => simp only [retB, beq_iff_eq] at h; exact ⟨r, by rw [h]⟩
    | _ => cases h
  | nxt r => cases h
  | exc c => cases h
  | stuck => cases h
/-- its promise -/
def spAl (J : Hp → Prop) (ca : Nat → Addr) : Sp := fun vs H Q _ => ∃ (F : Hp) (a : Addr) (k j : Nat), vs = [.ref a, .int (j : Nat)] ∧ Same F H ∧ J H ∧ k < 13 ∧ j < 13 ∧ H a = some (.ext (exT ca k a)) ∧ ∀ F' H', Grow F H F' H' → J H' → Q (.bl (decide (k = j))) H'
structure AloneAt (P : Program) (w : World) (K : PySem.W.Frag) (mg : Str → Option Value) (base : Heap) (J : Hp → Prop) (ca : Nat → Addr) : Prop where
  ex : ∃ (f : Addr) (fd : FuncData), mg "_law_alone" = some (.ref f) ∧ PySem.W.keepIn K (.ref f) = true ∧ L2.Binds K fd ["e", "own"] [] ∧ FnOk P w K mg base (L2N.CX P w) 1 f fd ["e", "own"] (spAl J ca)
def alC (J : Hp → Prop) (hJ : ∀ H H' : Hp, (∀ b o, H b = some o → H' b = some o ∨ isMut o) → J H → J H') (ca : Nat → Addr) (k : Nat) (a : Addr) (H F0 : Hp) : Cfg :=
  { J := fun H => J H ∧ H a = some (.ext (exT ca k a)), hJ := fun H H' h e => ⟨hJ H H' h e.1, (h a _ e.2).elim id fun m => m.elim⟩, W := entC H F0 (fun _ => False) (fun i o => i = 0 → o = some (.ref a)), call := noCall, E := fun _ _ _ => False, cl := fun _ => .none }
theorem tsv_of {K : PySem.W.Frag} {c : Cfg} {s : S} {D : Ends} {σ : L2.St} {H F : Hp} {r : Env} {x : RS} (x0 : Stt K c r σ H F) (e : denS c.call s r = x) (h : OkS K c F x D) : TSv K c s D σ H := by
  subst e
  exact ⟨F, r, x0, h⟩
theorem al_own {j : Nat} : ∀ i, isOwn (getS [.un, .sh (.int (j : Nat)), .un, .un] i) = false
  | 0 => rfl
  | 1 => rfl
  | 2 => rfl
  | 3 => rfl
  | i + 4 => by
    have : getS [.un, .sh (.int (j : Nat)), .un, .un] (i + 4) = .un := by simp [getS]
    rw [this]; rfl
theorem al_stt {K : PySem.W.Frag} {J : Hp → Prop} {hJ : ∀ H H' : Hp, (∀ b o, H b = some o → H' b = some o ∨ isMut o) → J H → J H'} {ca : Nat → Addr} {k j : Nat} {a : Addr} {H F0 : Hp} (sm : Same F0 H) (j0 : J H) (ha : H a = some (.ext (exT ca k a))) :
    Stt K (alC J hJ ca k a H F0) [.un, .sh (.int (j : Nat)), .un, .un] [some (.ref a), some (.int (j : Nat)), none, none] H F0 := by
  refine ⟨⟨rfl, sm, fun i => ?_, fun i l b z _ => ?_⟩, ⟨j0, ha⟩, fun b o h _ => ⟨rfl, .inl h⟩, fun b ⟨i, z, _⟩ => ?_, fun i hi => ?_⟩
  · match i with
    | 0 => trivial
    | 1 => exact ⟨.int j, rfl, Dp.int _⟩
    | 2 => trivial
    | 3 => trivial
    | i + 4 =>
      have : getS [.un, .sh (.int (j : Nat)), .un, .un] (i + 4) = .un := by simp [getS]
      rw [this]; trivial
  · have := z.1; rw [al_own] at this; cases this
  · rw [al_own] at z; cases z
  · subst hi; rfl
theorem al_end {K : PySem.W.Frag} {J : Hp → Prop} {hJ : ∀ H H' : Hp, (∀ b o, H b = some o → H' b = some o ∨ isMut o) → J H → J H'} {ca : Nat → Addr} {k j : Nat} {a : Addr} {H F0 : Hp} {Q : VK} (hk : k < 13) (hj : j < 13) (sm : Same F0 H) (j0 : J H) (ha : H a = some (.ext (exT ca k a)))
    (hq : ∀ F' H', Grow F0 H F' H' → J H' → Q (.bl (decide (k = j))) H') : TSv K (alC J hJ ca k a H F0) (aloneS k) { nx := fun _ H' => Q .non H', rt := Q } [some (.ref a), some (.int (j : Nat)), none, none] H := by
  have ⟨r, er⟩ := retB_ok (alone_val k hk j hj)
  have fin : OkS K (alC J hJ ca k a H F0) F0 (.ret (.bool (decide (k = j))) r) { nx := fun _ H' => Q .non H', rt := Q } := by
    intro v σ' H' F' x' _ q'
    have q2 : Dp K F' v (.bool (decide (k = j))) := q'
    cases q2
    exact hq F' H' (kp_grow x'.rel.same x'.kp) x'.tie.1
  exact tsv_of (al_stt sm j0 ha) er fin
theorem alone_ok {P : Program} {w : World} {K : PySem.W.Frag} {mg : Str → Option Value} {base : Heap} {J : Hp → Prop} (hJ : ∀ H H' : Hp, (∀ b o, H b = some o → H' b = some o ∨ isMut o) → J H → J H') {ca : Nat → Addr} {st : Stmt} {fa : Addr} {fdat : FuncData} (F : Fun K "_law_alone" "_law_alone" st fa fdat) (S : FnScope ["e", "own", "some", "at"] ["e", "own"] (defScope st))
    (hb : L2.Binds K fdat ["e", "own"] []) (hm : mg "_law_alone" = some (.ref fa))
    (der : ∀ (c : Cfg) (a : Addr) (k : Nat) (E : XK) (cdv : Value) (A : Around) (outer : List PySem.Env) (s : Shared) (H : Hp), c.call = noCall → Free c.W [0] → ExIn (cxOf (L2N.CX P w) P w K mg base ["e", "own", "some", "at"] "_law_alone" (defScope st) fa cdv A outer s H E) c ca k a → Room 0 (A.deeper (PyProof.Rows.envOfC "_law_alone" (defScope st) s.heap.objs.size fa cdv)) →
      PSs (cxOf (L2N.CX P w) P w K mg base ["e", "own", "some", "at"] "_law_alone" (defScope st) fa cdv A outer s H E) (defBody st) (TSv K c (aloneS k))) : AloneAt P w K mg base J ca := by
  refine ⟨fa, fdat, hm, F.kp, hb, okN F S (fun vs H Q E ⟨_, a, k, j, e, _⟩ => by rw [e]; rfl) fun cdv A outer s H vs Q E _ hr h => ?_⟩
  obtain ⟨F0, a, k, j, ev, sm, j0, hk, hj, ha, hq⟩ := h
  subst ev
  exact ⟨_, der (alC J hJ ca k a H F0) a k E cdv A outer s H rfl (fun i hi o z => absurd (by rw [z]; exact List.mem_cons_self) hi) ⟨hk, fun o h => h rfl, fun _ h => h.2⟩ hr, al_end hk hj sm j0 ha hq⟩
def bsF (l : List Nat) (n : Nat) : List Bool := (List.range n).map fun t => decide (l[t]? = some t)
theorem bsF_succ (l : List Nat) (n : Nat) : bsF l (n + 1) = bsF l n ++ [decide (l[n]? = some n)] := by
  unfold bsF
  rw [List.range_succ, List.map_append]
  rfl
theorem bsF_all (l : List Nat) : (bsF l l.length).all id = decide (l = List.range l.length) := by
  rw [Bool.eq_iff_iff, decide_eq_true_iff]
  unfold bsF
  rw [List.all_map, List.all_eq_true]
  constructor
  · intro h
    refine List.ext_getElem? fun t => ?_
    by_cases ht : t < l.length
    · have := h t (List.mem_range.mpr ht)
      simp only [Function.comp, id, decide_eq_true_eq] at this
      rw [this, List.getElem?_range ht]
    · rw [List.getElem?_eq_none (by omega), List.getElem?_eq_none (by rw [List.length_range]; omega)]
  · intro h t ht
    simp only [Function.comp, id, decide_eq_true_eq]
    rw [h, List.getElem?_range (by simpa using ht)]
theorem paired_get {α β : Type} {P : α → β → Prop} : ∀ {l : List α} {m : List β} {i : Nat} {y : β}, Paired P l m → m[i]? = some y → ∃ x, l[i]? = some x ∧ P x y
  | _, _, _, _, .nil, e => by simp at e
  | _, _, 0, _, .cons h _, e => by simp at e; subst e; exact ⟨_, rfl, h⟩
  | _, _, i + 1, y, .cons _ t, e => by
    obtain ⟨x, h1, h2⟩ := paired_get (i := i) (y := y) t (by simpa using e)
    exact ⟨x, by simpa using h1, h2⟩
theorem gNames2 {ja je : Nat} {x y : V} {σ : L2.St} {H : Hp} {Q : L2.St → Hp → Prop} (h : Q ((σ.set ja (some x)).set je (some y)) H) : gNames [ja, je] [x, y] σ H Q := ⟨x, [y], rfl, y, [], rfl, rfl, h⟩
theorem sv_metAll {X : Cx} {c : Cfg} {ca : Nat → Addr} {i ja je kk : Nat} {y sa se : Str} {py p pe pos lp tp cp : Pos} {elt : Expr} {elts : List Expr} {scope : Scope} (hca : ca = exCa X.K) (hc : X.calm = true) (hN : X.N.Nodup) (hg : Gl X "all") (hm : X.mg "all" = none) (hg2 : Gl X "enumerate") (hm2 : X.mg "enumerate" = none)
    (hy : PE X (.Name y py) (tVar i)) (hja : X.N[ja]? = some sa) (hje : X.N[je]? = some se) (hne : ja ≠ je) (ok : BlkOk X.N X.env.scope scope [(sa, ja), (se, je)])
    (htg : ∀ (s : Shared) (H : Hp) (C : Addr) (cl : List (Str × Addr)) (fp : List Addr), PG (X.blk s H scope (compEnvC scope cl C X.env) fp) (.Tuple elts kk tp) (gTup X.K 2 (gNames [ja, je])))
    (he : ∀ (s : Shared) (H : Hp) (C : Addr) (cl : List (Str × Addr)) (fp : List Addr), PE (X.blk s H scope (compEnvC scope cl C X.env) fp) elt (tCall (spAl c.J ca) [] (fun _ _ _ => False) (tCons (tVar je) (tCons (tVar ja) tNil))))
    (hs0 : starEach [.Name y py] X.env = [(false, eval (.Name y py) X.env)] := by rfl) (hs : ∀ x, foldedSetIterable (.Call (.Name "enumerate" pe) [.Name y py] [] lp) X.env x = pure x := by intro _; rfl)
    (hst : starEach [.ListComp elt [⟨.Tuple elts kk tp, .Call (.Name "enumerate" pe) [.Name y py] [] lp, [], 0⟩] scope pos] X.env = (false, eval (.ListComp elt [⟨.Tuple elts kk tp, .Call (.Name "enumerate" pe) [.Name y py] [] lp, [], 0⟩] scope pos) X.env) :: starEach [] X.env := by rfl) :
    PE X (.Call (.Name "all" p) [.ListComp elt [⟨.Tuple elts kk tp, .Call (.Name "enumerate" pe) [.Name y py] [] lp, [], 0⟩] scope pos] [] cp) (TEv X.K c (.metAll i)) := by
  refine ⟨fun pins s σ H Q I ⟨F, r, x, h⟩ => ?_⟩
  refine (pe_callB (cr_all hc) hg hm boot_all' (pa_cons (pe_lc hc hN (pi_enumA hg2 hm2 (pa_cons hy pa_nil hs0) hs0) ok htg (fun _ _ _ _ _ => pts_nil) he hs) pa_nil hst) (by decide) (by decide) hst rfl).run pins s σ H Q I ?_
  simp only [den] at h
  have q0 := x.rel.ok i
  have lj : ja < σ.length ∧ je < σ.length := by
    rw [I.len]
    exact ⟨(List.getElem?_eq_some_iff.mp hja).1, (List.getElem?_eq_some_iff.mp hje).1⟩
  cases eg : getS r i with
  | exs l =>
    rw [eg] at h q0
    simp only at h
    obtain ⟨a0, vs, qv, fa, qh, qe⟩ := q0
    by_cases h13 : l.length ≤ 13
    · rw [if_pos h13] at h
      have hlv : vs.length = l.length := paired_len qe
      refine ⟨.ref a0, vAt_some qv, .inl ⟨a0, vs, rfl, SqL.of qh, fun D nD => ?_⟩⟩
      refine ⟨fun t m H2 => t ≤ l.length ∧ m = l.length - t ∧ ∃ F2, Grow F H F2 H2 ∧ c.J H2 ∧ F2 D = none ∧ H2 D = some (.lst ((bsF l t).map .bl)), ⟨_, Nat.zero_le _, rfl, F, Grow.lay x.rel.same nD, x.jup nD, x.rel.same.free nD, upd_same⟩, fun t m H2 ⟨w1, w2, F2, g2, j2, fD, hD⟩ => ?_⟩
      have h2a : H2 a0 = some (.lst vs) := (g2.kp a0 _ qh).2.mut trivial
      by_cases ht : t < l.length
      · obtain ⟨k, ek⟩ : ∃ k, l[t]? = some k := ⟨_, List.getElem?_eq_getElem ht⟩
        obtain ⟨v, ev, hk, b, eb, hb⟩ := paired_get qe ek
        subst eb
        refine .inr ⟨⟨vs, _, SqL.of h2a, ev⟩, fun H3 => (t + 1) ≤ l.length ∧ ∃ F2, Grow F H F2 H3 ∧ c.J H3 ∧ F2 D = none ∧ H3 D = some (.lst ((bsF l (t + 1)).map .bl)), fun H3 z => ⟨l.length - (t + 1), by omega, z.1, rfl, z.2⟩, fun v3 H3 y3 => ?_⟩
        obtain ⟨T, x3, e1, nT, e3, e4⟩ := y3
        have ex3 := e4 vs (SqL.of h2a)
        rw [ev] at ex3
        cases ex3
        subst e1 e3
        have g3 : Grow F2 H2 F2 (upd H2 T (.tup [.int (t : Nat), .ref b])) := Grow.lay g2.same nT
        have j3 : c.J (upd H2 T (.tup [.int (t : Nat), .ref b])) := c.hJ H2 _ (fun b' o hb' => .inl (by rw [upd_ne (ne_of_none hb' nT)]; exact hb')) j2
        have h3b : upd H2 T (.tup [.int (t : Nat), .ref b]) b = some (.ext (exT ca k b)) := by
          have z : H2 b = some (.ext (exT (exCa X.K) k b)) := (g2.kp b _ hb).2.ext
          rw [upd_ne (ne_of_none z nT), hca]; exact z
        refine ⟨T, [.int (t : Nat), .ref b], rfl, .inl (.inl upd_same), rfl, gNames2 ⟨?_, ?_⟩⟩
        · refine List.ext_getElem? fun q => ?_
          simp only [wipe, List.map_cons, List.map_nil, List.getElem?_set, List.length_set]
          by_cases h1 : ja = q
          · simp [h1]
          · by_cases h2 : je = q
            · simp [h1, h2]
            · simp [h1, h2]
        · unfold tYes
          refine iteT ⟨.ref b, ?_, .int (t : Nat), ?_, F2, b, k, t, rfl, g3.same, j3, hk, by omega, h3b, fun F4 H4 g4 j4 => ?_⟩
          · simp only [wipe, List.map_cons, List.map_nil, List.getElem?_set, List.length_set]
            simp [lj.2]
          · simp only [wipe, List.map_cons, List.map_nil, List.getElem?_set, List.length_set]
            simp [lj.1, hne.symm, hne]
          · have z4 := g4.kp D _ ((g3.kp D _ hD).2.mut trivial)
            have f4 : F4 D = none := z4.1.trans fD
            have h4 : H4 D = some (.lst ((bsF l t).map .bl)) := z4.2.mut trivial
            refine ⟨_, h4, ?_, ht, F4, ⟨fun b' o hb' => ?_, fun b' o hb' => ?_⟩, c.hJ H4 _ (fun b' o hb' => ?_) j4, f4, ?_⟩
            · rw [List.length_map]
              unfold bsF
              rw [List.length_map, List.length_range]
              exact Nat.lt_of_lt_of_le (by omega : t < 1000) sizeLine_1000
            · have nb : b' ≠ D := fun z => by rw [z, f4] at hb'; cases hb'
              rw [upd_ne nb]; exact g4.same b' o hb'
            · have nb : b' ≠ D := fun z => by rw [z, nD] at hb'; cases hb'
              have y2 := g2.kp b' o hb'
              obtain ⟨o2, ho2⟩ := y2.2.ex
              have y3 := g3.kp b' o2 ho2
              obtain ⟨o3, ho3⟩ := y3.2.ex
              have y4 := g4.kp b' o3 ho3
              refine ⟨(y4.1.trans y3.1).trans y2.1, ?_⟩
              rw [upd_ne nb]
              exact y2.2.trans fun o' e' => (g3.kp b' o' e').2.trans fun o'' e'' => (g4.kp b' o'' e'').2
            · by_cases nb : b' = D
              · rw [nb, h4] at hb'; cases hb'; exact .inr trivial
              · rw [upd_ne nb]; exact .inl hb'
            · rw [upd_same, bsF_succ, List.map_append, ek]
              simp
      · refine .inl ⟨⟨vs, SqL.of h2a, by omega⟩, D, bsF l t, rfl, SqL.of hD, ?_⟩
        have et : t = l.length := by omega
        subst et
        rw [bsF_all]
        exact h (.bl _) F2 H2 (g2.stt x j2) g2.ef (fun _ z => z) (Dp.bl _)
    · rw [if_neg h13] at h; exact h.elim
  | un => rw [eg] at h; exact h.elim
  | sh d => rw [eg] at h; exact h.elim
  | own d => rw [eg] at h; exact h.elim
  | dicT d => rw [eg] at h; exact h.elim
  | dicK d => rw [eg] at h; exact h.elim
  | ins d => rw [eg] at h; exact h.elim
  | lck d => rw [eg] at h; exact h.elim
end Bm
end
section
set_option Elab.async false
set_option linter.all false
set_option maxRecDepth 100000
set_option maxHeartbeats 1000000
namespace Bm
open PySem PySem.Spec L2
section
variable {P : Program} {w : World} {K : PySem.W.Frag} {mg : Str → Option Value} {base : Heap} {J : Hp → Prop} {cl : Nat → Value} {T : Nat → Option FDef}
theorem def_init0 {f : Nat} {x qual : Str} {st : Stmt} {fa : Addr} {fdat : FuncData} {N ps : List Str} (F : Fun K x qual st fa fdat) (S : FnScope N ps (defScope st)) (hb : L2.Binds K fdat ps []) (hmk : Mk K (dkC K) fa) :
    MkAt P w K mg base 1 (spI K J cl fun l => run T 0 f (some []) l) :=
  ⟨fa, fdat, ps, hmk, hb, okN F S (fun vs H Q E h => by obtain ⟨F, p, us, ds, _, _, _, _, _, _, _, h⟩ := h; exact h.elim) fun cdv A outer s H vs Q E _ hr h => by obtain ⟨F, p, us, ds, _, _, _, _, _, _, _, h⟩ := h; exact h.elim⟩
theorem def_lck0 {f : Nat} {x qual : Str} {st : Stmt} {fa : Addr} {fdat : FuncData} {N ps : List Str} (F : Fun K x qual st fa fdat) (S : FnScope N ps (defScope st)) (hb : L2.Binds K fdat ps []) (hme : Meth K (dkC K) x fa) :
    MtAt P w K mg base 1 x (spM K J cl fun m => run T 0 f (some m)) :=
  ⟨fa, fdat, ps, hme, hb, okN F S (fun vs H Q E h => by obtain ⟨F, p, us, m, ds, _, _, _, _, _, _, _, h⟩ := h; exact h.elim) fun cdv A outer s H vs Q E _ hr h => by obtain ⟨F, p, us, m, ds, _, _, _, _, _, _, _, h⟩ := h; exact h.elim⟩
theorem ss_stuckL {X : Cx} {c : Cfg} {sts : List Stmt} {e : E} {b : S} : PSs X sts (TSv X.K c (.while_ 0 e b)) := ⟨fun pins s σ H D I ⟨F, r, x, h⟩ => by simp only [denS, whileLoop] at h; exact h.elim⟩
theorem caK_ex {K : PySem.W.Frag} : caK K = exCa K := funext fun k => match k with
  | 0 => rfl
  | 1 => rfl
  | 2 => rfl
  | 3 => rfl
  | 4 => rfl
  | 5 => rfl
  | 6 => rfl
  | 7 => rfl
  | 8 => rfl
  | 9 => rfl
  | 10 => rfl
  | 11 => rfl
  | 12 => rfl
  | k + 13 => rfl
/-- a def of a class -/
def cdef (s : Stmt) (j : Nat) : Stmt := match s with
  | .ClassDef _ _ _ body _ _ _ _ _ _ _ => body.getD j (.Pass ⟨0, 0, 0, 0⟩)
  | _ => .Pass ⟨0, 0, 0, 0⟩
end
end Bm
end
section
set_option Elab.async false
set_option linter.all false
set_option maxRecDepth 100000
set_option maxHeartbeats 1000000
namespace Bm
open PySem PySem.Spec L2 PyProof.Rows
section
variable {P : Program} {w : World} {A : Around} {E : Value → Shared → Prop} {s : Shared}
/-- how the set at S is filled with what is walked -/
structure FillsP (P : Program) (w : World) (S : Addr) (Pv : Nat → Value → Prop) (J : Nat → Heap → Prop) : Prop where
  keep : ∀ i h h', (∀ o, h.get? S = some o → h'.get? S = some o) → J i h → J i h'
  add : ∀ (i : Nat) (v : Value) (A : Around) (E : Value → Shared → Prop) (s : Shared) (Q : Bool → Shared → Prop), Pv i v → J i s.heap → (∀ b h' tk, Heap.SameBut S s.heap h' → s.toks ≤ tk → J (i + 1) h' → Q b { s with heap := h', toks := tk }) → wpAny (model P w) A (setAdd S v) Q E s
theorem set_updateP {I : Addr} {fp wr : List Addr} {G : Array GenState → Array GenState → Prop} {n : Nat} {Pv : Nat → Value → Prop} {St : Nat → Shared → Prop} {R : Result → Shared → Prop} {J : Nat → Heap → Prop}
    (W : WalksS P w A.in1 I fp wr G n Pv St) (S : Addr) (hSf : S ∉ fp) (F' : FillsP P w S Pv J) :
    ∀ (k i : Nat) (s : Shared), n - i = k → i ≤ n → St i s → J i s.heap → (∀ s', Moved (S :: wr) G s s' → J n s'.heap → R (.ok (.ret .none)) s') →
      codeAny (model P w) A (.builtin "set.update.loop" ⟨[.ref S, .ref I], []⟩) R s := by
  have hSw : S ∉ wr := fun h => hSf (W.sub _ h)
  have sub : ∀ b ∈ wr, b ∈ S :: wr := fun b hb => List.mem_cons_of_mem _ hb
  intro k
  induction k with
  | zero =>
    intro i s hk hi hst hJ hR
    obtain rfl : i = n := by omega
    refine codeAny_builtin F.entry_set_update_loop ?_
    rw [Around.under_plainId F.plain_set_update_loop _]
    show wpAny _ A.in1 (pyNext (.ref I) >>= _) _ _ s
    refine wpAny_bind (W.done s _ _ hst fun s' hm => ?_)
    show wpAny _ A.in1 (ret Value.none) _ _ s'
    exact wpAny_pure (hR s' (hm.mono sub) (F'.keep _ _ _ (fun o e => hm.heap S o hSw e) hJ))
  | succ k ih =>
    intro i s hk hi hst hJ hR
    have hlt : i < n := by omega
    refine codeAny_builtin F.entry_set_update_loop ?_
    rw [Around.under_plainId F.plain_set_update_loop _]
    show wpAny _ A.in1 (pyNext (.ref I) >>= _) _ _ s
    refine wpAny_bind (W.item i s _ _ hlt hst fun v s' hP hst' hm => ?_)
    have hJ' : J i s'.heap := F'.keep _ _ _ (fun o e => hm.heap S o hSw e) hJ
    show wpAny _ A.in1 (holding [v] (setAdd S v) >>= _) _ _ s'
    refine wpAny_bind (wpAny_holding (F'.add i v _ _ s' _ hP hJ' fun b h' tk hsb htk hJ2 => ?_))
    refine wpAny_pure ⟨plainId_quiet F.plain_set_update_loop _, ih (i + 1) _ (by omega) hlt (W.frame _ s' _ _ hst' htk fun b hb o e => ?_) hJ2 fun s'' hm'' hJ'' => ?_⟩
    · rw [hsb.2 b (fun h : b = S => hSf (by rw [← h]; exact hb))]; exact e
    · refine hR s'' (Moved.trans W.gtrans ((hm.mono sub).then_heap htk fun b o hb e => ?_) hm'') hJ''
      rw [hsb.2 b (fun h : b = S => hb (by rw [h]; exact List.mem_cons_self))]; exact e
set_option maxHeartbeats 3200000 in
theorem call_set_strG {x : Str} {t : Tok} {J : Nat → Heap → Prop} {Q : Value → Shared → Prop} (hh : A.handled = none) (h0 : ∀ h : Heap, h.get? s.heap.objs.size = some (set0 w) → J 0 h) (F' : FillsP P w s.heap.objs.size (SignAt x) J)
    (h : ∀ (h' : Heap) (tk : Nat), J x.cps.size h' → (∀ b o, s.heap.get? b = some o → h'.get? b = some o) → Q (.ref s.heap.objs.size) { s with heap := h', toks := tk }) :
    wpAny (model P w) A (call (.type "set") [.str x t]) Q E s := by
  obtain ⟨c, tl, hmro⟩ := F.called_set.mro
  have hmade := F.called_set.made
  have hsub := F.called_set.sub
  refine wpAny_call (codeAny_of_tree ?_)
  show wpAny _ _ (callAny (.type "set") _) _ _ _
  refine wpAny_pure ⟨Code.quiet_builtin _ (by decide +kernel), codeAny_builtin F.entry_type_call ?_⟩
  rw [Around.under_plain (weight_type_call_type "set" [.str x t] []) rfl]
  have h1 := F.called_set.notType
  have h2 := F.called_set.canCreate
  have hct := F.typeCall_set_1 (.str x t)
  repeat (any_goals (first | assumption | wp_step))
  refine codeAny_mono (code_set_led1 (.str x t) (E := E) (Q₁ := fun obj s₁ => obj = .ref s.heap.objs.size ∧ s₁ = { s with heap := s.heap.push (set0 w) }) ⟨rfl, rfl⟩) fun r s₁ hr => ?_
  cases r with
  | error e => exact hr
  | ok fl =>
    cases fl with
    | ret obj =>
      obtain ⟨rfl, rfl⟩ := hr
      have hS : (s.heap.push (set0 w)).get? s.heap.objs.size = some (set0 w) := Heap.get?_push_size _ rfl
      have hT : Shared.TypeIs { s with heap := s.heap.push (set0 w) } (.ref s.heap.objs.size) "set" := ⟨_, hS, rfl⟩
      have hli := F.called_set.init.lookup
      have hbi := F.called_set.init.bind (.ref s.heap.objs.size)
      repeat (any_goals (first | assumption | wp_step))
      refine codeAny_mono (codeAny_call_builtin (R := wants (fun r s₂ => r = .none ∧ ∃ h' tk, s₂ = { s with heap := h', toks := tk } ∧ J x.cps.size h' ∧ (∀ b o, s.heap.get? b = some o → h'.get? b = some o)) E) F.called_set.init.plain F.entry_set_init (check_set_init_1 hT ?_)) fun r₂ s₂ hr₂ => ?_
      · have hsls := F.sub_str_set
        have hslf := F.sub_str_frozenset
        have hne : (Value.type "str" == Value.type "dict") = false := by decide
        unfold Builtin.«set.__init__» noKeywords Builtin.Frozenset.updateFrom
        generalize hPI : pyIter = PI
        wp_walk
        subst hPI
        have hh3 : A.in1.in1.in1.handled = none := by simp [hh]
        have hSf : s.heap.objs.size ∉ [(s.heap.push (set0 w)).objs.size] := by
          rw [Heap.size_push]; simp
        cases ha : x.cps.all (· < 128)
        · refine wpAny_pyIter_wide ha (wpAny_bind (wpAny_runValue ?_))
          refine set_updateP ((Walks.strWide hh3 _ x t).toS) s.heap.objs.size hSf F' (x.cps.size - 0) 0 _ (by omega) (Nat.zero_le _) ⟨_, Heap.get?_push_size _ rfl, rfl, rfl⟩ (h0 _ (Heap.get?_push_of_some _ hS)) fun s' hm hJ => ?_
          obtain ⟨h', g2, d', tk', os'⟩ := s'
          have eg : g2 = s.gens := hm.gens
          have ed : d' = s.drawn := hm.drawn
          have eo : os' = s.os := hm.os
          subst eg; subst ed; subst eo
          show wpAny _ _ _ _ _ _
          refine wpAny_pure ?_
          show wpAny _ _ (ret Value.none) _ _ _
          refine wpAny_pure ⟨rfl, h', tk', rfl, hJ, fun b o e => ?_⟩
          have hb0 : b < s.heap.objs.size := Heap.lt_size e
          refine hm.heap b o ?_ (Heap.get?_push_of_some _ (Heap.get?_push_of_some _ e))
          rw [Heap.size_push]; simp only [List.mem_cons, List.not_mem_nil, or_false, not_or]
          exact ⟨Nat.ne_of_lt hb0, Nat.ne_of_lt (Nat.lt_succ_of_lt hb0)⟩
        · refine wpAny_pyIter_ascii ha (wpAny_bind (wpAny_runValue ?_))
          refine set_updateP ((Walks.strAscii hh3 _ x t).toS) s.heap.objs.size hSf F' (x.cps.size - 0) 0 _ (by omega) (Nat.zero_le _) ⟨_, Heap.get?_push_size _ rfl, rfl, rfl⟩ (h0 _ (Heap.get?_push_of_some _ hS)) fun s' hm hJ => ?_
          obtain ⟨h', g2, d', tk', os'⟩ := s'
          have eg : g2 = s.gens := hm.gens
          have ed : d' = s.drawn := hm.drawn
          have eo : os' = s.os := hm.os
          subst eg; subst ed; subst eo
          show wpAny _ _ _ _ _ _
          refine wpAny_pure ?_
          show wpAny _ _ (ret Value.none) _ _ _
          refine wpAny_pure ⟨rfl, h', tk', rfl, hJ, fun b o e => ?_⟩
          have hb0 : b < s.heap.objs.size := Heap.lt_size e
          refine hm.heap b o ?_ (Heap.get?_push_of_some _ (Heap.get?_push_of_some _ e))
          rw [Heap.size_push]; simp only [List.mem_cons, List.not_mem_nil, or_false, not_or]
          exact ⟨Nat.ne_of_lt hb0, Nat.ne_of_lt (Nat.lt_succ_of_lt hb0)⟩
      · cases r₂ with
        | error e => exact hr₂
        | ok fl₂ =>
          cases fl₂ with
          | ret r =>
            obtain ⟨rfl, h', tk, rfl, hJ, hk'⟩ := hr₂
            repeat (any_goals (first | assumption | wp_step))
            exact h _ _ hJ hk'
          | _ => exact hr₂.elim
    | _ => exact hr.elim
/-- the signs of a text, as texts -/
def sgs (x : Str) : List Str := (toL x).map fun k => ⟨#[k]⟩
theorem fills_signs {S : Addr} {x : Str} (hb : Few (sgs x)) : FillsP P w S (SignAt x) fun i h => ∃ ks, SetS w h S ks ∧ ∀ k, k ∈ ks ↔ k ∈ (sgs x).take i where
  keep := fun i h h' k ⟨ks, R, r⟩ => ⟨ks, R.at k, r⟩
  add := fun i v A E s Q hi ⟨ks, R, hm⟩ hQ => by
    obtain ⟨k0, tk, hk0, rfl⟩ := hi
    have hz : (sgs x)[i]? = some ⟨#[k0]⟩ := by
      unfold sgs
      rw [List.getElem?_map]
      have : (toL x)[i]? = some k0 := by unfold toL; rw [Array.getElem?_toList]; exact hk0
      rw [this]; rfl
    unfold setAdd
    refine wpAny_holding (wpAny_bind ((PySem.strKind P w).pyHash (k := ⟨#[k0]⟩) (strKind_is _ _ _ _) ?_))
    have room : ks.length + 1 < scanBound := by
      have := hb ks R.nodup (fun k hk => List.mem_of_mem_take ((hm k).mp hk))
      unfold scanBound; omega
    refine setS_add_hashed (s := { s with toks := s.toks + 1 }) R room fun b h' hsb R2 => ?_
    refine hQ b h' (s.toks + 1) hsb (Nat.le_succ _) ⟨_, R2, fun k => ?_⟩
    rw [mem_withS, hm k, List.take_add_one, hz]
    simp only [List.mem_append, Option.toList_some, List.mem_singleton]
end
end Bm
end
section
set_option Elab.async false
set_option linter.all false
set_option maxRecDepth 100000
set_option maxHeartbeats 1000000
namespace Bm
open PySem PySem.Spec L2
section
variable {X : Cx} {c : Cfg} {e e1 e2 e3 : Expr} {es : List Expr} {a b m : E} {pos : Pos}
def tSsetC (K : PySem.W.Frag) (ta : TE) : TE := fun σ H Q => ta σ H fun x H1 => ∃ z : Str, x = .str z ∧ Few (sgs z) ∧ ∀ (p : Addr) (zs : List Str) (us : List V) (F : Hp), zs.Nodup → (∀ k, k ∈ zs ↔ k ∈ sgs z) → H1 p = none → DpAll K F us (isort dle (zs.map PyData.str)) → Q (.ref p) (upd H1 p (.lst us))
theorem pe_ssetC {ta : TE} {p p2 q : Pos} (hc : X.calm = true) (hu : X.A.units + 64 < cLine) (hg : Gl X "sorted") (hm : X.mg "sorted" = none) (hg2 : Gl X "set") (hm2 : X.mg "set" = none) (ha : PE X e ta)
    (na : starEach [e] X.env = (false, eval e X.env) :: starEach [] X.env := by rfl) (nb : starEach [.Call (.Name "set" p2) [e] [] q] X.env = (false, eval (.Call (.Name "set" p2) [e] [] q) X.env) :: starEach [] X.env := by rfl) :
    PE X (.Call (.Name "sorted" p) [.Call (.Name "set" p2) [e] [] q] [] pos) (tSsetC X.K ta) := by
  refine ⟨fun pins s σ H Q I h => PyProof.Rows.Call_ (ld_blt I hg hm boot_sorted' (PyProof.Rows.callWith_builtin1 (PyProof.Rows.args_cons ?_ nb) nb rfl))⟩
  refine PyProof.Rows.Call_ (ld_blt I hg2 hm2 PyProof.Rows.boot_set (PyProof.Rows.callWith_type1 (PyProof.Rows.args_cons (thn (ha.run pins s σ H _ I h) fun v s1 ⟨x, H1, I1, r1, q1⟩ => PyProof.Rows.args_nil ?_) na) na rfl))
  obtain ⟨z, rfl, few, q1⟩ := q1
  obtain ⟨t, rfl⟩ := r1
  refine call_set_strG (J := fun i h => ∃ ks, SetS X.w h s1.heap.objs.size ks ∧ ∀ k, k ∈ ks ↔ k ∈ (sgs z).take i) (I1.ok.hd hc) (fun h ho => ⟨[], setS_new ho, fun k => by simp⟩) (fills_signs few) fun h' tk ⟨ks, R, hmm⟩ hk => ?_
  have I2 : Inv X pins σ H1 { s1 with heap := h', toks := tk } := I1.kept hk
  have hl : (sgs z).length ≤ z.cps.size := by unfold sgs; rw [List.length_map]; show (toL z).length ≤ _; unfold toL; rw [Array.length_toList]; exact Nat.le_refl _
  rw [List.take_of_length_le hl] at hmm
  refine PyProof.Rows.args_nil ?_
  obtain ⟨_, _, _, _, _, _, _, _, _, _, hb, _⟩ := id R
  exact sorted_setS hc hu I2 R (Nat.le_trans (Nat.le_of_lt hb) (by decide)) fun p zs us F hp hn hd => q1 p zs us F (hp.symm.nodup R.nodup) (fun k => hp.mem_iff.trans (hmm k)) hn hd
theorem sgs_map (z : Str) : sgs z = ((toL z).map fun k => [k]).map st := by
  unfold sgs
  rw [List.map_map]
  rfl
theorem nub_map1 : ∀ l : List Nat, nub (l.map fun k => [k]) = (nub l).map fun k => [k]
  | [] => rfl
  | x :: r => by
    have hm : ([x] : List Nat) ∈ r.map (fun k => [k]) ↔ x ∈ r := by
      simp only [List.mem_map, List.cons.injEq, and_true, exists_eq_right]
    simp only [List.map_cons, nub]
    by_cases h : x ∈ r
    · rw [if_pos (hm.mpr h), if_pos h, nub_map1 r]
    · rw [if_neg (fun z => h (hm.mp z)), if_neg h, nub_map1 r]; rfl
theorem sv_ssetC {p p2 q : Pos} (hc : X.calm = true) (hu : X.A.units + 64 < cLine) (hg : Gl X "sorted") (hm : X.mg "sorted" = none) (hg2 : Gl X "set") (hm2 : X.mg "set" = none) (ha : PE X e (TEv X.K c a))
    (na : starEach [e] X.env = (false, eval e X.env) :: starEach [] X.env := by rfl) (nb : starEach [.Call (.Name "set" p2) [e] [] q] X.env = (false, eval (.Call (.Name "set" p2) [e] [] q) X.env) :: starEach [] X.env := by rfl) :
    PE X (.Call (.Name "sorted" p) [.Call (.Name "set" p2) [e] [] q] [] pos) (TEv X.K c (.op .ssetC (.cons a .nil))) := by
  refine PE.mono (pe_ssetC hc hu hg hm hg2 hm2 ha na nb) fun σ H Q h => tev_un1 (rr := fun x H1 Q => ∃ z : Str, x = .str z ∧ Few (sgs z) ∧ ∀ (p : Addr) (zs : List Str) (us : List V) (F : Hp), zs.Nodup → (∀ k, k ∈ zs ↔ k ∈ sgs z) → H1 p = none → DpAll X.K F us (isort dle (zs.map PyData.str)) → Q (.ref p) (upd H1 p (.lst us))) ?_ h
  intro ds d vs F H Q s q e w
  simp only [opD] at e; unfold dop_ssetC at e
  split at e
  · rename_i z
    match q with
    | .cons q1 .nil =>
      have h1 := dn_str q1; subst h1
      obtain ⟨hl, e⟩ := guardO_some e
      rw [decide_eq_true_eq] at hl
      have hn : (nub ((toL z).map fun k => [k])).length ≤ 2000 := by
        have := sub_len (nub ((toL z).map fun k => [k])) ((toL z).map fun k => [k]) (nub_nodup _) fun x hx => (nub_mem x _).mp hx
        rw [List.length_map] at this
        omega
      refine ⟨_, rfl, z, rfl, by rw [sgs_map]; exact x3_few_of hn, fun p' zs us F' nd mz np hd => ?_⟩
      have e' := Option.some.inj e
      rw [sgs_map] at mz
      have pm := x3_toL_perm nd mz
      rw [nub_map1] at pm
      have e3 : (nub (toL z)).map (fun c => dS [c]) = ((nub (toL z)).map fun k => [k]).map dS := by rw [List.map_map]; rfl
      rw [e3, x3_isort_texts pm] at e'
      have e2 : ((zs.map toL).map dS) = zs.map PyData.str := by
        rw [List.map_map]
        exact List.map_congr_left fun z _ => by show PyData.str (st (toL z)) = _; rw [st_toL]
      rw [e2] at e'
      subst e'
      refine Wish.lst w s np (x3_dpa_texts (zs := zs) ?_ hd)
      intro d hd
      exact (x3_isort_perm dle _).mem_iff.mp hd
  · cases e
def rIdx (K : PySem.W.Frag) : V → List V → Hp → VK → Prop := fun x xs H Q => ∃ (a : Addr) (ws : List V) (y : V) (d : D) (ds : List D) (j : Nat) (F : Hp), x = .ref a ∧ xs = [y] ∧ Same F H ∧ F a = some (.lst ws) ∧ DpAll K F ws ds ∧ Dp K F y d ∧ PyData.plainAll ds = true ∧ d.plain = true ∧ d.depth ≤ 60 ∧ (ds.findIdx? fun z => PyData.eqv z d) = some j ∧ Q (.int (j : Nat)) H
theorem mt_idx (hu : X.A.units + 64 < cLine) : MtR X "list.index" (rIdx X.K) := by
  intro pins s σ H x xs v us Q I rx rxs h
  obtain ⟨ad, ws, y, d, ds, j, F, rfl, rfl, sm, ha, hw, hy, pl, pd, dd, hj, q⟩ := h
  cases rx
  obtain ⟨uy, rfl, ry⟩ := vals1 rxs
  obtain ⟨bs, r1⟩ := L2.Dp.reads I d y uy (Dp.l2 sm _ _ hy) ry
  obtain ⟨its, rv, pl2, hz⟩ := I.list (SqL.of (sm _ _ ha))
  obtain ⟨as, r2⟩ := L2.Dp.readsAll I ds _ its (DpAll.l2 sm ds ws hw) rv
  obtain ⟨⟨cls, dx, data, sl⟩, ho, hcl, n, hdt⟩ := id pl2.isList
  simp only at hcl hdt
  subst hcl hdt
  have r2 : ReadsAll s.heap its.toArray.toList ds as := by simpa using r2
  obtain ⟨hjs, e1, e2⟩ := PySem.SeqAt.hit_at r2 pl hj
  have hm := Nat.min_le_right (PyData.depthAll ds) d.depth
  have hsz : its.toArray.size ≤ sizeLine := by rw [List.size_toArray, ← rv.length]; exact hz
  have hsl := sizeLine_eq
  exact PySem.call_meets PySem.F.slot_list_index ⟨_, ho, rfl⟩ PySem.F.entry_list_index (PySem.F.args_list_index_2 _ _)
    (PySem.SeqAt.list_indexAt ad its.toArray n dx sl uy (fun u => PyData.eqv (PySem.SeqAt.readOf s.heap u) d) j hjs (by omega) e1 e2) ⟨ho, PySem.SeqAt.items_plain r2 r1 pl pd (by omega), ⟨.int (j : Nat), H, I.tok _, ⟨_, rfl⟩, q⟩⟩
theorem sv_lindex {apos cpos : Pos} (hu : X.A.units + 64 < cLine) (ho : PE X e1 (TEv X.K c a)) (ha : PE X e (TEv X.K c b)) (hline : (apos.endLine == cpos.line) = true := by rfl) (hbase : attributeBase e1 "index" X.env (eval e1 X.env) = eval e1 X.env := by rfl) (he : starEach [e] X.env = (false, eval e X.env) :: starEach [] X.env := by rfl) :
    PE X (.Call (.Attribute e1 "index" apos) [e] [] cpos) (TEv X.K c (.lmeth .lindex a (.cons b .nil))) := by
  refine sv_lmeth PySem.F.slot_list_index PySem.F.type_list_index (mt_idx hu) ?_ ho (sa_cons ha sa_nil he) hbase (by rw [he]; rfl) hline he rfl
  intro z x ds d' vs F H Q s q1 q e w
  obtain ⟨p, xs, rfl, h1, h2⟩ := dn_list q1
  simp only [opD] at e; unfold dop_lindex at e
  split at e
  · rename_i l y heq
    cases heq
    match q with
    | .cons q2 .nil =>
      obtain ⟨hg, e⟩ := guardO_some e
      simp only [Bool.and_eq_true, decide_eq_true_eq] at hg
      cases hf : z.findIdx? fun d => PyData.eqv d y with
      | none => rw [hf] at e; cases e
      | some k =>
        rw [hf] at e
        cases e
        exact ⟨p, xs, _, y, z, k, F, rfl, rfl, s, h1, h2, Dn.dp q2 (fun kvs ed => by rw [ed] at hg; cases hg.1.1), hg.1.2, hg.1.1, hg.2, hf, w.here s (Dp.int _)⟩
  · cases e
end
end Bm
end
section
set_option Elab.async false
set_option linter.all false
set_option maxRecDepth 100000
set_option maxHeartbeats 2000000
namespace Bm
open PySem PySem.Spec L2 LamX
open PyProof.Rows hiding St
section
variable {X : Cx} {e e1 e2 : Expr} {es : List Expr} {pos : Pos} {c : Cfg} {a b m : E} {x : Str} {tg : Expr} {sta : Stmt} {rest sts sts' : List Stmt} {s1 s2 : S}
/-- what the evaluator never comes to -/
theorem ss_stuck : PS X sta (TSv X.K c (.while_ 0 m s1)) := ⟨fun pins s σ H D I ⟨F, r, y, h⟩ => by simp only [denS, whileLoop] at h; exact h.elim⟩
end
end Bm
end
section
set_option Elab.async false
set_option linter.all false
set_option maxRecDepth 100000
set_option maxHeartbeats 2000000
namespace Bm
open PySem PySem.Spec L2 LamX
open PyProof.Rows hiding St
end Bm
end
section
set_option linter.all false
set_option maxRecDepth 100000
namespace Bm
abbrev ce_is_drawing_1 : E := (.and (.op .isstr (.cons (.var 1) .nil)) (.op .ne (.cons (.var 1) (.cons (.lit (dS [])) .nil))))
abbrev lc_is_drawing_1 : E := (.lc [1] (.name 1) (.it .seq (.cons (.var 0) .nil)) (.lit (.bool true)) ce_is_drawing_1)
def b_is_drawing : S := (.seq (.ifs (.or (.op .not (.cons (.op .istup (.cons (.var 0) .nil)) .nil)) (.op .not (.cons (.op .all (.cons lc_is_drawing_1 .nil)) .nil))) (.ret (.lit (.bool false))) .skip) (.seq (.asg (.name 2) (.meth .join (.lit (dS [])) (.cons (.var 0) .nil))) (.seq (.asg (.name 3) (.op .fdiv (.cons (.op .len (.cons (.var 2) .nil)) (.cons (.lit (.int 2)) .nil)))) (.ret (.and (.chain .le .le (.lit (.int 2)) (.op .len (.cons (.var 2) .nil)) (.lit (.int 16))) (.op .eq (.cons (.op .sorted (.cons (.var 2) .nil)) (.cons (.op .sorted (.cons (.op .mul (.cons (.slcH (.lit (dS [97, 98, 99, 100, 101, 102, 103, 104])) (.var 3)) (.cons (.lit (.int 2)) .nil))) .nil)) .nil))))))))
abbrev ce_ends_in_1 : E := (.op .mkt (.cons (.var 2) (.cons (.var 4) .nil)))
abbrev lc_ends_in_1 : E := (.lc [4] (.name 4) (.it .range1 (.cons (.op .len (.cons (.var 3) .nil)) .nil)) (.lit (.bool true)) ce_ends_in_1)
abbrev fb_ends_in_1 : S := (.asg (.name 1) (.op .add (.cons (.var 1) (.cons lc_ends_in_1 .nil))))
abbrev fo_ends_in_1 : S := (.for_ (.tup [2, 3]) (.it .enum (.cons (.var 0) .nil)) fb_ends_in_1)
def b_ends_in : S := (.seq (.asg (.name 1) (.op .mkl .nil)) (.seq fo_ends_in_1 (.ret (.var 1))))
def b_letter_at : S := (.ret (.op .item (.cons (.op .item (.cons (.var 0) (.cons (.op .item (.cons (.var 1) (.cons (.lit (.int 0)) .nil))) .nil))) (.cons (.op .item (.cons (.var 1) (.cons (.lit (.int 1)) .nil))) .nil))))
abbrev fb_other_end_1 : S := (.seq (.asg (.name 5) (.meth .find (.var 4) (.cons (.var 2) .nil))) (.seq (.ifs (.op .eq (.cons (.op .mkt (.cons (.var 3) (.cons (.var 5) .nil))) (.cons (.var 1) .nil))) (.asg (.name 5) (.meth .find2 (.var 4) (.cons (.var 2) (.cons (.op .add (.cons (.var 5) (.cons (.lit (.int 1)) .nil))) .nil)))) .skip) (.ifs (.op .ge (.cons (.var 5) (.cons (.lit (.int 0)) .nil))) (.ret (.op .mkt (.cons (.var 3) (.cons (.var 5) .nil)))) .skip)))
abbrev fo_other_end_1 : S := (.for_ (.tup [3, 4]) (.it .enum (.cons (.var 0) .nil)) fb_other_end_1)
def b_other_end : S := (.seq (.asg (.name 2) (.call 2 (.cons (.var 0) (.cons (.var 1) .nil)))) (.seq fo_other_end_1 (.ret (.var 1))))
def b_next_around : S := (.ret (.op .mkt (.cons (.op .item (.cons (.var 1) (.cons (.lit (.int 0)) .nil))) (.cons (.op .mod (.cons (.op .add (.cons (.op .item (.cons (.var 1) (.cons (.lit (.int 1)) .nil))) (.cons (.lit (.int 1)) .nil))) (.cons (.op .len (.cons (.op .item (.cons (.var 0) (.cons (.op .item (.cons (.var 1) (.cons (.lit (.int 0)) .nil))) .nil))) .nil)) .nil))) .nil))))
def b_gone_on : S := (.ret (.call 4 (.cons (.var 0) (.cons (.call 3 (.cons (.var 0) (.cons (.var 1) .nil))) .nil))))
abbrev ce_least_turn_1 : E := (.op .add (.cons (.slcL (.var 0) (.var 1)) (.cons (.slcH (.var 0) (.var 1)) .nil)))
abbrev lc_least_turn_1 : E := (.lc [1] (.name 1) (.it .range1 (.cons (.op .len (.cons (.var 0) .nil)) .nil)) (.lit (.bool true)) ce_least_turn_1)
def b_least_turn : S := (.ret (.op .min1 (.cons lc_least_turn_1 .nil)))
abbrev wc_rounds_1 : E := (.op .not (.cons (.dIn 2 (.var 3)) .nil))
abbrev wb_rounds_1 : S := (.seq (.dput 2 (.var 3) (.lit (.bool true))) (.seq (.append 4 (.var 3)) (.asg (.name 3) (.call 5 (.cons (.var 0) (.cons (.var 3) .nil))))))
abbrev wh_rounds_1 : S := (.while_ 200 wc_rounds_1 wb_rounds_1)
abbrev ce_rounds_1 : E := (.call 2 (.cons (.var 0) (.cons (.var 6) .nil)))
abbrev lc_rounds_1 : E := (.lc [6] (.name 6) (.it .seq (.cons (.var 4) .nil)) (.lit (.bool true)) ce_rounds_1)
abbrev fb_rounds_1 : S := (.ifs (.op .not (.cons (.dIn 2 (.var 3)) .nil)) (.seq (.asgM 4 1 (.op .mkl .nil)) (.seq wh_rounds_1 (.seq (.asg (.name 5) (.meth .join (.lit (dS [])) (.cons lc_rounds_1 .nil))) (.append 1 (.op .mkt (.cons (.call 6 (.cons (.var 5) .nil)) (.cons (.op .min1 (.cons (.var 4) .nil)) (.cons (.op .tuple (.cons (.var 4) .nil)) .nil)))))))) .skip)
abbrev fo_rounds_1 : S := (.for_ (.name 3) (.it .seq (.cons (.call 1 (.cons (.var 0) .nil)) .nil)) fb_rounds_1)
abbrev ce_rounds_2 : E := (.op .mkt (.cons (.var 5) (.cons (.var 4) .nil)))
abbrev lc_rounds_2 : E := (.lc [5, 7, 4] (.tup [5, 7, 4]) (.it .seq (.cons (.op .sorted (.cons (.var 1) .nil)) .nil)) (.lit (.bool true)) ce_rounds_2)
def b_rounds : S := (.seq (.par [(1, 1), (2, 2)] (.cons (.op .mkl .nil) (.cons (.lit (.dict [])) .nil))) (.seq fo_rounds_1 (.ret lc_rounds_2)))
abbrev fb_reached_1 : S := (.ifs (.and (.peek (.op .isin (.cons (.var 6) (.cons (.var 2) .nil)))) (.peek (.op .notin (.cons (.var 7) (.cons (.var 2) .nil))))) (.append 2 (.var 7)) (.ifs (.and (.peek (.op .isin (.cons (.var 7) (.cons (.var 2) .nil)))) (.peek (.op .notin (.cons (.var 6) (.cons (.var 2) .nil))))) (.append 2 (.var 6)) (.ifs (.peek (.op .notin (.cons (.var 6) (.cons (.var 2) .nil)))) (.append 5 (.op .mkt (.cons (.var 6) (.cons (.var 7) .nil)))) .skip)))
abbrev fo_reached_1 : S := (.for_ (.tup [6, 7]) (.it .seq (.cons (.var 3) .nil)) fb_reached_1)
abbrev wc_reached_1 : E := (.op .lt (.cons (.var 4) (.cons (.peek (.op .len (.cons (.var 2) .nil))) .nil)))
abbrev wb_reached_1 : S := (.seq (.par [(4, 0), (5, 1)] (.cons (.peek (.op .len (.cons (.var 2) .nil))) (.cons (.op .mkl .nil) .nil))) (.seq fo_reached_1 (.asg (.name 3) (.var 5))))
abbrev wh_reached_1 : S := (.while_ 200 wc_reached_1 wb_reached_1)
def b_reached : S := (.seq (.par [(2, 1), (3, 0), (4, 0)] (.cons (.op .mkl (.cons (.var 1) .nil)) (.cons (.var 0) (.cons (.lit (.int 0)) .nil)))) (.seq wh_reached_1 (.ret (.var 2))))
abbrev ce_pairs_of_1 : E := (.call 10 (.cons (.var 0) (.cons (.var 2) .nil)))
abbrev lc_pairs_of_1 : E := (.lc [2] (.name 2) (.it .seq (.cons (.var 1) .nil)) (.lit (.bool true)) ce_pairs_of_1)
def b_pairs_of : S := (.ret lc_pairs_of_1)
abbrev fb_points_of_1 : S := (.asg (.name 2) (.op .add (.cons (.var 2) (.cons (.op .mul (.cons (.op .mkl (.cons (.var 3) .nil)) (.cons (.meth .count (.var 4) (.cons (.var 1) .nil)) .nil))) .nil))))
abbrev fo_points_of_1 : S := (.for_ (.tup [3, 4]) (.it .enum (.cons (.var 0) .nil)) fb_points_of_1)
def b_points_of : S := (.seq (.asg (.name 2) (.op .mkl .nil)) (.seq fo_points_of_1 (.ret (.op .tuple (.cons (.var 2) .nil)))))
def b_letters_of : S := (.ret (.slcH (.lit (dS [97, 98, 99, 100, 101, 102, 103, 104])) (.op .fdiv (.cons (.op .len (.cons (.meth .join (.lit (dS [])) (.cons (.var 0) .nil)) .nil)) (.cons (.lit (.int 2)) .nil)))))
def b_is_map : S := (.seq (.ifs (.or (.op .not (.cons (.call 0 (.cons (.var 0) .nil)) .nil)) (.op .ne (.cons (.op .len (.cons (.call 8 (.cons (.call 9 (.cons (.var 0) (.cons (.call 11 (.cons (.var 0) .nil)) .nil))) (.cons (.lit (.int 0)) .nil))) .nil)) (.cons (.op .len (.cons (.var 0) .nil)) .nil)))) (.ret (.lit (.bool false))) .skip) (.ret (.op .eq (.cons (.op .add (.cons (.op .sub (.cons (.op .len (.cons (.var 0) .nil)) (.cons (.op .len (.cons (.call 11 (.cons (.var 0) .nil)) .nil)) .nil))) (.cons (.op .len (.cons (.call 7 (.cons (.var 0) .nil)) .nil)) .nil))) (.cons (.lit (.int 2)) .nil)))))
def b_need_map : S := (.ifs (.op .not (.cons (.call 12 (.cons (.var 0) .nil)) .nil)) (.raise 0) .skip)
abbrev lc_land_strings_1 : E := (.lc [1, 2] (.tup [1, 2]) (.it .seq (.cons (.call 7 (.cons (.var 0) .nil)) .nil)) (.lit (.bool true)) (.var 1))
def b_land_strings : S := (.ret (.op .tuple (.cons lc_land_strings_1 .nil)))
def b_lands : S := (.seq (.expr (.call 13 (.cons (.var 0) .nil))) (.ret (.call 14 (.cons (.var 0) .nil))))
def b__law_cell : S := (.seq (.ifs (.op .eq (.cons (.var 0) (.cons (.op .mkl .nil) .nil))) (.ret (.op .mul (.cons (.var 1) (.cons (.lit (.int 7919)) .nil)))) .skip) (.ret (.op .add (.cons (.op .item (.cons (.var 0) (.cons (.op .mod (.cons (.var 1) (.cons (.op .len (.cons (.var 0) .nil)) .nil))) .nil))) (.cons (.op .mul (.cons (.op .fdiv (.cons (.var 1) (.cons (.op .len (.cons (.var 0) .nil)) .nil))) (.cons (.lit (.int 104729)) .nil))) .nil)))))
def b__law_drawn : S := (.seq (.asg (.name 2) (.op .mod (.cons (.op .add (.cons (.op .mul (.cons (.var 0) (.cons (.lit (.int 6364136223846793005)) .nil))) (.cons (.op .mul (.cons (.op .add (.cons (.var 1) (.cons (.lit (.int 1)) .nil))) (.cons (.lit (.int 1442695040888963407)) .nil))) .nil))) (.cons (.lit (.int 340282366920938463463374607431768211507)) .nil)))) (.seq (.asg (.name 2) (.op .mod (.cons (.op .mul (.cons (.var 2) (.cons (.var 2) .nil))) (.cons (.lit (.int 340282366920938463463374607431768211297)) .nil)))) (.seq (.asg (.name 2) (.op .mul (.cons (.op .mul (.cons (.op .add (.cons (.op .mod (.cons (.var 2) (.cons (.lit (.int 18446744073709551557)) .nil))) (.cons (.lit (.int 1)) .nil))) (.cons (.op .add (.cons (.op .fdiv (.cons (.var 2) (.cons (.lit (.int 18446744073709551557)) .nil))) (.cons (.lit (.int 1)) .nil))) .nil))) (.cons (.var 2) .nil)))) (.ret (.op .mod (.cons (.var 2) (.cons (.lit (.int 340282366920938463463374607431768211507)) .nil)))))))
def b__law_roll : S := (.seq (.ifs (.op .ge (.cons (.oitem 0 (.lit (.int 0))) (.cons (.op .pow (.cons (.lit (.int 10)) (.cons (.lit (.int 18)) .nil))) .nil))) (.seq (.asg (.name 2) (.op .mod (.cons (.oitem 0 (.lit (.int 0))) (.cons (.var 1) .nil)))) (.seq (.store 0 (.lit (.int 0)) (.op .fdiv (.cons (.oitem 0 (.lit (.int 0))) (.cons (.var 1) .nil)))) (.ret (.var 2)))) .skip) (.seq (.store 0 (.lit (.int 1)) (.op .add (.cons (.oitem 0 (.lit (.int 1))) (.cons (.lit (.int 1)) .nil)))) (.ret (.op .mod (.cons (.op .fdiv (.cons (.call 17 (.cons (.oitem 0 (.lit (.int 0))) (.cons (.oitem 0 (.lit (.int 1))) .nil))) (.cons (.lit (.int 8)) .nil))) (.cons (.var 1) .nil))))))
abbrev ce__law_rounds_1 : E := (.op .mkl (.cons (.call 16 (.cons (.var 0) (.cons (.var 2) .nil))) (.cons (.lit (.int 0)) .nil)))
abbrev lc__law_rounds_1 : E := (.lc [2] (.name 2) (.it .range1 (.cons (.op .max2 (.cons (.lit (.int 1)) (.cons (.op .min2 (.cons (.var 1) (.cons (.op .len (.cons (.var 0) .nil)) .nil))) .nil))) .nil)) (.lit (.bool true)) ce__law_rounds_1)
def b__law_rounds : S := (.ret lc__law_rounds_1)
abbrev ce__law_ends_1 : E := (.op .mkt (.cons (.var 2) (.cons (.var 4) .nil)))
abbrev lc__law_ends_1 : E := (.lc [4] (.name 4) (.it .range1 (.cons (.op .len (.cons (.var 3) .nil)) .nil)) (.lit (.bool true)) ce__law_ends_1)
abbrev fb__law_ends_1 : S := (.asg (.name 1) (.op .add (.cons (.var 1) (.cons lc__law_ends_1 .nil))))
abbrev fo__law_ends_1 : S := (.for_ (.tup [2, 3]) (.it .enum (.cons (.var 0) .nil)) fb__law_ends_1)
def b__law_ends : S := (.seq (.asg (.name 1) (.op .mkl .nil)) (.seq fo__law_ends_1 (.ret (.var 1))))
abbrev ce__law_letters_1 : E := (.op .len (.cons (.var 1) .nil))
abbrev lc__law_letters_1 : E := (.lc [1] (.name 1) (.it .seq (.cons (.var 0) .nil)) (.lit (.bool true)) ce__law_letters_1)
def b__law_letters : S := (.ret (.slcH (.lit (dS [97, 98, 99, 100, 101, 102, 103, 104])) (.op .fdiv (.cons (.op .sum (.cons lc__law_letters_1 .nil)) (.cons (.lit (.int 2)) .nil)))))
abbrev cc__law_on_1 : E := (.and (.op .ne (.cons (.var 5) (.cons (.var 1) .nil))) (.op .eq (.cons (.op .item (.cons (.op .item (.cons (.var 0) (.cons (.op .item (.cons (.var 5) (.cons (.lit (.int 0)) .nil))) .nil))) (.cons (.op .item (.cons (.var 5) (.cons (.lit (.int 1)) .nil))) .nil))) (.cons (.var 2) .nil))))
abbrev lc__law_on_1 : E := (.lc [5] (.name 5) (.it .seq (.cons (.call 22 (.cons (.var 0) .nil)) .nil)) cc__law_on_1 (.var 5))
def b__law_on : S := (.seq (.asg (.name 2) (.op .item (.cons (.op .item (.cons (.var 0) (.cons (.op .item (.cons (.var 1) (.cons (.lit (.int 0)) .nil))) .nil))) (.cons (.op .item (.cons (.var 1) (.cons (.lit (.int 1)) .nil))) .nil)))) (.seq (.asg (.tup [3, 4]) (.op .item (.cons lc__law_on_1 (.cons (.lit (.int 0)) .nil)))) (.ret (.op .mkt (.cons (.var 3) (.cons (.op .mod (.cons (.op .add (.cons (.var 4) (.cons (.lit (.int 1)) .nil))) (.cons (.op .len (.cons (.op .item (.cons (.var 0) (.cons (.var 3) .nil))) .nil)) .nil))) .nil))))))
abbrev fb__law_walks_1 : S := (.ifs (.op .not (.cons (.dIn 2 (.var 3)) .nil)) (.seq (.dput 2 (.var 3) (.lit (.bool true))) (.seq (.append 4 (.var 3)) (.asg (.name 3) (.call 24 (.cons (.var 0) (.cons (.var 3) .nil)))))) .skip)
abbrev fo__law_walks_1 : S := (.for_ (.name 5) (.it .range1 (.cons (.lit (.int 16)) .nil)) fb__law_walks_1)
abbrev fb__law_walks_2 : S := (.ifs (.op .not (.cons (.dIn 2 (.var 3)) .nil)) (.seq (.asgM 4 1 (.op .mkl .nil)) (.seq fo__law_walks_1 (.append 1 (.var 4)))) .skip)
abbrev fo__law_walks_2 : S := (.for_ (.name 3) (.it .seq (.cons (.call 22 (.cons (.var 0) .nil)) .nil)) fb__law_walks_2)
def b__law_walks : S := (.seq (.par [(1, 1), (2, 2)] (.cons (.op .mkl .nil) (.cons (.lit (.dict [])) .nil))) (.seq fo__law_walks_2 (.ret (.var 1))))
def b__law_put : S := (.seq (.asg (.name 4) (.op .add (.cons (.op .add (.cons (.slcH (.op .item (.cons (.var 0) (.cons (.var 1) .nil))) (.var 2)) (.cons (.var 3) .nil))) (.cons (.slcL (.op .item (.cons (.var 0) (.cons (.var 1) .nil))) (.var 2)) .nil)))) (.ret (.op .add (.cons (.op .add (.cons (.slcH (.var 0) (.var 1)) (.cons (.op .mkt (.cons (.var 4) .nil)) .nil))) (.cons (.slcL (.var 0) (.op .add (.cons (.var 1) (.cons (.lit (.int 1)) .nil)))) .nil)))))
abbrev fb__law_any_map_1 : S := (.seq (.asg (.name 5) (.call 25 (.cons (.var 2) .nil))) (.seq (.asg (.name 5) (.op .item (.cons (.var 5) (.cons (.callIO 18 0 (.cons (.op .len (.cons (.var 5) .nil)) .nil)) .nil)))) (.seq (.asg (.name 6) (.op .item (.cons (.var 5) (.cons (.callIO 18 0 (.cons (.op .len (.cons (.var 5) .nil)) .nil)) .nil)))) (.ifs (.op .lt (.cons (.callIO 18 0 (.cons (.lit (.int 6)) .nil)) (.cons (.op .sub (.cons (.var 3) (.cons (.lit (.int 1)) .nil))) .nil))) (.asg (.name 2) (.op .add (.cons (.call 26 (.cons (.var 2) (.cons (.op .item (.cons (.var 6) (.cons (.lit (.int 0)) .nil))) (.cons (.op .item (.cons (.var 6) (.cons (.lit (.int 1)) .nil))) (.cons (.var 4) .nil))))) (.cons (.op .mkt (.cons (.var 4) .nil)) .nil)))) (.seq (.asg (.lst [7, 8]) (.op .sorted (.cons (.op .mkl (.cons (.var 6) (.cons (.op .item (.cons (.var 5) (.cons (.callIO 18 0 (.cons (.op .len (.cons (.var 5) .nil)) .nil)) .nil))) .nil))) .nil))) (.asg (.name 2) (.call 26 (.cons (.call 26 (.cons (.var 2) (.cons (.op .item (.cons (.var 8) (.cons (.lit (.int 0)) .nil))) (.cons (.op .item (.cons (.var 8) (.cons (.lit (.int 1)) .nil))) (.cons (.var 4) .nil))))) (.cons (.op .item (.cons (.var 7) (.cons (.lit (.int 0)) .nil))) (.cons (.op .item (.cons (.var 7) (.cons (.lit (.int 1)) .nil))) (.cons (.var 4) .nil)))))))))))
abbrev fo__law_any_map_1 : S := (.for_ (.name 4) (.it .seq (.cons (.slcH (.lit (dS [98, 99, 100, 101, 102, 103, 104])) (.callIO 18 0 (.cons (.var 1) .nil))) .nil)) fb__law_any_map_1)
def b__law_any_map : S := (.seq (.par [(2, 0), (3, 0)] (.cons (.op .item (.cons (.op .mkl (.cons (.op .mkt (.cons (.lit (dS [97])) (.cons (.lit (dS [97])) .nil))) (.cons (.op .mkt (.cons (.lit (dS [97, 97])) .nil)) .nil))) (.cons (.callIO 18 0 (.cons (.lit (.int 2)) .nil)) .nil))) (.cons (.op .add (.cons (.lit (.int 1)) (.cons (.callIO 18 0 (.cons (.lit (.int 6)) .nil)) .nil))) .nil))) (.seq fo__law_any_map_1 (.ret (.var 2))))
def b__law_is_drawing : S := (.seq (.asg (.name 1) (.meth .join (.lit (dS [])) (.cons (.var 0) .nil))) (.ret (.and (.chain .le .le (.lit (.int 2)) (.op .len (.cons (.var 1) .nil)) (.lit (.int 16))) (.op .eq (.cons (.op .sorted (.cons (.var 1) .nil)) (.cons (.op .sorted (.cons (.op .mul (.cons (.slcH (.lit (dS [97, 98, 99, 100, 101, 102, 103, 104])) (.op .fdiv (.cons (.op .len (.cons (.var 1) .nil)) (.cons (.lit (.int 2)) .nil)))) (.cons (.lit (.int 2)) .nil))) .nil)) .nil))))))
abbrev ce__law_is_joined_1 : E := (.op .item (.cons (.var 0) (.cons (.var 4) .nil)))
abbrev lc__law_is_joined_1 : E := (.lc [4] (.name 4) (.it .seq (.cons (.var 1) .nil)) (.lit (.bool true)) ce__law_is_joined_1)
abbrev ce__law_is_joined_2 : E := (.op .isin (.cons (.var 7) (.cons (.var 3) .nil)))
abbrev lc__law_is_joined_2 : E := (.lc [7] (.name 7) (.it .seq (.cons (.var 6) .nil)) (.lit (.bool true)) ce__law_is_joined_2)
abbrev cc__law_is_joined_1 : E := (.or (.op .isin (.cons (.var 5) (.cons (.var 1) .nil))) (.op .any (.cons lc__law_is_joined_2 .nil)))
abbrev lc__law_is_joined_3 : E := (.lc [5, 6] (.tup [5, 6]) (.it .enum (.cons (.var 0) .nil)) cc__law_is_joined_1 (.var 5))
abbrev fb__law_is_joined_1 : S := (.seq (.asg (.name 3) (.meth .join (.lit (dS [])) (.cons lc__law_is_joined_1 .nil))) (.asg (.name 1) lc__law_is_joined_3))
abbrev fo__law_is_joined_1 : S := (.for_ (.name 2) (.it .range1 (.cons (.op .len (.cons (.var 0) .nil)) .nil)) fb__law_is_joined_1)
def b__law_is_joined : S := (.seq (.asg (.name 1) (.op .mkl (.cons (.lit (.int 0)) .nil))) (.seq fo__law_is_joined_1 (.ret (.op .eq (.cons (.op .len (.cons (.var 1) .nil)) (.cons (.op .len (.cons (.var 0) .nil)) .nil))))))
abbrev ce__law_turned_1 : E := (.op .add (.cons (.slcL (.var 0) (.var 1)) (.cons (.slcH (.var 0) (.var 1)) .nil)))
abbrev lc__law_turned_1 : E := (.lc [1] (.name 1) (.it .range1 (.cons (.op .len (.cons (.var 0) .nil)) .nil)) (.lit (.bool true)) ce__law_turned_1)
def b__law_turned : S := (.ret (.op .min1 (.cons lc__law_turned_1 .nil)))
abbrev ce__law_lands_1 : E := (.op .item (.cons (.op .item (.cons (.var 0) (.cons (.var 3) .nil))) (.cons (.var 4) .nil)))
abbrev lc__law_lands_1 : E := (.lc [3, 4] (.tup [3, 4]) (.it .seq (.cons (.var 2) .nil)) (.lit (.bool true)) ce__law_lands_1)
abbrev fb__law_lands_1 : S := (.append 1 (.call 30 (.cons (.meth .join (.lit (dS [])) (.cons lc__law_lands_1 .nil)) .nil)))
abbrev fo__law_lands_1 : S := (.for_ (.name 2) (.it .seq (.cons (.call 25 (.cons (.var 0) .nil)) .nil)) fb__law_lands_1)
def b__law_lands : S := (.seq (.asgM 1 1 (.op .mkl .nil)) (.seq fo__law_lands_1 (.ret (.op .sorted (.cons (.var 1) .nil)))))
abbrev fb__law_copy_1 : S := (.seq (.asg (.name 5) (.callIO 18 0 (.cons (.peek (.op .len (.cons (.var 2) .nil))) .nil))) (.sto2 2 4 5 (.op .mkt (.cons (.oitem 2 (.var 5)) (.cons (.oitem 2 (.var 4)) .nil)))))
abbrev fo__law_copy_1 : S := (.for_ (.name 4) (.it .range1 (.cons (.peek (.op .len (.cons (.var 2) .nil))) .nil)) fb__law_copy_1)
abbrev ce__law_copy_1 : E := (.oitem 2 (.meth .sindex (.lit (dS [97, 98, 99, 100, 101, 102, 103, 104])) (.cons (.var 8) .nil)))
abbrev lc__law_copy_1 : E := (.lc [8] (.name 8) (.it .seq (.cons (.var 6) .nil)) (.lit (.bool true)) ce__law_copy_1)
abbrev fb__law_copy_2 : S := (.seq (.asg (.name 7) (.meth .join (.lit (dS [])) (.cons lc__law_copy_1 .nil))) (.seq (.asg (.name 4) (.callIO 18 0 (.cons (.op .len (.cons (.var 7) .nil)) .nil))) (.append 3 (.op .add (.cons (.slcL (.var 7) (.var 4)) (.cons (.slcH (.var 7) (.var 4)) .nil))))))
abbrev fo__law_copy_2 : S := (.for_ (.name 6) (.it .seq (.cons (.var 1) .nil)) fb__law_copy_2)
def b__law_copy : S := (.seq (.par [(2, 1), (3, 1)] (.cons (.op .list (.cons (.call 23 (.cons (.var 1) .nil)) .nil)) (.cons (.op .mkl .nil) .nil))) (.seq fo__law_copy_1 (.seq fo__law_copy_2 (.seq (.asg (.name 4) (.callIO 18 0 (.cons (.peek (.op .len (.cons (.var 3) .nil))) .nil))) (.ret (.op .tuple (.cons (.op .add (.cons (.slcL (.var 3) (.var 4)) (.cons (.slcH (.var 3) (.var 4)) .nil))) .nil)))))))
def b_partner : S := (.seq (.expr (.call 13 (.cons (.var 0) .nil))) (.ret (.call 14 (.cons (.var 0) .nil))))
abbrev ce_turned_from_1 : E := (.op .mkt (.cons (.var 2) (.cons (.op .mod (.cons (.op .add (.cons (.var 3) (.cons (.var 5) .nil))) (.cons (.var 4) .nil))) .nil)))
abbrev lc_turned_from_1 : E := (.lc [5] (.name 5) (.it .range1 (.cons (.var 4) .nil)) (.lit (.bool true)) ce_turned_from_1)
def b_turned_from : S := (.seq (.asg (.tup [2, 3]) (.var 1)) (.seq (.asg (.name 4) (.op .len (.cons (.op .item (.cons (.var 0) (.cons (.var 2) .nil))) .nil))) (.ret lc_turned_from_1)))
abbrev fb_next_point_1 : S := (.seq (.asg (.name 5) (.call 3 (.cons (.var 0) (.cons (.var 4) .nil)))) (.ifs (.op .notin (.cons (.op .item (.cons (.var 5) (.cons (.lit (.int 0)) .nil))) (.cons (.var 2) .nil))) (.ret (.var 5)) .skip))
abbrev fo_next_point_1 : S := (.for_ (.name 4) (.it .seq (.cons (.var 3) .nil)) fb_next_point_1)
abbrev fo_next_point_2 : S := (.for_ (.name 3) (.it .seq (.cons (.var 1) .nil)) fo_next_point_1)
def b_next_point : S := (.seq fo_next_point_2 (.ret (.lit .none)))
abbrev wc_reading_1 : E := (.op .notN (.cons (.var 4) .nil))
abbrev wb_reading_1 : S := (.seq (.append 2 (.call 34 (.cons (.var 0) (.cons (.var 4) .nil)))) (.seq (.append 3 (.op .item (.cons (.var 4) (.cons (.lit (.int 0)) .nil)))) (.asg (.name 4) (.peek (.call 35 (.cons (.var 0) (.cons (.var 2) (.cons (.var 3) .nil))))))))
abbrev wh_reading_1 : S := (.while_ 200 wc_reading_1 wb_reading_1)
abbrev fb_reading_1 : S := (.seq (.asg (.name 10) (.call 2 (.cons (.var 0) (.cons (.var 9) .nil)))) (.seq (.asg (.name 5) (.ife (.op .isin (.cons (.var 10) (.cons (.var 5) .nil))) (.var 5) (.op .add (.cons (.var 5) (.cons (.var 10) .nil))))) (.asg (.name 8) (.op .add (.cons (.var 8) (.cons (.op .item (.cons (.lit (dS [97, 98, 99, 100, 101, 102, 103, 104])) (.cons (.meth .sindex (.var 5) (.cons (.var 10) .nil)) .nil))) .nil))))))
abbrev fo_reading_1 : S := (.for_ (.name 9) (.it .seq (.cons (.var 7) .nil)) fb_reading_1)
abbrev fb_reading_2 : S := (.seq (.asg (.name 8) (.lit (dS []))) (.seq fo_reading_1 (.append 6 (.var 8))))
abbrev fo_reading_2 : S := (.for_ (.name 7) (.it .seq (.cons (.var 2) .nil)) fb_reading_2)
def b_reading : S := (.seq (.par [(2, 1), (3, 1)] (.cons (.op .mkl (.cons (.call 34 (.cons (.var 0) (.cons (.var 1) .nil))) .nil)) (.cons (.op .mkl (.cons (.op .item (.cons (.var 1) (.cons (.lit (.int 0)) .nil))) .nil)) .nil))) (.seq (.asg (.name 4) (.peek (.call 35 (.cons (.var 0) (.cons (.var 2) (.cons (.var 3) .nil)))))) (.seq wh_reading_1 (.seq (.par [(5, 0), (6, 1)] (.cons (.lit (dS [])) (.cons (.op .mkl .nil) .nil))) (.seq fo_reading_2 (.ret (.op .mkt (.cons (.op .tuple (.cons (.var 6) .nil)) (.cons (.var 5) .nil)))))))))
abbrev ce_renamings_1 : E := (.op .item (.cons (.var 7) (.cons (.meth .sindex (.var 3) (.cons (.var 8) .nil)) .nil)))
abbrev lc_renamings_1 : E := (.lc [8] (.name 8) (.it .seq (.cons (.call 11 (.cons (.var 0) .nil)) .nil)) (.lit (.bool true)) ce_renamings_1)
abbrev fb_renamings_1 : S := (.seq (.asg (.tup [6, 7]) (.call 36 (.cons (.var 1) (.cons (.var 5) .nil)))) (.ifs (.op .eq (.cons (.var 6) (.cons (.var 2) .nil))) (.dput 4 (.meth .join (.lit (dS [])) (.cons lc_renamings_1 .nil)) (.lit (.bool true))) .skip))
abbrev fo_renamings_1 : S := (.for_ (.name 5) (.it .seq (.cons (.call 1 (.cons (.var 1) .nil)) .nil)) fb_renamings_1)
def b_renamings : S := (.seq (.asg (.tup [2, 3]) (.call 36 (.cons (.var 0) (.cons (.op .mkt (.cons (.lit (.int 0)) (.cons (.lit (.int 0)) .nil))) .nil)))) (.seq (.asgM 4 3 (.lit (.dict []))) (.seq fo_renamings_1 (.ret (.op .sorted (.cons (.dkeys 4) .nil))))))
def b_renaming : S := (.seq (.expr (.call 13 (.cons (.var 0) .nil))) (.seq (.expr (.call 13 (.cons (.var 1) .nil))) (.seq (.asg (.name 2) (.call 37 (.cons (.var 0) (.cons (.var 1) .nil)))) (.ret (.ife (.op .ne (.cons (.var 2) (.cons (.op .mkl .nil) .nil))) (.op .item (.cons (.var 2) (.cons (.lit (.int 0)) .nil))) (.lit .none))))))
def b_are_same : S := (.ret (.op .notN (.cons (.call 38 (.cons (.var 0) (.cons (.var 1) .nil))) .nil)))
abbrev ce_mirror_1 : E := (.op .rev (.cons (.var 1) .nil))
abbrev lc_mirror_1 : E := (.lc [1] (.name 1) (.it .seq (.cons (.var 0) .nil)) (.lit (.bool true)) ce_mirror_1)
def b_mirror : S := (.seq (.expr (.call 13 (.cons (.var 0) .nil))) (.ret (.op .tuple (.cons lc_mirror_1 .nil))))
abbrev ce_least_form_1 : E := (.op .item (.cons (.call 36 (.cons (.var 0) (.cons (.var 1) .nil))) (.cons (.lit (.int 0)) .nil)))
abbrev lc_least_form_1 : E := (.lc [1] (.name 1) (.it .seq (.cons (.call 1 (.cons (.var 0) .nil)) .nil)) (.lit (.bool true)) ce_least_form_1)
def b_least_form : S := (.seq (.expr (.call 13 (.cons (.var 0) .nil))) (.ret (.op .min1 (.cons lc_least_form_1 .nil))))
def b_need_border : S := (.ifs (.or (.op .not (.cons (.op .isstr (.cons (.var 1) .nil)) .nil)) (.or (.op .ne (.cons (.op .len (.cons (.var 1) .nil)) (.cons (.lit (.int 1)) .nil))) (.op .notin (.cons (.var 1) (.cons (.call 11 (.cons (.var 0) .nil)) .nil))))) (.raise 1) .skip)
def b_lands_of : S := (.ret (.call 10 (.cons (.call 14 (.cons (.var 0) .nil)) (.cons (.var 1) .nil))))
def b_between : S := (.seq (.expr (.call 13 (.cons (.var 0) .nil))) (.seq (.expr (.call 42 (.cons (.var 0) (.cons (.var 1) .nil)))) (.ret (.call 43 (.cons (.var 0) (.cons (.var 1) .nil))))))
def b_ends_of : S := (.seq (.expr (.call 13 (.cons (.var 0) .nil))) (.seq (.expr (.call 42 (.cons (.var 0) (.cons (.var 1) .nil)))) (.ret (.call 10 (.cons (.var 0) (.cons (.var 1) .nil))))))
abbrev ce_subsets_1 : E := (.op .add (.cons (.var 3) (.cons (.var 2) .nil)))
abbrev lc_subsets_1 : E := (.lc [3] (.name 3) (.it .seq (.cons (.var 1) .nil)) (.lit (.bool true)) ce_subsets_1)
abbrev fb_subsets_1 : S := (.asg (.name 1) (.op .add (.cons (.var 1) (.cons lc_subsets_1 .nil))))
abbrev fo_subsets_1 : S := (.for_ (.name 2) (.it .seq (.cons (.var 0) .nil)) fb_subsets_1)
def b_subsets : S := (.seq (.asg (.name 1) (.op .mkl (.cons (.lit (dS [])) .nil))) (.seq fo_subsets_1 (.ret (.var 1))))
def b_joins : S := (.ret (.op .eq (.cons (.op .len (.cons (.call 8 (.cons (.var 1) (.cons (.lit (.int 0)) .nil))) .nil)) (.cons (.var 0) .nil))))
abbrev de_pair_table_1 : E := (.call 10 (.cons (.var 0) (.cons (.var 1) .nil)))
abbrev dc_pair_table_1 : E := (.dc [1] (.name 1) (.it .seq (.cons (.call 11 (.cons (.var 0) .nil)) .nil)) (.var 1) de_pair_table_1)
def b_pair_table : S := (.ret dc_pair_table_1)
abbrev cc_is_least_cut_1 : E := (.op .notin (.cons (.var 5) (.cons (.var 3) .nil)))
abbrev ce_is_least_cut_1 : E := (.op .dget (.cons (.var 1) (.cons (.var 5) .nil)))
abbrev lc_is_least_cut_1 : E := (.lc [5] (.name 5) (.it .seq (.cons (.var 2) .nil)) cc_is_least_cut_1 ce_is_least_cut_1)
abbrev ce_is_least_cut_2 : E := (.call 47 (.cons (.var 0) (.cons (.op .add (.cons (.var 4) (.cons (.op .mkl (.cons (.op .dget (.cons (.var 1) (.cons (.var 5) .nil))) .nil)) .nil))) .nil)))
abbrev lc_is_least_cut_2 : E := (.lc [5] (.name 5) (.it .seq (.cons (.var 3) .nil)) (.lit (.bool true)) ce_is_least_cut_2)
def b_is_least_cut : S := (.seq (.asg (.name 4) lc_is_least_cut_1) (.ret (.and (.op .not (.cons (.call 47 (.cons (.var 0) (.cons (.var 4) .nil))) .nil)) (.op .all (.cons lc_is_least_cut_2 .nil)))))
abbrev cc_least_cuts_1 : E := (.call 49 (.cons (.var 3) (.cons (.var 1) (.cons (.var 2) (.cons (.var 4) .nil)))))
abbrev lc_least_cuts_1 : E := (.lc [4] (.name 4) (.it .seq (.cons (.call 46 (.cons (.var 2) .nil)) .nil)) cc_least_cuts_1 (.var 4))
def b_least_cuts : S := (.seq (.expr (.call 13 (.cons (.var 0) .nil))) (.seq (.par [(1, 0), (2, 0), (3, 0)] (.cons (.call 48 (.cons (.var 0) .nil)) (.cons (.call 11 (.cons (.var 0) .nil)) (.cons (.op .len (.cons (.var 0) .nil)) .nil)))) (.ret (.op .tuple (.cons (.op .sorted (.cons lc_least_cuts_1 .nil)) .nil)))))
abbrev ce__law_leads_1 : E := (.op .item (.cons (.var 2) (.cons (.meth .sindex (.lit (dS [97, 98, 99, 100, 101, 102, 103, 104])) (.cons (.var 4) .nil)) .nil)))
abbrev lc__law_leads_1 : E := (.lc [4] (.name 4) (.it .seq (.cons (.var 5) .nil)) (.lit (.bool true)) ce__law_leads_1)
abbrev ce__law_leads_2 : E := (.call 30 (.cons (.meth .join (.lit (dS [])) (.cons lc__law_leads_1 .nil)) .nil))
abbrev lc__law_leads_2 : E := (.lc [5] (.name 5) (.it .seq (.cons (.var 0) .nil)) (.lit (.bool true)) ce__law_leads_2)
abbrev ce__law_leads_3 : E := (.call 30 (.cons (.var 5) .nil))
abbrev lc__law_leads_3 : E := (.lc [5] (.name 5) (.it .seq (.cons (.var 1) .nil)) (.lit (.bool true)) ce__law_leads_3)
def b__law_leads : S := (.seq (.ifs (.or (.op .ne (.cons (.op .sorted (.cons (.var 2) .nil)) (.cons (.op .sorted (.cons (.call 23 (.cons (.var 0) .nil)) .nil)) .nil))) (.op .ne (.cons (.op .len (.cons (.var 0) .nil)) (.cons (.op .len (.cons (.var 1) .nil)) .nil)))) (.ret (.lit (.bool false))) .skip) (.seq (.asg (.name 3) lc__law_leads_2) (.ret (.op .eq (.cons (.op .sorted (.cons (.var 3) .nil)) (.cons (.op .sorted (.cons lc__law_leads_3 .nil)) .nil))))))
abbrev cc__law_orders_1 : E := (.op .notin (.cons (.var 5) (.cons (.var 4) .nil)))
abbrev ce__law_orders_1 : E := (.op .add (.cons (.var 4) (.cons (.var 5) .nil)))
abbrev lc__law_orders_1 : E := (.lc [5] (.name 5) (.it .seq (.cons (.var 0) .nil)) cc__law_orders_1 ce__law_orders_1)
abbrev fb__law_orders_1 : S := (.asg (.name 3) (.op .add (.cons (.var 3) (.cons lc__law_orders_1 .nil))))
abbrev fo__law_orders_1 : S := (.for_ (.name 4) (.it .seq (.cons (.var 1) .nil)) fb__law_orders_1)
abbrev fb__law_orders_2 : S := (.seq (.asg (.name 3) (.op .mkl .nil)) (.seq fo__law_orders_1 (.asg (.name 1) (.var 3))))
abbrev fo__law_orders_2 : S := (.for_ (.name 2) (.it .seq (.cons (.var 0) .nil)) fb__law_orders_2)
def b__law_orders : S := (.seq (.asg (.name 1) (.op .mkl (.cons (.lit (dS [])) .nil))) (.seq fo__law_orders_2 (.ret (.var 1))))
abbrev ce__law_reading_1 : E := (.op .mkt (.cons (.var 5) (.cons (.op .mod (.cons (.op .add (.cons (.var 6) (.cons (.var 8) .nil))) (.cons (.var 7) .nil))) .nil)))
abbrev lc__law_reading_1 : E := (.lc [8] (.name 8) (.it .range1 (.cons (.var 7) .nil)) (.lit (.bool true)) ce__law_reading_1)
abbrev cc__law_reading_1 : E := (.and (.op .ne (.cons (.var 14) (.cons (.op .mkt (.cons (.var 10) (.cons (.var 11) .nil))) .nil))) (.op .eq (.cons (.op .item (.cons (.op .item (.cons (.var 0) (.cons (.op .item (.cons (.var 14) (.cons (.lit (.int 0)) .nil))) .nil))) (.cons (.op .item (.cons (.var 14) (.cons (.lit (.int 1)) .nil))) .nil))) (.cons (.var 12) .nil))))
abbrev lc__law_reading_2 : E := (.lc [14] (.name 14) (.it .seq (.cons (.call 22 (.cons (.var 0) .nil)) .nil)) cc__law_reading_1 (.var 14))
abbrev fb__law_reading_1 : S := (.seq (.asg (.name 12) (.op .item (.cons (.op .item (.cons (.var 0) (.cons (.var 10) .nil))) (.cons (.var 11) .nil)))) (.seq (.asg (.name 4) (.ife (.op .isin (.cons (.var 12) (.cons (.var 4) .nil))) (.var 4) (.op .add (.cons (.var 4) (.cons (.var 12) .nil))))) (.seq (.asg (.name 13) (.op .item (.cons lc__law_reading_2 (.cons (.lit (.int 0)) .nil)))) (.ifs (.and (.peek (.op .notin (.cons (.op .item (.cons (.var 13) (.cons (.lit (.int 0)) .nil))) (.cons (.var 3) .nil)))) (.op .isN (.cons (.var 1) .nil))) (.asg (.name 1) (.var 13)) .skip))))
abbrev fo__law_reading_1 : S := (.for_ (.tup [10, 11]) (.it .seq (.cons (.var 9) .nil)) fb__law_reading_1)
abbrev fo__law_reading_2 : S := (.forO 2 (.name 9) fo__law_reading_1)
abbrev wc__law_reading_1 : E := (.op .notN (.cons (.var 1) .nil))
abbrev wb__law_reading_1 : S := (.seq (.asg (.tup [5, 6]) (.var 1)) (.seq (.asg (.name 7) (.op .len (.cons (.op .item (.cons (.var 0) (.cons (.var 5) .nil))) .nil))) (.seq (.append 2 lc__law_reading_1) (.seq (.append 3 (.var 5)) (.seq (.asg (.name 1) (.lit .none)) fo__law_reading_2)))))
abbrev wh__law_reading_1 : S := (.while_ 200 wc__law_reading_1 wb__law_reading_1)
abbrev ce__law_reading_2 : E := (.op .item (.cons (.lit (dS [97, 98, 99, 100, 101, 102, 103, 104])) (.cons (.meth .sindex (.var 4) (.cons (.op .item (.cons (.op .item (.cons (.var 0) (.cons (.var 5) .nil))) (.cons (.var 6) .nil))) .nil)) .nil)))
abbrev lc__law_reading_3 : E := (.lc [5, 6] (.tup [5, 6]) (.it .seq (.cons (.var 9) .nil)) (.lit (.bool true)) ce__law_reading_2)
abbrev fb__law_reading_2 : S := (.append 15 (.meth .join (.lit (dS [])) (.cons lc__law_reading_3 .nil)))
abbrev fo__law_reading_3 : S := (.forO 2 (.name 9) fb__law_reading_2)
def b__law_reading : S := (.seq (.par [(2, 1), (3, 1), (4, 0)] (.cons (.op .mkl .nil) (.cons (.op .mkl .nil) (.cons (.lit (dS [])) .nil)))) (.seq wh__law_reading_1 (.seq (.asgM 15 1 (.op .mkl .nil)) (.seq fo__law_reading_3 (.ret (.op .tuple (.cons (.var 15) .nil)))))))
def b_count_symmetries : S := (.seq (.expr (.call 13 (.cons (.var 0) .nil))) (.ret (.op .len (.cons (.call 37 (.cons (.var 0) (.cons (.var 0) .nil))) .nil))))
abbrev lc_neighbours_before_1 : E := (.lc [3] (.name 3) (.it .seq (.cons (.var 1) .nil)) (.lit (.bool true)) (.op .mkl .nil))
abbrev fb_neighbours_before_1 : S := (.ifs (.op .ne (.cons (.var 4) (.cons (.var 5) .nil))) (.store 2 (.var 5) (.op .add (.cons (.oitem 2 (.var 5)) (.cons (.op .mkl (.cons (.var 4) .nil)) .nil)))) .skip)
abbrev fo_neighbours_before_1 : S := (.for_ (.tup [4, 5]) (.it .seq (.cons (.call 9 (.cons (.var 1) (.cons (.call 11 (.cons (.var 0) .nil)) .nil))) .nil)) fb_neighbours_before_1)
def b_neighbours_before : S := (.seq (.asg (.name 1) (.call 14 (.cons (.var 0) .nil))) (.seq (.asgM 2 1 lc_neighbours_before_1) (.seq fo_neighbours_before_1 (.ret (.var 2)))))
abbrev ce_coloured_1 : E := (.op .eq (.cons (.op .item (.cons (.var 2) (.cons (.var 5) .nil))) (.cons (.var 4) .nil)))
abbrev lc_coloured_1 : E := (.lc [5] (.name 5) (.it .seq (.cons (.op .item (.cons (.var 0) (.cons (.var 3) .nil))) .nil)) (.lit (.bool true)) ce_coloured_1)
abbrev fb_coloured_1 : S := (.ifs (.op .not (.cons (.op .any (.cons lc_coloured_1 .nil)) .nil)) (.seq (.asg (.name 6) (.call 56 (.cons (.var 0) (.cons (.var 1) (.cons (.op .add (.cons (.var 2) (.cons (.op .mkt (.cons (.var 4) .nil)) .nil))) .nil))))) (.ifs (.op .notN (.cons (.var 6) .nil)) (.ret (.var 6)) .skip)) .skip)
abbrev fo_coloured_1 : S := (.for_ (.name 4) (.it .range1 (.cons (.var 1) .nil)) fb_coloured_1)
def b_coloured : S := (.seq (.asg (.name 3) (.op .len (.cons (.var 2) .nil))) (.seq (.ifs (.op .eq (.cons (.var 3) (.cons (.op .len (.cons (.var 0) .nil)) .nil))) (.ret (.var 2)) .skip) (.seq fo_coloured_1 (.ret (.lit .none)))))
abbrev cc_fewest_colours_1 : E := (.op .notN (.cons (.call 56 (.cons (.var 1) (.cons (.var 2) (.cons (.op .mkt .nil) .nil)))) .nil))
abbrev lc_fewest_colours_1 : E := (.lc [2] (.name 2) (.it .range2 (.cons (.lit (.int 1)) (.cons (.lit (.int 6)) .nil))) cc_fewest_colours_1 (.var 2))
def b_fewest_colours : S := (.seq (.expr (.call 13 (.cons (.var 0) .nil))) (.seq (.asg (.name 1) (.call 55 (.cons (.var 0) .nil))) (.ret (.op .item (.cons lc_fewest_colours_1 (.cons (.lit (.int 0)) .nil))))))
abbrev ce_is_joining_tree_1 : E := (.op .dget (.cons (.var 1) (.cons (.var 3) .nil)))
abbrev lc_is_joining_tree_1 : E := (.lc [3] (.name 3) (.it .seq (.cons (.var 2) .nil)) (.lit (.bool true)) ce_is_joining_tree_1)
def b_is_joining_tree : S := (.ret (.and (.op .eq (.cons (.op .len (.cons (.var 2) .nil)) (.cons (.op .sub (.cons (.var 0) (.cons (.lit (.int 1)) .nil))) .nil))) (.call 47 (.cons (.var 0) (.cons lc_is_joining_tree_1 .nil)))))
abbrev cc_trees_1 : E := (.call 58 (.cons (.op .len (.cons (.var 0) .nil)) (.cons (.var 1) (.cons (.var 2) .nil))))
abbrev lc_trees_1 : E := (.lc [2] (.name 2) (.it .seq (.cons (.call 46 (.cons (.call 11 (.cons (.var 0) .nil)) .nil)) .nil)) cc_trees_1 (.var 2))
def b_trees : S := (.seq (.expr (.call 13 (.cons (.var 0) .nil))) (.seq (.asg (.name 1) (.call 48 (.cons (.var 0) .nil))) (.ret (.op .tuple (.cons (.op .sorted (.cons lc_trees_1 .nil)) .nil)))))
abbrev ce_is_round_1 : E := (.op .dget (.cons (.var 0) (.cons (.var 4) .nil)))
abbrev lc_is_round_1 : E := (.lc [4] (.name 4) (.it .seq (.cons (.var 1) .nil)) (.lit (.bool true)) ce_is_round_1)
abbrev fb_is_round_1 : S := (.asg (.name 3) (.op .add (.cons (.var 3) (.cons (.op .list (.cons (.var 5) .nil)) .nil))))
abbrev fo_is_round_1 : S := (.for_ (.name 5) (.it .seq (.cons (.var 2) .nil)) fb_is_round_1)
abbrev ce_is_round_2 : E := (.op .eq (.cons (.lmeth .lcount (.var 3) (.cons (.var 6) .nil)) (.cons (.lit (.int 2)) .nil)))
abbrev lc_is_round_2 : E := (.lc [6] (.name 6) (.it .seq (.cons (.var 3) .nil)) (.lit (.bool true)) ce_is_round_2)
def b_is_round : S := (.seq (.asg (.tup [2, 3]) (.op .mkt (.cons lc_is_round_1 (.cons (.op .mkl .nil) .nil)))) (.seq fo_is_round_1 (.seq (.ifs (.or (.op .eq (.cons (.var 1) (.cons (.lit (dS [])) .nil))) (.op .not (.cons (.op .all (.cons lc_is_round_2 .nil)) .nil))) (.ret (.lit (.bool false))) .skip) (.ret (.op .eq (.cons (.op .len (.cons (.call 8 (.cons (.var 2) (.cons (.op .item (.cons (.var 3) (.cons (.lit (.int 0)) .nil))) .nil))) .nil)) (.cons (.op .len (.cons (.var 1) .nil)) .nil)))))))
abbrev cc_round_ways_1 : E := (.call 60 (.cons (.var 1) (.cons (.var 2) .nil)))
abbrev lc_round_ways_1 : E := (.lc [2] (.name 2) (.it .seq (.cons (.call 46 (.cons (.call 11 (.cons (.var 0) .nil)) .nil)) .nil)) cc_round_ways_1 (.var 2))
def b_round_ways : S := (.seq (.expr (.call 13 (.cons (.var 0) .nil))) (.seq (.asg (.name 1) (.call 48 (.cons (.var 0) .nil))) (.ret (.op .tuple (.cons (.op .sorted (.cons lc_round_ways_1 .nil)) .nil)))))
def b_is_whole : S := (.ret (.and (.op .isint (.cons (.var 0) .nil)) (.and (.op .not (.cons (.op .isbool (.cons (.var 0) .nil)) .nil)) (.chain .le .le (.var 1) (.var 0) (.var 2)))))
def b_need_count : S := (.ifs (.op .not (.cons (.call 62 (.cons (.var 0) (.cons (.lit (.int 1)) (.cons (.lit (.int 5)) .nil)))) .nil)) (.raise 5) .skip)
abbrev ce_is_colouring_1 : E := (.call 62 (.cons (.var 4) (.cons (.lit (.int 0)) (.cons (.op .sub (.cons (.var 1) (.cons (.lit (.int 1)) .nil))) .nil))))
abbrev lc_is_colouring_1 : E := (.lc [4] (.name 4) (.it .seq (.cons (.var 2) .nil)) (.lit (.bool true)) ce_is_colouring_1)
abbrev ce_is_colouring_2 : E := (.op .eq (.cons (.op .item (.cons (.var 2) (.cons (.var 5) .nil))) (.cons (.op .item (.cons (.var 2) (.cons (.var 6) .nil))) .nil)))
abbrev lc_is_colouring_2 : E := (.lc [5] (.name 5) (.it .seq (.cons (.var 7) .nil)) (.lit (.bool true)) ce_is_colouring_2)
abbrev ce_is_colouring_3 : E := (.op .not (.cons (.op .any (.cons lc_is_colouring_2 .nil)) .nil))
abbrev lc_is_colouring_3 : E := (.lc [6, 7] (.tup [6, 7]) (.it .enum (.cons (.var 3) .nil)) (.lit (.bool true)) ce_is_colouring_3)
def b_is_colouring : S := (.seq (.expr (.call 13 (.cons (.var 0) .nil))) (.seq (.expr (.call 63 (.cons (.var 1) .nil))) (.seq (.asg (.name 3) (.call 55 (.cons (.var 0) .nil))) (.seq (.ifs (.or (.op .not (.cons (.op .istup (.cons (.var 2) .nil)) .nil)) (.op .ne (.cons (.op .len (.cons (.var 2) .nil)) (.cons (.op .len (.cons (.var 3) .nil)) .nil)))) (.ret (.lit (.bool false))) .skip) (.seq (.ifs (.op .not (.cons (.op .all (.cons lc_is_colouring_1 .nil)) .nil)) (.ret (.lit (.bool false))) .skip) (.ret (.op .all (.cons lc_is_colouring_3 .nil))))))))
def b_colouring : S := (.seq (.expr (.call 13 (.cons (.var 0) .nil))) (.seq (.expr (.call 63 (.cons (.var 1) .nil))) (.ret (.call 56 (.cons (.call 55 (.cons (.var 0) .nil)) (.cons (.var 1) (.cons (.op .mkt .nil) .nil)))))))
abbrev ce__law_good_1 : E := (.chain .le .lt (.lit (.int 0)) (.var 4) (.var 1))
abbrev lc__law_good_1 : E := (.lc [4] (.name 4) (.it .seq (.cons (.var 2) .nil)) (.lit (.bool true)) ce__law_good_1)
abbrev cc__law_good_1 : E := (.op .isin (.cons (.var 5) (.cons (.var 8) .nil)))
abbrev lc__law_good_2 : E := (.lc [7, 8] (.tup [7, 8]) (.it .enum (.cons (.var 3) .nil)) cc__law_good_1 (.var 7))
abbrev fb__law_good_1 : S := (.seq (.asg (.name 6) lc__law_good_2) (.ifs (.and (.op .eq (.cons (.op .len (.cons (.var 6) .nil)) (.cons (.lit (.int 2)) .nil))) (.op .eq (.cons (.op .item (.cons (.var 2) (.cons (.op .item (.cons (.var 6) (.cons (.lit (.int 0)) .nil))) .nil))) (.cons (.op .item (.cons (.var 2) (.cons (.op .item (.cons (.var 6) (.cons (.lit (.int 1)) .nil))) .nil))) .nil)))) (.ret (.lit (.bool false))) .skip))
abbrev fo__law_good_1 : S := (.for_ (.name 5) (.it .seq (.cons (.call 23 (.cons (.var 0) .nil)) .nil)) fb__law_good_1)
def b__law_good : S := (.seq (.asg (.name 3) (.call 31 (.cons (.var 0) .nil))) (.seq (.ifs (.or (.op .ne (.cons (.op .len (.cons (.var 2) .nil)) (.cons (.op .len (.cons (.var 3) .nil)) .nil))) (.op .not (.cons (.op .all (.cons lc__law_good_1 .nil)) .nil))) (.ret (.lit (.bool false))) .skip) (.seq fo__law_good_1 (.ret (.lit (.bool true))))))
abbrev fb__law_near_1 : S := (.seq (.asg (.tup [3, 4]) (.call 44 (.cons (.var 0) (.cons (.var 2) .nil)))) (.ifs (.op .ne (.cons (.var 3) (.cons (.var 4) .nil))) (.append 1 (.op .mkt (.cons (.var 3) (.cons (.var 4) .nil)))) .skip))
abbrev fo__law_near_1 : S := (.for_ (.name 2) (.it .seq (.cons (.call 23 (.cons (.var 0) .nil)) .nil)) fb__law_near_1)
def b__law_near : S := (.seq (.asgM 1 1 (.op .mkl .nil)) (.seq fo__law_near_1 (.ret (.var 1))))
abbrev cc__law_first_1 : E := (.op .eq (.cons (.var 9) (.cons (.var 4) .nil)))
abbrev ce__law_first_1 : E := (.op .item (.cons (.var 6) (.cons (.var 8) .nil)))
abbrev lc__law_first_1 : E := (.lc [8, 9] (.tup [8, 9]) (.it .seq (.cons (.var 0) .nil)) cc__law_first_1 ce__law_first_1)
abbrev cc__law_first_2 : E := (.op .notin (.cons (.var 10) (.cons (.var 7) .nil)))
abbrev ce__law_first_2 : E := (.op .add (.cons (.var 6) (.cons (.op .mkt (.cons (.var 10) .nil)) .nil)))
abbrev lc__law_first_2 : E := (.lc [10] (.name 10) (.it .range1 (.cons (.var 2) .nil)) cc__law_first_2 ce__law_first_2)
abbrev fb__law_first_1 : S := (.seq (.asg (.name 7) lc__law_first_1) (.asg (.name 5) (.op .add (.cons (.var 5) (.cons lc__law_first_2 .nil)))))
abbrev fo__law_first_1 : S := (.for_ (.name 6) (.it .seq (.cons (.var 3) .nil)) fb__law_first_1)
abbrev fb__law_first_2 : S := (.seq (.asg (.name 5) (.op .mkl .nil)) (.seq fo__law_first_1 (.asg (.name 3) (.var 5))))
abbrev fo__law_first_2 : S := (.for_ (.name 4) (.it .range1 (.cons (.var 1) .nil)) fb__law_first_2)
def b__law_first : S := (.seq (.asg (.name 3) (.op .mkl (.cons (.op .mkt .nil) .nil))) (.seq fo__law_first_2 (.ret (.ife (.op .ne (.cons (.var 3) (.cons (.op .mkl .nil) .nil))) (.op .item (.cons (.var 3) (.cons (.lit (.int 0)) .nil))) (.lit .none)))))
abbrev ce_groupings_1 : E := (.op .eq (.cons (.op .item (.cons (.var 1) (.cons (.var 6) .nil))) (.cons (.var 5) .nil)))
abbrev lc_groupings_1 : E := (.lc [6] (.name 6) (.it .seq (.cons (.op .item (.cons (.var 0) (.cons (.var 2) .nil))) .nil)) (.lit (.bool true)) ce_groupings_1)
abbrev ce_groupings_2 : E := (.op .add (.cons (.var 9) (.cons (.op .item (.cons (.var 7) (.cons (.var 8) .nil))) .nil)))
abbrev lc_groupings_2 : E := (.lc [8, 9] (.tup [8, 9]) (.it .enum (.cons (.var 3) .nil)) (.lit (.bool true)) ce_groupings_2)
abbrev fb_groupings_1 : S := (.ifs (.op .not (.cons (.op .any (.cons lc_groupings_1 .nil)) .nil)) (.seq (.asg (.name 7) (.call 69 (.cons (.var 0) (.cons (.op .add (.cons (.var 1) (.cons (.op .mkt (.cons (.var 5) .nil)) .nil))) .nil)))) (.asgM 3 1 lc_groupings_2)) .skip)
abbrev fo_groupings_1 : S := (.for_ (.name 5) (.it .range1 (.cons (.op .add (.cons (.var 4) (.cons (.lit (.int 1)) .nil))) .nil)) fb_groupings_1)
def b_groupings : S := (.seq (.par [(2, 0), (3, 1)] (.cons (.op .len (.cons (.var 1) .nil)) (.cons (.op .mulL (.cons (.op .mkl (.cons (.lit (.int 0)) .nil)) (.cons (.lit (.int 10)) .nil))) .nil))) (.seq (.asg (.name 4) (.op .add (.cons (.op .max1 (.cons (.op .add (.cons (.op .mkt (.cons (.op .neg (.cons (.lit (.int 1)) .nil)) .nil)) (.cons (.var 1) .nil))) .nil)) (.cons (.lit (.int 1)) .nil)))) (.seq (.ifs (.op .eq (.cons (.var 2) (.cons (.op .len (.cons (.var 0) .nil)) .nil))) (.seq (.store 3 (.var 4) (.lit (.int 1))) (.ret (.var 3))) .skip) (.seq fo_groupings_1 (.ret (.var 3))))))
abbrev fb_count_colourings_1 : S := (.seq (.asg (.name 2) (.op .iadd (.cons (.var 2) (.cons (.op .mul (.cons (.var 5) (.cons (.var 3) .nil))) .nil)))) (.asg (.name 3) (.op .mul (.cons (.var 3) (.cons (.op .max2 (.cons (.lit (.int 0)) (.cons (.op .sub (.cons (.var 1) (.cons (.var 4) .nil))) .nil))) .nil)))))
abbrev fo_count_colourings_1 : S := (.for_ (.tup [4, 5]) (.it .enum (.cons (.call 69 (.cons (.call 55 (.cons (.var 0) .nil)) (.cons (.op .mkt .nil) .nil))) .nil)) fb_count_colourings_1)
def b_count_colourings : S := (.seq (.expr (.call 13 (.cons (.var 0) .nil))) (.seq (.expr (.call 63 (.cons (.var 1) .nil))) (.seq (.asg (.tup [2, 3]) (.op .mkt (.cons (.lit (.int 0)) (.cons (.lit (.int 1)) .nil)))) (.seq fo_count_colourings_1 (.ret (.var 2))))))
abbrev ce_renamed_1 : E := (.op .item (.cons (.lit (dS [97, 98, 99, 100, 101, 102, 103, 104])) (.cons (.lmeth .lindex (.var 1) (.cons (.var 4) .nil)) .nil)))
abbrev lc_renamed_1 : E := (.lc [4] (.name 4) (.it .seq (.cons (.var 3) .nil)) (.lit (.bool true)) ce_renamed_1)
abbrev fb_renamed_1 : S := (.ifs (.op .ne (.cons (.var 3) (.cons (.lit (dS [])) .nil))) (.append 2 (.meth .join (.lit (dS [])) (.cons lc_renamed_1 .nil))) .skip)
abbrev fo_renamed_1 : S := (.for_ (.name 3) (.it .seq (.cons (.var 0) .nil)) fb_renamed_1)
def b_renamed : S := (.seq (.asg (.name 1) (.op .ssetC (.cons (.meth .join (.lit (dS [])) (.cons (.var 0) .nil)) .nil))) (.seq (.asgM 2 1 (.op .mkl .nil)) (.seq fo_renamed_1 (.ret (.op .tuple (.cons (.var 2) .nil))))))
abbrev ce_taken_away_1 : E := (.meth .replace (.var 4) (.cons (.var 1) (.cons (.lit (dS [])) .nil)))
abbrev lc_taken_away_1 : E := (.lc [4] (.name 4) (.it .seq (.cons (.var 0) .nil)) (.lit (.bool true)) ce_taken_away_1)
def b_taken_away : S := (.seq (.asg (.tup [2, 3]) (.call 43 (.cons (.var 0) (.cons (.var 1) .nil)))) (.seq (.ifs (.op .eq (.cons (.var 2) (.cons (.var 3) .nil))) (.raise 7) .skip) (.seq (.ifs (.op .eq (.cons (.op .len (.cons (.call 11 (.cons (.var 0) .nil)) .nil)) (.cons (.lit (.int 1)) .nil))) (.raise 9) .skip) (.while_ 0 (.lit (.bool true)) .skip))))
def b_without : S := (.seq (.expr (.call 13 (.cons (.var 0) .nil))) (.seq (.expr (.call 42 (.cons (.var 0) (.cons (.var 1) .nil)))) (.ret (.call 72 (.cons (.var 0) (.cons (.var 1) .nil))))))
abbrev cc_pulled_1 : E := (.op .ne (.cons (.var 10) (.cons (.var 3) .nil)))
abbrev ce_pulled_1 : E := (.ife (.op .eq (.cons (.var 10) (.cons (.var 2) .nil))) (.var 8) (.var 11))
abbrev lc_pulled_1 : E := (.lc [10, 11] (.tup [10, 11]) (.it .enum (.cons (.var 0) .nil)) cc_pulled_1 ce_pulled_1)
def b_pulled : S := (.seq (.expr (.call 13 (.cons (.var 0) .nil))) (.seq (.expr (.call 42 (.cons (.var 0) (.cons (.var 1) .nil)))) (.seq (.asg (.tup [2, 3]) (.call 10 (.cons (.var 0) (.cons (.var 1) .nil)))) (.seq (.ifs (.op .eq (.cons (.var 2) (.cons (.var 3) .nil))) (.raise 8) .skip) (.seq (.ifs (.op .eq (.cons (.op .len (.cons (.call 11 (.cons (.var 0) .nil)) .nil)) (.cons (.lit (.int 1)) .nil))) (.raise 9) .skip) (.seq (.par [(4, 0), (5, 0)] (.cons (.op .item (.cons (.var 0) (.cons (.var 2) .nil))) (.cons (.op .item (.cons (.var 0) (.cons (.var 3) .nil))) .nil))) (.seq (.par [(6, 0), (7, 0)] (.cons (.meth .sindex (.var 4) (.cons (.var 1) .nil)) (.cons (.meth .sindex (.var 5) (.cons (.var 1) .nil)) .nil))) (.seq (.asg (.name 8) (.op .add (.cons (.op .add (.cons (.op .add (.cons (.slcH (.var 4) (.var 6)) (.cons (.slcL (.var 5) (.op .add (.cons (.var 7) (.cons (.lit (.int 1)) .nil)))) .nil))) (.cons (.slcH (.var 5) (.var 7)) .nil))) (.cons (.slcL (.var 4) (.op .add (.cons (.var 6) (.cons (.lit (.int 1)) .nil)))) .nil)))) (.seq (.asg (.name 9) lc_pulled_1) (.ret (.call 71 (.cons (.var 9) .nil))))))))))))
abbrev fb__law_count_1 : S := (.seq (.asg (.tup [6, 7]) (.call 44 (.cons (.var 0) (.cons (.var 5) .nil)))) (.ifs (.op .ne (.cons (.var 6) (.cons (.var 7) .nil))) (.append 3 (.op .mkt (.cons (.var 6) (.cons (.var 7) .nil)))) .skip))
abbrev fo__law_count_1 : S := (.for_ (.name 5) (.it .seq (.cons (.call 23 (.cons (.var 0) .nil)) .nil)) fb__law_count_1)
abbrev ce__law_count_1 : E := (.op .add (.cons (.var 6) (.cons (.op .mkt (.cons (.var 11) .nil)) .nil)))
abbrev lc__law_count_1 : E := (.lc [11] (.name 11) (.it .range1 (.cons (.var 1) .nil)) (.lit (.bool true)) ce__law_count_1)
abbrev fb__law_count_2 : S := (.asg (.name 10) (.op .add (.cons (.var 10) (.cons lc__law_count_1 .nil))))
abbrev fo__law_count_2 : S := (.for_ (.name 6) (.it .seq (.cons (.var 8) .nil)) fb__law_count_2)
abbrev fb__law_count_3 : S := (.seq (.asg (.name 10) (.op .mkl .nil)) (.seq fo__law_count_2 (.asg (.name 8) (.var 10))))
abbrev fo__law_count_3 : S := (.for_ (.name 9) (.it .range1 (.cons (.var 2) .nil)) fb__law_count_3)
abbrev ce__law_count_2 : E := (.op .ne (.cons (.op .item (.cons (.var 12) (.cons (.var 6) .nil))) (.cons (.op .item (.cons (.var 12) (.cons (.var 7) .nil))) .nil)))
abbrev lc__law_count_2 : E := (.lc [6, 7] (.tup [6, 7]) (.it .seq (.cons (.var 3) .nil)) (.lit (.bool true)) ce__law_count_2)
abbrev fb__law_count_4 : S := (.asg (.name 4) (.op .add (.cons (.var 4) (.cons (.op .int (.cons (.op .all (.cons lc__law_count_2 .nil)) .nil)) .nil))))
abbrev fo__law_count_4 : S := (.for_ (.name 12) (.it .seq (.cons (.var 8) .nil)) fb__law_count_4)
def b__law_count : S := (.seq (.par [(2, 0), (3, 1), (4, 0)] (.cons (.op .len (.cons (.call 15 (.cons (.var 0) .nil)) .nil)) (.cons (.op .mkl .nil) (.cons (.lit (.int 0)) .nil)))) (.seq fo__law_count_1 (.seq (.asg (.name 8) (.op .mkl (.cons (.op .mkt .nil) .nil))) (.seq fo__law_count_3 (.seq fo__law_count_4 (.ret (.var 4)))))))
def b_is_tree : S := (.seq (.expr (.call 13 (.cons (.var 0) .nil))) (.seq (.ifs (.or (.op .not (.cons (.op .isstr (.cons (.var 1) .nil)) .nil)) (.op .notin (.cons (.var 1) (.cons (.call 46 (.cons (.call 11 (.cons (.var 0) .nil)) .nil)) .nil)))) (.ret (.lit (.bool false))) .skip) (.ret (.call 58 (.cons (.op .len (.cons (.var 0) .nil)) (.cons (.call 48 (.cons (.var 0) .nil)) (.cons (.var 1) .nil)))))))
abbrev ce__law_subsets_1 : E := (.op .add (.cons (.var 3) (.cons (.var 2) .nil)))
abbrev lc__law_subsets_1 : E := (.lc [3] (.name 3) (.it .seq (.cons (.var 1) .nil)) (.lit (.bool true)) ce__law_subsets_1)
abbrev fb__law_subsets_1 : S := (.asg (.name 1) (.op .add (.cons (.var 1) (.cons lc__law_subsets_1 .nil))))
abbrev fo__law_subsets_1 : S := (.for_ (.name 2) (.it .seq (.cons (.var 0) .nil)) fb__law_subsets_1)
def b__law_subsets : S := (.seq (.asg (.name 1) (.op .mkl (.cons (.lit (dS [])) .nil))) (.seq fo__law_subsets_1 (.ret (.var 1))))
abbrev ce__law_is_tree_1 : E := (.op .isin (.cons (.var 5) (.cons (.op .item (.cons (.var 0) (.cons (.var 6) .nil))) .nil)))
abbrev lc__law_is_tree_1 : E := (.lc [6] (.name 6) (.it .seq (.cons (.var 2) .nil)) (.lit (.bool true)) ce__law_is_tree_1)
abbrev cc__law_is_tree_1 : E := (.op .any (.cons lc__law_is_tree_1 .nil))
abbrev lc__law_is_tree_2 : E := (.lc [5] (.name 5) (.it .seq (.cons (.var 1) .nil)) cc__law_is_tree_1 (.var 5))
abbrev ce__law_is_tree_2 : E := (.op .isin (.cons (.var 5) (.cons (.var 8) .nil)))
abbrev lc__law_is_tree_3 : E := (.lc [5] (.name 5) (.it .seq (.cons (.var 4) .nil)) (.lit (.bool true)) ce__law_is_tree_2)
abbrev cc__law_is_tree_2 : E := (.or (.op .isin (.cons (.var 7) (.cons (.var 2) .nil))) (.op .any (.cons lc__law_is_tree_3 .nil)))
abbrev lc__law_is_tree_4 : E := (.lc [7, 8] (.tup [7, 8]) (.it .enum (.cons (.var 0) .nil)) cc__law_is_tree_2 (.var 7))
abbrev fb__law_is_tree_1 : S := (.seq (.asg (.name 4) lc__law_is_tree_2) (.asg (.name 2) lc__law_is_tree_4))
abbrev fo__law_is_tree_1 : S := (.for_ (.name 3) (.it .seq (.cons (.var 0) .nil)) fb__law_is_tree_1)
def b__law_is_tree : S := (.seq (.ifs (.op .ne (.cons (.op .len (.cons (.var 1) .nil)) (.cons (.op .sub (.cons (.op .len (.cons (.var 0) .nil)) (.cons (.lit (.int 1)) .nil))) .nil))) (.ret (.lit (.bool false))) .skip) (.seq (.asg (.name 2) (.op .mkl (.cons (.lit (.int 0)) .nil))) (.seq fo__law_is_tree_1 (.ret (.op .eq (.cons (.op .len (.cons (.var 2) .nil)) (.cons (.op .len (.cons (.var 0) .nil)) .nil)))))))
abbrev fb__law_ends_at_1 : S := (.asg (.name 2) (.op .add (.cons (.var 2) (.cons (.op .mul (.cons (.op .mkl (.cons (.var 3) .nil)) (.cons (.meth .count (.var 4) (.cons (.var 1) .nil)) .nil))) .nil))))
abbrev fo__law_ends_at_1 : S := (.for_ (.tup [3, 4]) (.it .enum (.cons (.var 0) .nil)) fb__law_ends_at_1)
def b__law_ends_at : S := (.seq (.asg (.name 2) (.op .mkl .nil)) (.seq fo__law_ends_at_1 (.ret (.var 2))))
abbrev fb__law_round_ways_1 : S := (.seq (.asg (.lst [4, 5]) (.call 79 (.cons (.var 0) (.cons (.var 3) .nil)))) (.asg (.name 2) (.op .add (.cons (.var 2) (.cons (.op .mkl (.cons (.op .mkt (.cons (.var 3) (.cons (.var 4) (.cons (.var 5) .nil)))) (.cons (.op .mkt (.cons (.var 3) (.cons (.var 5) (.cons (.var 4) .nil)))) .nil))) .nil)))))
abbrev fo__law_round_ways_1 : S := (.for_ (.name 3) (.it .seq (.cons (.call 23 (.cons (.var 0) .nil)) .nil)) fb__law_round_ways_1)
abbrev fb__law_round_ways_2 : S := (.ifs (.and (.op .eq (.cons (.var 4) (.cons (.op .item (.cons (.var 11) (.cons (.op .neg (.cons (.lit (.int 1)) .nil)) .nil))) .nil))) (.op .notin (.cons (.var 3) (.cons (.var 10) .nil)))) (.ifs (.op .eq (.cons (.var 5) (.cons (.var 6) .nil))) (.append 1 (.meth .join (.lit (dS [])) (.cons (.op .sorted (.cons (.op .add (.cons (.var 10) (.cons (.var 3) .nil))) .nil)) .nil))) (.ifs (.op .notin (.cons (.var 5) (.cons (.var 11) .nil))) (.append 9 (.op .mkt (.cons (.op .add (.cons (.var 10) (.cons (.var 3) .nil))) (.cons (.op .add (.cons (.var 11) (.cons (.op .mkt (.cons (.var 5) .nil)) .nil))) .nil)))) .skip)) .skip)
abbrev fo__law_round_ways_2 : S := (.for_ (.tup [3, 4, 5]) (.it .seq (.cons (.var 2) .nil)) fb__law_round_ways_2)
abbrev fo__law_round_ways_3 : S := (.for_ (.tup [10, 11]) (.it .seq (.cons (.var 7) .nil)) fo__law_round_ways_2)
abbrev fb__law_round_ways_3 : S := (.seq (.asgM 9 1 (.op .mkl .nil)) (.seq fo__law_round_ways_3 (.asg (.name 7) (.var 9))))
abbrev fo__law_round_ways_4 : S := (.for_ (.name 8) (.it .range1 (.cons (.lit (.int 8)) .nil)) fb__law_round_ways_3)
abbrev fb__law_round_ways_4 : S := (.seq (.asg (.name 7) (.op .mkl (.cons (.op .mkt (.cons (.lit (dS [])) (.cons (.op .mkt (.cons (.var 6) .nil)) .nil))) .nil))) fo__law_round_ways_4)
abbrev fo__law_round_ways_5 : S := (.for_ (.name 6) (.it .range1 (.cons (.op .len (.cons (.var 0) .nil)) .nil)) fb__law_round_ways_4)
def b__law_round_ways : S := (.seq (.par [(1, 1), (2, 0)] (.cons (.op .mkl .nil) (.cons (.op .mkl .nil) .nil))) (.seq fo__law_round_ways_1 (.seq fo__law_round_ways_5 (.ret (.op .tuple (.cons (.op .ssetS (.cons (.var 1) .nil)) .nil))))))
abbrev ce__law_reached_1 : E := (.op .item (.cons (.var 0) (.cons (.var 7) .nil)))
abbrev lc__law_reached_1 : E := (.lc [7] (.name 7) (.it .seq (.cons (.var 3) .nil)) (.lit (.bool true)) ce__law_reached_1)
abbrev cc__law_reached_1 : E := (.op .notin (.cons (.var 6) (.cons (.var 2) .nil)))
abbrev lc__law_reached_2 : E := (.lc [6] (.name 6) (.it .seq (.cons (.meth .join (.lit (dS [])) (.cons lc__law_reached_1 .nil)) .nil)) cc__law_reached_1 (.var 6))
abbrev ce__law_reached_2 : E := (.op .isin (.cons (.var 6) (.cons (.var 8) .nil)))
abbrev lc__law_reached_3 : E := (.lc [6] (.name 6) (.it .seq (.cons (.var 5) .nil)) (.lit (.bool true)) ce__law_reached_2)
abbrev cc__law_reached_2 : E := (.or (.op .isin (.cons (.var 7) (.cons (.var 3) .nil))) (.op .any (.cons lc__law_reached_3 .nil)))
abbrev lc__law_reached_4 : E := (.lc [7, 8] (.tup [7, 8]) (.it .enum (.cons (.var 0) .nil)) cc__law_reached_2 (.var 7))
abbrev fb__law_reached_1 : S := (.seq (.asg (.name 5) lc__law_reached_2) (.asg (.name 3) lc__law_reached_4))
abbrev fo__law_reached_1 : S := (.for_ (.name 4) (.it .seq (.cons (.var 0) .nil)) fb__law_reached_1)
def b__law_reached : S := (.seq (.asg (.name 3) (.op .mkl (.cons (.var 1) .nil))) (.seq fo__law_reached_1 (.ret (.var 3))))
abbrev cc__law_is_least_1 : E := (.op .notin (.cons (.var 4) (.cons (.var 2) .nil)))
abbrev lc__law_is_least_1 : E := (.lc [4] (.name 4) (.it .range1 (.cons (.op .len (.cons (.var 0) .nil)) .nil)) cc__law_is_least_1 (.var 4))
abbrev cc__law_is_least_2 : E := (.op .isin (.cons (.var 5) (.cons (.var 7) .nil)))
abbrev lc__law_is_least_2 : E := (.lc [4, 7] (.tup [4, 7]) (.it .enum (.cons (.var 0) .nil)) cc__law_is_least_2 (.var 4))
abbrev fb__law_is_least_1 : S := (.seq (.asg (.name 6) lc__law_is_least_2) (.ifs (.or (.op .ne (.cons (.op .len (.cons (.var 6) .nil)) (.cons (.lit (.int 2)) .nil))) (.op .eq (.cons (.op .isin (.cons (.op .item (.cons (.var 6) (.cons (.lit (.int 0)) .nil))) (.cons (.var 2) .nil))) (.cons (.op .isin (.cons (.op .item (.cons (.var 6) (.cons (.lit (.int 1)) .nil))) (.cons (.var 2) .nil))) .nil)))) (.ret (.lit (.bool false))) .skip))
abbrev fo__law_is_least_1 : S := (.for_ (.name 5) (.it .seq (.cons (.var 1) .nil)) fb__law_is_least_1)
def b__law_is_least : S := (.seq (.asg (.name 2) (.call 81 (.cons (.var 0) (.cons (.lit (.int 0)) (.cons (.var 1) .nil))))) (.seq (.asg (.name 3) lc__law_is_least_1) (.seq (.ifs (.or (.op .eq (.cons (.var 3) (.cons (.op .mkl .nil) .nil))) (.op .ne (.cons (.op .len (.cons (.call 81 (.cons (.var 0) (.cons (.op .item (.cons (.var 3) (.cons (.lit (.int 0)) .nil))) (.cons (.var 1) .nil)))) .nil)) (.cons (.op .len (.cons (.var 3) .nil)) .nil)))) (.ret (.lit (.bool false))) .skip) (.seq fo__law_is_least_1 (.ret (.lit (.bool true)))))))
abbrev cc__law_less_1 : E := (.op .ne (.cons (.var 6) (.cons (.var 1) .nil)))
abbrev lc__law_less_1 : E := (.lc [6] (.name 6) (.it .seq (.cons (.var 4) .nil)) cc__law_less_1 (.var 6))
abbrev ce__law_less_1 : E := (.ife (.op .lt (.cons (.var 6) (.cons (.var 1) .nil))) (.var 6) (.op .item (.cons (.lit (dS [97, 98, 99, 100, 101, 102, 103, 104])) (.cons (.op .sub (.cons (.meth .sindex (.lit (dS [97, 98, 99, 100, 101, 102, 103, 104])) (.cons (.var 6) .nil)) (.cons (.lit (.int 1)) .nil))) .nil))))
abbrev lc__law_less_2 : E := (.lc [6] (.name 6) (.it .seq (.cons (.var 5) .nil)) (.lit (.bool true)) ce__law_less_1)
abbrev fb__law_less_1 : S := (.seq (.asg (.name 5) lc__law_less_1) (.append 3 (.meth .join (.lit (dS [])) (.cons lc__law_less_2 .nil))))
abbrev fo__law_less_1 : S := (.for_ (.name 4) (.it .seq (.cons (.var 0) .nil)) fb__law_less_1)
abbrev cc__law_less_2 : E := (.op .ne (.cons (.var 4) (.cons (.lit (dS [])) .nil)))
abbrev lc__law_less_3 : E := (.lc [4] (.name 4) (.it .seq (.cons (.var 3) .nil)) cc__law_less_2 (.var 4))
def b__law_less : S := (.seq (.par [(2, 0), (3, 1)] (.cons (.meth .sindex (.lit (dS [97, 98, 99, 100, 101, 102, 103, 104])) (.cons (.var 1) .nil)) (.cons (.op .mkl .nil) .nil))) (.seq fo__law_less_1 (.ret (.op .tuple (.cons lc__law_less_3 .nil)))))
abbrev ce__law_named_1 : E := (.op .item (.cons (.lit (dS [97, 98, 99, 100, 101, 102, 103, 104])) (.cons (.lmeth .lindex (.var 1) (.cons (.var 2) .nil)) .nil)))
abbrev lc__law_named_1 : E := (.lc [2] (.name 2) (.it .seq (.cons (.var 3) .nil)) (.lit (.bool true)) ce__law_named_1)
abbrev cc__law_named_1 : E := (.op .ne (.cons (.var 3) (.cons (.lit (dS [])) .nil)))
abbrev ce__law_named_2 : E := (.meth .join (.lit (dS [])) (.cons lc__law_named_1 .nil))
abbrev lc__law_named_2 : E := (.lc [3] (.name 3) (.it .seq (.cons (.var 0) .nil)) cc__law_named_1 ce__law_named_2)
def b__law_named : S := (.seq (.asg (.name 1) (.op .ssetC (.cons (.meth .join (.lit (dS [])) (.cons (.var 0) .nil)) .nil))) (.ret (.op .tuple (.cons lc__law_named_2 .nil))))
abbrev cc__law_pulled_1 : E := (.op .isin (.cons (.var 1) (.cons (.var 5) .nil)))
abbrev lc__law_pulled_1 : E := (.lc [4, 5] (.tup [4, 5]) (.it .enum (.cons (.var 0) .nil)) cc__law_pulled_1 (.var 4))
def b__law_pulled : S := (.seq (.asg (.lst [2, 3]) lc__law_pulled_1) (.seq (.par [(4, 0), (6, 0)] (.cons (.meth .sindex (.op .item (.cons (.var 0) (.cons (.var 2) .nil))) (.cons (.var 1) .nil)) (.cons (.meth .sindex (.op .item (.cons (.var 0) (.cons (.var 3) .nil))) (.cons (.var 1) .nil)) .nil))) (.seq (.asg (.name 7) (.op .add (.cons (.slcL (.op .item (.cons (.var 0) (.cons (.var 3) .nil))) (.op .add (.cons (.var 6) (.cons (.lit (.int 1)) .nil)))) (.cons (.slcH (.op .item (.cons (.var 0) (.cons (.var 3) .nil))) (.var 6)) .nil)))) (.seq (.asgM 8 1 (.op .list (.cons (.var 0) .nil))) (.seq (.store 8 (.var 2) (.op .add (.cons (.op .add (.cons (.slcH (.op .item (.cons (.var 0) (.cons (.var 2) .nil))) (.var 4)) (.cons (.var 7) .nil))) (.cons (.slcL (.op .item (.cons (.var 0) (.cons (.var 2) .nil))) (.op .add (.cons (.var 4) (.cons (.lit (.int 1)) .nil)))) .nil)))) (.ret (.call 84 (.cons (.op .add (.cons (.slcH (.var 8) (.var 3)) (.cons (.slcL (.var 8) (.op .add (.cons (.var 3) (.cons (.lit (.int 1)) .nil)))) .nil))) .nil))))))))
abbrev cc_odd_ones_1 : E := (.op .eq (.cons (.op .mod (.cons (.op .len (.cons (.var 2) .nil)) (.cons (.lit (.int 2)) .nil))) (.cons (.lit (.int 1)) .nil)))
abbrev lc_odd_ones_1 : E := (.lc [1, 2] (.tup [1, 2]) (.it .enum (.cons (.var 0) .nil)) cc_odd_ones_1 (.var 1))
def b_odd_ones : S := (.ret lc_odd_ones_1)
def b_odd_points : S := (.seq (.expr (.call 13 (.cons (.var 0) .nil))) (.ret (.op .tuple (.cons (.call 86 (.cons (.var 0) .nil)) .nil))))
def b_passed_on : S := (.seq (.asg (.tup [3, 4]) (.call 10 (.cons (.var 0) (.cons (.var 1) .nil)))) (.seq (.ifs (.op .eq (.cons (.var 2) (.cons (.var 3) .nil))) (.ret (.var 4)) .skip) (.ret (.ife (.op .eq (.cons (.var 2) (.cons (.var 4) .nil))) (.var 3) (.lit .none)))))
abbrev fb_walked_1 : S := (.seq (.asg (.name 4) (.call 88 (.cons (.var 0) (.cons (.var 3) (.cons (.var 1) .nil))))) (.ifs (.and (.op .notin (.cons (.var 3) (.cons (.var 2) .nil))) (.op .notN (.cons (.var 4) .nil))) (.seq (.asg (.name 5) (.call 89 (.cons (.var 0) (.cons (.var 4) (.cons (.op .add (.cons (.var 2) (.cons (.var 3) .nil))) .nil))))) (.ifs (.op .notN (.cons (.var 5) .nil)) (.ret (.var 5)) .skip)) .skip))
abbrev fo_walked_1 : S := (.for_ (.name 3) (.it .seq (.cons (.call 11 (.cons (.var 0) .nil)) .nil)) fb_walked_1)
def b_walked : S := (.seq (.ifs (.op .eq (.cons (.op .len (.cons (.var 2) .nil)) (.cons (.op .len (.cons (.call 11 (.cons (.var 0) .nil)) .nil)) .nil))) (.ret (.var 2)) .skip) (.seq fo_walked_1 (.ret (.lit .none))))
def b_walk : S := (.seq (.expr (.call 13 (.cons (.var 0) .nil))) (.seq (.asg (.name 1) (.call 86 (.cons (.var 0) .nil))) (.seq (.ifs (.op .gt (.cons (.op .len (.cons (.var 1) .nil)) (.cons (.lit (.int 2)) .nil))) (.ret (.lit .none)) .skip) (.ret (.call 89 (.cons (.var 0) (.cons (.ife (.op .ne (.cons (.var 1) (.cons (.op .mkl .nil) .nil))) (.op .item (.cons (.var 1) (.cons (.lit (.int 0)) .nil))) (.lit (.int 0))) (.cons (.lit (dS [])) .nil))))))))
abbrev fb_follows_1 : S := (.seq (.asg (.name 2) (.call 88 (.cons (.var 0) (.cons (.var 3) (.cons (.var 2) .nil))))) (.ifs (.op .isN (.cons (.var 2) .nil)) (.ret (.lit (.bool false))) .skip))
abbrev fo_follows_1 : S := (.for_ (.name 3) (.it .seq (.cons (.var 1) .nil)) fb_follows_1)
def b_follows : S := (.seq fo_follows_1 (.ret (.lit (.bool true))))
abbrev ce_is_walk_1 : E := (.call 91 (.cons (.var 0) (.cons (.var 1) (.cons (.var 2) .nil))))
abbrev lc_is_walk_1 : E := (.lc [2] (.name 2) (.it .seq (.cons (.call 10 (.cons (.var 0) (.cons (.op .item (.cons (.var 1) (.cons (.lit (.int 0)) .nil))) .nil))) .nil)) (.lit (.bool true)) ce_is_walk_1)
def b_is_walk : S := (.seq (.expr (.call 13 (.cons (.var 0) .nil))) (.seq (.ifs (.or (.op .not (.cons (.op .isstr (.cons (.var 1) .nil)) .nil)) (.op .ne (.cons (.op .sorted (.cons (.var 1) .nil)) (.cons (.op .list (.cons (.call 11 (.cons (.var 0) .nil)) .nil)) .nil)))) (.ret (.lit (.bool false))) .skip) (.ret (.op .any (.cons lc_is_walk_1 .nil)))))
abbrev cc__law_is_walk_1 : E := (.op .isin (.cons (.var 3) (.cons (.var 8) .nil)))
abbrev lc__law_is_walk_1 : E := (.lc [7, 8] (.tup [7, 8]) (.it .enum (.cons (.var 0) .nil)) cc__law_is_walk_1 (.var 7))
abbrev cc__law_is_walk_2 : E := (.or (.op .ne (.cons (.var 7) (.cons (.var 5) .nil))) (.op .eq (.cons (.op .len (.cons (.var 6) .nil)) (.cons (.lit (.int 1)) .nil))))
abbrev lc__law_is_walk_2 : E := (.lc [7] (.name 7) (.it .seq (.cons (.var 6) .nil)) cc__law_is_walk_2 (.var 7))
abbrev fb__law_is_walk_1 : S := (.seq (.asg (.name 6) lc__law_is_walk_1) (.ifs (.op .isin (.cons (.var 5) (.cons (.var 6) .nil))) (.asg (.name 4) (.op .add (.cons (.var 4) (.cons lc__law_is_walk_2 .nil)))) .skip))
abbrev fo__law_is_walk_1 : S := (.for_ (.name 5) (.it .seq (.cons (.var 2) .nil)) fb__law_is_walk_1)
abbrev fb__law_is_walk_2 : S := (.seq (.asg (.name 4) (.op .mkl .nil)) (.seq fo__law_is_walk_1 (.asg (.name 2) (.var 4))))
abbrev fo__law_is_walk_2 : S := (.for_ (.name 3) (.it .seq (.cons (.var 1) .nil)) fb__law_is_walk_2)
def b__law_is_walk : S := (.seq (.ifs (.op .ne (.cons (.op .sorted (.cons (.var 1) .nil)) (.cons (.op .list (.cons (.call 23 (.cons (.var 0) .nil)) .nil)) .nil))) (.ret (.lit (.bool false))) .skip) (.seq (.asg (.name 2) (.op .lrange (.cons (.op .len (.cons (.var 0) .nil)) .nil))) (.seq fo__law_is_walk_2 (.ret (.op .ne (.cons (.var 2) (.cons (.op .mkl .nil) .nil)))))))
def b_need_point : S := (.ifs (.op .not (.cons (.call 62 (.cons (.var 1) (.cons (.lit (.int 0)) (.cons (.op .sub (.cons (.op .len (.cons (.var 0) .nil)) (.cons (.lit (.int 1)) .nil))) .nil)))) .nil)) (.raise 2) .skip)
def b_need_land : S := (.ifs (.op .not (.cons (.call 62 (.cons (.var 1) (.cons (.lit (.int 0)) (.cons (.op .sub (.cons (.op .len (.cons (.call 7 (.cons (.var 0) .nil)) .nil)) (.cons (.lit (.int 1)) .nil))) .nil)))) .nil)) (.raise 4) .skip)
abbrev fb_distance_1 : S := (.ifs (.op .isin (.cons (.var 7) (.cons (.var 8) .nil))) (.append 6 (.ife (.op .eq (.cons (.op .item (.cons (.var 8) (.cons (.lit (.int 0)) .nil))) (.cons (.var 7) .nil))) (.op .item (.cons (.var 8) (.cons (.lit (.int 1)) .nil))) (.op .item (.cons (.var 8) (.cons (.lit (.int 0)) .nil))))) .skip)
abbrev fo_distance_1 : S := (.for_ (.name 8) (.it .seq (.cons (.var 0) .nil)) fb_distance_1)
abbrev fo_distance_2 : S := (.for_ (.name 7) (.it .seq (.cons (.var 3) .nil)) fo_distance_1)
abbrev cc_distance_1 : E := (.op .notin (.cons (.var 7) (.cons (.var 4) .nil)))
abbrev lc_distance_1 : E := (.lc [7] (.name 7) (.it .seq (.cons (.var 6) .nil)) cc_distance_1 (.var 7))
abbrev wc_distance_1 : E := (.op .notin (.cons (.var 2) (.cons (.var 3) .nil)))
abbrev wb_distance_1 : S := (.seq (.asgM 6 1 (.op .mkl .nil)) (.seq fo_distance_2 (.seq (.asg (.name 3) (.op .ssetI (.cons lc_distance_1 .nil))) (.seq (.asg (.name 4) (.op .add (.cons (.var 4) (.cons (.var 3) .nil)))) (.asg (.name 5) (.op .iadd (.cons (.var 5) (.cons (.lit (.int 1)) .nil))))))))
abbrev wh_distance_1 : S := (.while_ 200 wc_distance_1 wb_distance_1)
def b_distance : S := (.seq (.par [(3, 0), (4, 0), (5, 0)] (.cons (.op .mkl (.cons (.var 1) .nil)) (.cons (.op .mkl (.cons (.var 1) .nil)) (.cons (.lit (.int 0)) .nil)))) (.seq wh_distance_1 (.ret (.var 5))))
def b_fewest_passed : S := (.seq (.expr (.call 13 (.cons (.var 0) .nil))) (.seq (.expr (.call 94 (.cons (.var 0) (.cons (.var 1) .nil)))) (.seq (.expr (.call 94 (.cons (.var 0) (.cons (.var 2) .nil)))) (.ret (.call 96 (.cons (.call 9 (.cons (.var 0) (.cons (.call 11 (.cons (.var 0) .nil)) .nil))) (.cons (.var 1) (.cons (.var 2) .nil))))))))
def b_fewest_crossed : S := (.seq (.expr (.call 13 (.cons (.var 0) .nil))) (.seq (.expr (.call 95 (.cons (.var 0) (.cons (.var 1) .nil)))) (.seq (.expr (.call 95 (.cons (.var 0) (.cons (.var 2) .nil)))) (.ret (.call 96 (.cons (.call 9 (.cons (.call 14 (.cons (.var 0) .nil)) (.cons (.call 11 (.cons (.var 0) .nil)) .nil))) (.cons (.var 1) (.cons (.var 2) .nil))))))))
abbrev ce__law_steps_1 : E := (.op .isin (.cons (.var 9) (.cons (.var 8) .nil)))
abbrev lc__law_steps_1 : E := (.lc [9] (.name 9) (.it .seq (.cons (.var 5) .nil)) (.lit (.bool true)) ce__law_steps_1)
abbrev cc__law_steps_1 : E := (.op .any (.cons lc__law_steps_1 .nil))
abbrev lc__law_steps_2 : E := (.lc [7, 8] (.tup [7, 8]) (.it .enum (.cons (.var 0) .nil)) cc__law_steps_1 (.var 7))
abbrev ce__law_steps_2 : E := (.op .eq (.cons (.oitem 2 (.var 7)) (.cons (.var 3) .nil)))
abbrev lc__law_steps_3 : E := (.lc [7] (.name 7) (.it .seq (.cons (.var 6) .nil)) (.lit (.bool true)) ce__law_steps_2)
abbrev fb__law_steps_1 : S := (.ifs (.op .isN (.cons (.oitem 2 (.var 4)) .nil)) (.seq (.asg (.name 6) lc__law_steps_2) (.ifs (.op .any (.cons lc__law_steps_3 .nil)) (.store 2 (.var 4) (.op .add (.cons (.var 3) (.cons (.lit (.int 1)) .nil)))) .skip)) .skip)
abbrev fo__law_steps_1 : S := (.for_ (.tup [4, 5]) (.it .enum (.cons (.var 0) .nil)) fb__law_steps_1)
abbrev fo__law_steps_2 : S := (.for_ (.name 3) (.it .range1 (.cons (.op .len (.cons (.var 0) .nil)) .nil)) fo__law_steps_1)
def b__law_steps : S := (.seq (.asgM 2 1 (.op .mulL (.cons (.op .mkl (.cons (.lit .none) .nil)) (.cons (.op .len (.cons (.var 0) .nil)) .nil)))) (.seq (.store 2 (.var 1) (.lit (.int 0))) (.seq fo__law_steps_2 (.ret (.var 2)))))
def b_need_place : S := (.seq (.expr (.call 94 (.cons (.var 0) (.cons (.var 1) .nil)))) (.ifs (.op .not (.cons (.call 62 (.cons (.var 2) (.cons (.lit (.int 0)) (.cons (.op .sub (.cons (.op .len (.cons (.op .item (.cons (.var 0) (.cons (.var 1) .nil))) .nil)) (.cons (.lit (.int 1)) .nil))) .nil)))) .nil)) (.raise 3) .skip))
def b_with_letter : S := (.seq (.asg (.name 4) (.op .add (.cons (.op .add (.cons (.slcH (.op .item (.cons (.var 0) (.cons (.var 1) .nil))) (.var 2)) (.cons (.var 3) .nil))) (.cons (.slcL (.op .item (.cons (.var 0) (.cons (.var 1) .nil))) (.var 2)) .nil)))) (.ret (.op .add (.cons (.op .add (.cons (.slcH (.var 0) (.var 1)) (.cons (.op .mkt (.cons (.var 4) .nil)) .nil))) (.cons (.slcL (.var 0) (.op .add (.cons (.var 1) (.cons (.lit (.int 1)) .nil)))) .nil)))))
abbrev ce__law_charted_1 : E := (.and (.op .isin (.cons (.var 1) (.cons (.var 4) .nil))) (.op .isin (.cons (.var 2) (.cons (.var 4) .nil))))
abbrev lc__law_charted_1 : E := (.lc [4] (.name 4) (.it .seq (.cons (.call 25 (.cons (.var 0) .nil)) .nil)) (.lit (.bool true)) ce__law_charted_1)
def b__law_charted : S := (.seq (.asg (.name 3) (.op .len (.cons (.call 23 (.cons (.var 0) .nil)) .nil))) (.seq (.ifs (.op .eq (.cons (.var 3) (.cons (.lit (.int 8)) .nil))) (.ret (.op .mkt (.cons (.lit (dS [101, 114, 114, 111, 114])) (.cons (.lit (dS [84, 111, 111, 76, 97, 114, 103, 101])) .nil)))) .skip) (.seq (.ifs (.op .not (.cons (.op .any (.cons lc__law_charted_1 .nil)) .nil)) (.ret (.op .mkt (.cons (.lit (dS [101, 114, 114, 111, 114])) (.cons (.lit (dS [79, 116, 104, 101, 114, 76, 97, 110, 100])) .nil)))) .skip) (.seq (.asg (.tup [5, 6]) (.op .sorted (.cons (.op .mkl (.cons (.var 1) (.cons (.var 2) .nil))) .nil))) (.seq (.asg (.name 7) (.op .item (.cons (.lit (dS [97, 98, 99, 100, 101, 102, 103, 104])) (.cons (.var 3) .nil)))) (.ret (.call 26 (.cons (.call 26 (.cons (.var 0) (.cons (.op .item (.cons (.var 6) (.cons (.lit (.int 0)) .nil))) (.cons (.op .item (.cons (.var 6) (.cons (.lit (.int 1)) .nil))) (.cons (.var 7) .nil))))) (.cons (.op .item (.cons (.var 5) (.cons (.lit (.int 0)) .nil))) (.cons (.op .item (.cons (.var 5) (.cons (.lit (.int 1)) .nil))) (.cons (.var 7) .nil)))))))))))
def b__law_taken : S := (.ret (.told (.call 73 (.cons (.var 0) (.cons (.var 1) .nil)))))
def b__law_turn : S := (.seq (.par [(5, 0), (6, 0)] (.cons (.op .item (.cons (.op .mkl (.cons (.lit (dS [100, 114, 97, 119])) (.cons (.lit (dS [100, 114, 97, 119])) (.cons (.lit (dS [100, 114, 97, 119])) (.cons (.lit (dS [114, 101, 109, 111, 118, 101])) (.cons (.lit (dS [117, 110, 100, 111])) (.cons (.lit (dS [114, 101, 100, 111])) .nil))))))) (.cons (.callIO 18 0 (.cons (.lit (.int 6)) .nil)) .nil))) (.cons (.call 22 (.cons (.var 2) .nil)) .nil))) (.seq (.par [(7, 0), (8, 0)] (.cons (.op .item (.cons (.var 6) (.cons (.callIO 18 0 (.cons (.op .len (.cons (.var 6) .nil)) .nil)) .nil))) (.cons (.op .item (.cons (.var 6) (.cons (.callIO 18 0 (.cons (.op .len (.cons (.var 6) .nil)) .nil)) .nil))) .nil))) (.seq (.asg (.name 9) (.op .item (.cons (.op .item (.cons (.var 2) (.cons (.op .item (.cons (.var 7) (.cons (.lit (.int 0)) .nil))) .nil))) (.cons (.op .item (.cons (.var 7) (.cons (.lit (.int 1)) .nil))) .nil)))) (.seq (.asg (.name 10) (.call 104 (.cons (.var 1) (.cons (.var 5) (.cons (.var 7) (.cons (.var 8) (.cons (.var 9) .nil))))))) (.seq (.ifs (.op .isin (.cons (.var 5) (.cons (.op .mkt (.cons (.lit (dS [100, 114, 97, 119])) (.cons (.lit (dS [114, 101, 109, 111, 118, 101])) .nil))) .nil))) (.seq (.asg (.name 11) (.ife (.op .eq (.cons (.var 5) (.cons (.lit (dS [100, 114, 97, 119])) .nil))) (.call 102 (.cons (.var 2) (.cons (.var 7) (.cons (.var 8) .nil)))) (.call 103 (.cons (.var 2) (.cons (.var 9) .nil))))) (.seq (.ifs (.op .eq (.cons (.op .item (.cons (.var 11) (.cons (.lit (.int 0)) .nil))) (.cons (.lit (dS [101, 114, 114, 111, 114])) .nil))) (.ret (.op .mkt (.cons (.var 10) (.cons (.var 11) (.cons (.var 2) (.cons (.var 3) (.cons (.var 4) .nil))))))) .skip) (.ret (.op .mkt (.cons (.var 10) (.cons (.var 11) (.cons (.var 11) (.cons (.op .add (.cons (.var 3) (.cons (.op .mkl (.cons (.var 2) .nil)) .nil))) (.cons (.op .mkl .nil) .nil))))))))) .skip) (.seq (.asg (.name 12) (.ife (.op .eq (.cons (.var 5) (.cons (.lit (dS [117, 110, 100, 111])) .nil))) (.var 3) (.var 4))) (.seq (.ifs (.op .eq (.cons (.var 12) (.cons (.op .mkl .nil) .nil))) (.ret (.op .mkt (.cons (.var 10) (.cons (.op .mkt (.cons (.lit (dS [101, 114, 114, 111, 114])) (.cons (.lit (dS [78, 111, 116, 104, 105, 110, 103, 84, 111, 85, 110, 100, 111])) .nil))) (.cons (.var 2) (.cons (.var 3) (.cons (.var 4) .nil))))))) .skip) (.seq (.ifs (.op .eq (.cons (.var 5) (.cons (.lit (dS [117, 110, 100, 111])) .nil))) (.ret (.op .mkt (.cons (.var 10) (.cons (.op .item (.cons (.var 12) (.cons (.op .neg (.cons (.lit (.int 1)) .nil)) .nil))) (.cons (.op .item (.cons (.var 12) (.cons (.op .neg (.cons (.lit (.int 1)) .nil)) .nil))) (.cons (.slcH (.var 3) (.op .neg (.cons (.lit (.int 1)) .nil))) (.cons (.op .add (.cons (.var 4) (.cons (.op .mkl (.cons (.var 2) .nil)) .nil))) .nil))))))) .skip) (.ret (.op .mkt (.cons (.var 10) (.cons (.op .item (.cons (.var 12) (.cons (.op .neg (.cons (.lit (.int 1)) .nil)) .nil))) (.cons (.op .item (.cons (.var 12) (.cons (.op .neg (.cons (.lit (.int 1)) .nil)) .nil))) (.cons (.op .add (.cons (.var 3) (.cons (.op .mkl (.cons (.var 2) .nil)) .nil))) (.cons (.slcH (.var 4) (.op .neg (.cons (.lit (.int 1)) .nil))) .nil)))))))))))))))
def b_format_map : S := (.seq (.expr (.call 13 (.cons (.var 0) .nil))) (.ret (.meth .join (.lit (dS [32])) (.cons (.var 0) .nil))))
def b_parse_map : S := (.seq (.asg (.name 1) (.ife (.op .isstr (.cons (.var 0) .nil)) (.op .tuple (.cons (.meth .split (.var 0) (.cons (.lit (dS [32])) .nil)) .nil)) (.op .mkt .nil))) (.seq (.ifs (.op .not (.cons (.call 12 (.cons (.var 1) .nil)) .nil)) (.raise 6) .skip) (.ret (.var 1))))
def b_taken_away_g : S := (.seq (.asg (.tup [2, 3]) (.call 43 (.cons (.var 0) (.cons (.var 1) .nil)))) (.seq (.ifs (.op .eq (.cons (.var 2) (.cons (.var 3) .nil))) (.raise 7) .skip) (.seq (.ifs (.op .eq (.cons (.op .len (.cons (.call 11 (.cons (.var 0) .nil)) .nil)) (.cons (.lit (.int 1)) .nil))) (.raise 9) .skip) (.ret (.call 71 (.cons lc_taken_away_1 .nil))))))
def b_without_g : S := (.seq (.expr (.call 13 (.cons (.var 0) .nil))) (.seq (.expr (.call 42 (.cons (.var 0) (.cons (.var 1) .nil)))) (.ret (.call 111 (.cons (.var 0) (.cons (.var 1) .nil))))))
def b_m__init__ : S := (.seq (.expr (.call 13 (.cons (.var 1) .nil))) (.seq (.fset 0 0 (.var 1)) (.seq (.fset 0 1 (.op .mkl .nil)) (.fset 0 2 (.op .mkl .nil)))))
def b_mdraw : S := (.seq (.expr (.call 100 (.cons (.fld 0 0) (.cons (.var 1) (.cons (.var 2) .nil))))) (.seq (.expr (.call 100 (.cons (.fld 0 0) (.cons (.var 3) (.cons (.var 4) .nil))))) (.seq (.ifs (.op .eq (.cons (.op .len (.cons (.call 11 (.cons (.fld 0 0) .nil)) .nil)) (.cons (.lit (.int 8)) .nil))) (.raise 10) .skip) (.seq (.asg (.name 5) (.op .item (.cons (.lit (dS [97, 98, 99, 100, 101, 102, 103, 104])) (.cons (.op .len (.cons (.call 11 (.cons (.fld 0 0) .nil)) .nil)) .nil)))) (.seq (.asg (.lst [6, 7]) (.op .sorted (.cons (.op .mkl (.cons (.op .mkt (.cons (.var 1) (.cons (.var 2) .nil))) (.cons (.op .mkt (.cons (.var 3) (.cons (.var 4) .nil))) .nil))) .nil))) (.seq (.asg (.name 8) (.call 101 (.cons (.call 101 (.cons (.fld 0 0) (.cons (.op .item (.cons (.var 7) (.cons (.lit (.int 0)) .nil))) (.cons (.op .item (.cons (.var 7) (.cons (.lit (.int 1)) .nil))) (.cons (.var 5) .nil))))) (.cons (.op .item (.cons (.var 6) (.cons (.lit (.int 0)) .nil))) (.cons (.op .item (.cons (.var 6) (.cons (.lit (.int 1)) .nil))) (.cons (.var 5) .nil)))))) (.seq (.ifs (.op .not (.cons (.call 12 (.cons (.var 8) .nil)) .nil)) (.raise 11) .skip) (.while_ 0 (.lit (.bool true)) .skip))))))))
def b_mredo : S := (.seq (.ifs (.op .eq (.cons (.fld 0 2) (.cons (.op .mkl .nil) .nil))) (.raise 12) .skip) (.while_ 0 (.lit (.bool true)) .skip))
def Tl : List FDef := [⟨1, 4, false, b_is_drawing⟩,
  ⟨1, 5, false, b_ends_in⟩,
  ⟨2, 2, false, b_letter_at⟩,
  ⟨2, 6, false, b_other_end⟩,
  ⟨2, 2, false, b_next_around⟩,
  ⟨2, 2, false, b_gone_on⟩,
  ⟨1, 2, false, b_least_turn⟩,
  ⟨1, 8, false, b_rounds⟩,
  ⟨2, 8, false, b_reached⟩,
  ⟨2, 3, false, b_pairs_of⟩,
  ⟨2, 5, false, b_points_of⟩,
  ⟨1, 1, false, b_letters_of⟩,
  ⟨1, 1, false, b_is_map⟩,
  ⟨1, 1, false, b_need_map⟩,
  ⟨1, 3, false, b_land_strings⟩,
  ⟨1, 1, false, b_lands⟩,
  ⟨2, 2, false, b__law_cell⟩,
  ⟨2, 3, false, b__law_drawn⟩,
  ⟨2, 3, true, b__law_roll⟩,
  ⟨2, 3, false, b__law_rounds⟩,
  ⟨0, 0, false, .skip⟩,
  ⟨0, 0, false, .skip⟩,
  ⟨1, 5, false, b__law_ends⟩,
  ⟨1, 2, false, b__law_letters⟩,
  ⟨2, 6, false, b__law_on⟩,
  ⟨1, 6, false, b__law_walks⟩,
  ⟨4, 5, false, b__law_put⟩,
  ⟨2, 9, true, b__law_any_map⟩,
  ⟨1, 2, false, b__law_is_drawing⟩,
  ⟨1, 8, false, b__law_is_joined⟩,
  ⟨1, 2, false, b__law_turned⟩,
  ⟨1, 5, false, b__law_lands⟩,
  ⟨2, 9, true, b__law_copy⟩,
  ⟨1, 1, false, b_partner⟩,
  ⟨2, 6, false, b_turned_from⟩,
  ⟨3, 6, false, b_next_point⟩,
  ⟨2, 11, false, b_reading⟩,
  ⟨2, 9, false, b_renamings⟩,
  ⟨2, 3, false, b_renaming⟩,
  ⟨2, 2, false, b_are_same⟩,
  ⟨1, 2, false, b_mirror⟩,
  ⟨1, 2, false, b_least_form⟩,
  ⟨2, 2, false, b_need_border⟩,
  ⟨2, 2, false, b_lands_of⟩,
  ⟨2, 2, false, b_between⟩,
  ⟨2, 2, false, b_ends_of⟩,
  ⟨1, 4, false, b_subsets⟩,
  ⟨2, 2, false, b_joins⟩,
  ⟨1, 2, false, b_pair_table⟩,
  ⟨4, 6, false, b_is_least_cut⟩,
  ⟨1, 5, false, b_least_cuts⟩,
  ⟨3, 6, false, b__law_leads⟩,
  ⟨1, 6, false, b__law_orders⟩,
  ⟨2, 16, false, b__law_reading⟩,
  ⟨1, 1, false, b_count_symmetries⟩,
  ⟨1, 6, false, b_neighbours_before⟩,
  ⟨3, 7, false, b_coloured⟩,
  ⟨1, 3, false, b_fewest_colours⟩,
  ⟨3, 4, false, b_is_joining_tree⟩,
  ⟨1, 3, false, b_trees⟩,
  ⟨2, 7, false, b_is_round⟩,
  ⟨1, 3, false, b_round_ways⟩,
  ⟨3, 3, false, b_is_whole⟩,
  ⟨1, 1, false, b_need_count⟩,
  ⟨3, 8, false, b_is_colouring⟩,
  ⟨2, 2, false, b_colouring⟩,
  ⟨3, 9, false, b__law_good⟩,
  ⟨1, 5, false, b__law_near⟩,
  ⟨3, 11, false, b__law_first⟩,
  ⟨2, 10, false, b_groupings⟩,
  ⟨2, 6, false, b_count_colourings⟩,
  ⟨1, 5, false, b_renamed⟩,
  ⟨2, 5, false, b_taken_away⟩,
  ⟨2, 2, false, b_without⟩,
  ⟨2, 12, false, b_pulled⟩,
  ⟨2, 13, false, b__law_count⟩,
  ⟨2, 2, false, b_is_tree⟩,
  ⟨1, 4, false, b__law_subsets⟩,
  ⟨2, 9, false, b__law_is_tree⟩,
  ⟨2, 5, false, b__law_ends_at⟩,
  ⟨1, 12, false, b__law_round_ways⟩,
  ⟨3, 9, false, b__law_reached⟩,
  ⟨2, 8, false, b__law_is_least⟩,
  ⟨2, 7, false, b__law_less⟩,
  ⟨1, 4, false, b__law_named⟩,
  ⟨2, 9, false, b__law_pulled⟩,
  ⟨1, 3, false, b_odd_ones⟩,
  ⟨1, 1, false, b_odd_points⟩,
  ⟨3, 5, false, b_passed_on⟩,
  ⟨3, 6, false, b_walked⟩,
  ⟨1, 2, false, b_walk⟩,
  ⟨3, 4, false, b_follows⟩,
  ⟨2, 3, false, b_is_walk⟩,
  ⟨2, 9, false, b__law_is_walk⟩,
  ⟨2, 2, false, b_need_point⟩,
  ⟨2, 2, false, b_need_land⟩,
  ⟨3, 9, false, b_distance⟩,
  ⟨3, 3, false, b_fewest_passed⟩,
  ⟨3, 3, false, b_fewest_crossed⟩,
  ⟨2, 10, false, b__law_steps⟩,
  ⟨3, 3, false, b_need_place⟩,
  ⟨4, 5, false, b_with_letter⟩,
  ⟨3, 8, false, b__law_charted⟩,
  ⟨2, 2, false, b__law_taken⟩,
  ⟨0, 0, false, .skip⟩,
  ⟨5, 13, true, b__law_turn⟩,
  ⟨1, 1, false, b_format_map⟩,
  ⟨1, 2, false, b_parse_map⟩,
  ⟨0, 0, false, .skip⟩,
  ⟨0, 0, false, .skip⟩,
  ⟨0, 0, false, .skip⟩,
  ⟨2, 5, false, b_taken_away_g⟩,
  ⟨2, 2, false, b_without_g⟩,
  ⟨202, 2, true, b_m__init__⟩,
  ⟨105, 9, true, b_mdraw⟩,
  ⟨101, 1, true, b_mredo⟩]
def T (f : Nat) : Option FDef := Tl[f]?
theorem T_is_drawing : T 0 = some ⟨1, 4, false, b_is_drawing⟩ := rfl
theorem T_ends_in : T 1 = some ⟨1, 5, false, b_ends_in⟩ := rfl
theorem T_letter_at : T 2 = some ⟨2, 2, false, b_letter_at⟩ := rfl
theorem T_other_end : T 3 = some ⟨2, 6, false, b_other_end⟩ := rfl
theorem T_next_around : T 4 = some ⟨2, 2, false, b_next_around⟩ := rfl
theorem T_gone_on : T 5 = some ⟨2, 2, false, b_gone_on⟩ := rfl
theorem T_least_turn : T 6 = some ⟨1, 2, false, b_least_turn⟩ := rfl
theorem T_rounds : T 7 = some ⟨1, 8, false, b_rounds⟩ := rfl
theorem T_reached : T 8 = some ⟨2, 8, false, b_reached⟩ := rfl
theorem T_pairs_of : T 9 = some ⟨2, 3, false, b_pairs_of⟩ := rfl
theorem T_points_of : T 10 = some ⟨2, 5, false, b_points_of⟩ := rfl
theorem T_letters_of : T 11 = some ⟨1, 1, false, b_letters_of⟩ := rfl
theorem T_is_map : T 12 = some ⟨1, 1, false, b_is_map⟩ := rfl
theorem T_need_map : T 13 = some ⟨1, 1, false, b_need_map⟩ := rfl
theorem T_land_strings : T 14 = some ⟨1, 3, false, b_land_strings⟩ := rfl
theorem T__law_drawn : T 17 = some ⟨2, 3, false, b__law_drawn⟩ := rfl
theorem T__law_roll : T 18 = some ⟨2, 3, true, b__law_roll⟩ := rfl
theorem T_partner : T 33 = some ⟨1, 1, false, b_partner⟩ := rfl
theorem T_need_border : T 42 = some ⟨2, 2, false, b_need_border⟩ := rfl
theorem T_lands_of : T 43 = some ⟨2, 2, false, b_lands_of⟩ := rfl
theorem T_between : T 44 = some ⟨2, 2, false, b_between⟩ := rfl
theorem T_neighbours_before : T 55 = some ⟨1, 6, false, b_neighbours_before⟩ := rfl
theorem T_coloured : T 56 = some ⟨3, 7, false, b_coloured⟩ := rfl
theorem T_is_whole : T 62 = some ⟨3, 3, false, b_is_whole⟩ := rfl
theorem T_need_count : T 63 = some ⟨1, 1, false, b_need_count⟩ := rfl
theorem T_colouring : T 65 = some ⟨2, 2, false, b_colouring⟩ := rfl
theorem T_renamed : T 71 = some ⟨1, 5, false, b_renamed⟩ := rfl
theorem T_taken_away : T 72 = some ⟨2, 5, false, b_taken_away⟩ := rfl
theorem T_without : T 73 = some ⟨2, 2, false, b_without⟩ := rfl
theorem T_pulled : T 74 = some ⟨2, 12, false, b_pulled⟩ := rfl
theorem T_need_point : T 94 = some ⟨2, 2, false, b_need_point⟩ := rfl
theorem T_need_land : T 95 = some ⟨2, 2, false, b_need_land⟩ := rfl
theorem T_distance : T 96 = some ⟨3, 9, false, b_distance⟩ := rfl
theorem T_fewest_passed : T 97 = some ⟨3, 3, false, b_fewest_passed⟩ := rfl
theorem T_fewest_crossed : T 98 = some ⟨3, 3, false, b_fewest_crossed⟩ := rfl
theorem T_need_place : T 100 = some ⟨3, 3, false, b_need_place⟩ := rfl
theorem T_with_letter : T 101 = some ⟨4, 5, false, b_with_letter⟩ := rfl
theorem T_parse_map : T 107 = some ⟨1, 2, false, b_parse_map⟩ := rfl
theorem T_taken_away_g : T 111 = some ⟨2, 5, false, b_taken_away_g⟩ := rfl
theorem T_without_g : T 112 = some ⟨2, 2, false, b_without_g⟩ := rfl
theorem T_m__init__ : T 113 = some ⟨202, 2, true, b_m__init__⟩ := rfl
theorem T_mdraw : T 114 = some ⟨105, 9, true, b_mdraw⟩ := rfl
theorem T_mredo : T 115 = some ⟨101, 1, true, b_mredo⟩ := rfl
def b_law_k21 : S := (.seq (.par [(2, 0), (3, 0), (4, 0)] (.cons (.op .add (.cons (.lit (.int 9)) (.cons (.callIO 18 1 (.cons (.lit (.int 90)) .nil)) .nil))) (.cons (.op .mkt (.cons (.lit (dS [97])) (.cons (.lit (dS [97])) .nil))) (.cons (.op .mkt (.cons (.lit (dS [97, 97, 98, 98, 99, 99, 100, 100, 101, 101, 102, 102, 103, 103, 104, 104])) .nil)) .nil)))) (.seq (.metN 5 (.call 33 (.cons (.op .mkt (.cons (.op .mul (.cons (.lit (dS [97])) (.cons (.var 2) .nil))) .nil)) .nil))) (.seq (.metA 5 (.call 44 (.cons (.var 3) (.cons (.op .mul (.cons (.lit (dS [97])) (.cons (.var 2) .nil))) .nil)))) (.seq (.metA 5 (.call 97 (.cons (.var 3) (.cons (.var 2) (.cons (.lit (.int 0)) .nil))))) (.seq (.metA 5 (.tmpM 113 114 (.cons (.var 3) .nil) (.cons (.lit (.int 0)) (.cons (.var 2) (.cons (.lit (.int 0)) (.cons (.lit (.int 0)) .nil)))))) (.seq (.metA 5 (.call 98 (.cons (.var 3) (.cons (.lit (.int 0)) (.cons (.var 2) .nil))))) (.seq (.metA 5 (.call 65 (.cons (.var 3) (.cons (.var 2) .nil)))) (.seq (.metA 5 (.call 107 (.cons (.op .mul (.cons (.lit (dS [97, 32])) (.cons (.var 2) .nil))) .nil))) (.seq (.metA 5 (.call 73 (.cons (.var 3) (.cons (.lit (dS [97])) .nil)))) (.seq (.metA 5 (.call 74 (.cons (.op .mkt (.cons (.lit (dS [97, 97])) .nil)) (.cons (.lit (dS [97])) .nil)))) (.seq (.metA 5 (.call 74 (.cons (.var 3) (.cons (.lit (dS [97])) .nil)))) (.seq (.metA 5 (.tmpM 113 114 (.cons (.var 4) .nil) (.cons (.lit (.int 0)) (.cons (.lit (.int 0)) (.cons (.lit (.int 0)) (.cons (.lit (.int 0)) .nil)))))) (.seq (.metA 5 (.tmpM 113 114 (.cons (.op .mkt (.cons (.lit (dS [97, 97, 98, 98])) .nil)) .nil) (.cons (.lit (.int 0)) (.cons (.lit (.int 1)) (.cons (.lit (.int 0)) (.cons (.lit (.int 3)) .nil)))))) (.seq (.metA 5 (.tmpM 113 115 (.cons (.var 3) .nil) .nil)) (.ifs (.op .not (.cons (.metAll 5) .nil)) (.ret (.lit (.bool false))) .skip)))))))))))))))
abbrev n_law_k21 : Nat := 8
end Bm
end
section
set_option Elab.async false
set_option linter.all false
set_option maxRecDepth 100000
set_option maxHeartbeats 4000000
namespace Bm.Lk21
open PySem PySem.Spec L2 LamX L2H HotX Bm
def top (i : Nat) : Stmt := PySem.Challenge.pw_ballmaps_k21_errors_apart.main.body.getD i (.Pass ⟨0, 0, 0, 0⟩)
abbrev s__wall : Stmt := top 0
abbrev s_is_whole : Stmt := top 18
abbrev s_is_drawing : Stmt := top 19
abbrev s_ends_in : Stmt := top 20
abbrev s_letter_at : Stmt := top 21
abbrev s_other_end : Stmt := top 22
abbrev s_next_around : Stmt := top 23
abbrev s_gone_on : Stmt := top 24
abbrev s_least_turn : Stmt := top 25
abbrev s_rounds : Stmt := top 26
abbrev s_reached : Stmt := top 27
abbrev s_pairs_of : Stmt := top 28
abbrev s_points_of : Stmt := top 29
abbrev s_letters_of : Stmt := top 30
abbrev s_is_map : Stmt := top 31
abbrev s_need_map : Stmt := top 32
abbrev s_need_border : Stmt := top 33
abbrev s_need_point : Stmt := top 34
abbrev s_need_land : Stmt := top 35
abbrev s_land_strings : Stmt := top 36
abbrev s_partner : Stmt := top 37
abbrev s_lands_of : Stmt := top 38
abbrev s_between : Stmt := top 39
abbrev s_renamed : Stmt := top 41
abbrev s_taken_away : Stmt := top 42
abbrev s_without : Stmt := top 43
abbrev s_pulled : Stmt := top 44
abbrev s_need_count : Stmt := top 46
abbrev s_neighbours_before : Stmt := top 47
abbrev s_coloured : Stmt := top 48
abbrev s_colouring : Stmt := top 49
abbrev s_need_place : Stmt := top 51
abbrev s_with_letter : Stmt := top 52
abbrev s_parse_map : Stmt := top 55
abbrev s_distance : Stmt := top 57
abbrev s_fewest_passed : Stmt := top 58
abbrev s_fewest_crossed : Stmt := top 59
abbrev s__law_cell : Stmt := top 61
abbrev s__law_drawn : Stmt := top 62
abbrev s__law_roll : Stmt := top 63
abbrev s__law_rounds : Stmt := top 64
abbrev s__law_met : Stmt := top 65
abbrev s__law_alone : Stmt := top 66
abbrev s_law : Stmt := top 67
abbrev s_m__init__ : Stmt := cdef (top 53) 0
abbrev s_mdraw : Stmt := cdef (top 53) 2
abbrev s_mredo : Stmt := cdef (top 53) 6
def qL : Str := (("law" : Str) ++ (".<locals>." : Str)) ++ ("<lambda>" : Str)
structure Txt (K : PySem.W.Frag) (mg : Str → Option Value) (ca : Nat → Addr) (tk0 : Tok) : Prop where
  b_ValueError : mg "ValueError" = none
  b_all : mg "all" = none
  b_any : mg "any" = none
  b_bool : mg "bool" = none
  b_enumerate : mg "enumerate" = none
  b_int : mg "int" = none
  b_isinstance : mg "isinstance" = none
  b_len : mg "len" = none
  b_max : mg "max" = none
  b_min : mg "min" = none
  b_range : mg "range" = none
  b_set : mg "set" = none
  b_sorted : mg "sorted" = none
  b_str : mg "str" = none
  b_sum : mg "sum" = none
  b_tuple : mg "tuple" = none
  g_NAMES : mg "NAMES" = some (.str (Str.ofString "abcdefgh") tk0)
  x_Bridge : ExcAt K mg "Bridge" (ca 7)
  x_InvalidBorder : ExcAt K mg "InvalidBorder" (ca 1)
  x_InvalidCount : ExcAt K mg "InvalidCount" (ca 5)
  x_InvalidLand : ExcAt K mg "InvalidLand" (ca 4)
  x_InvalidMap : ExcAt K mg "InvalidMap" (ca 0)
  x_InvalidPlace : ExcAt K mg "InvalidPlace" (ca 3)
  x_InvalidPoint : ExcAt K mg "InvalidPoint" (ca 2)
  x_InvalidText : ExcAt K mg "InvalidText" (ca 6)
  x_LastBorder : ExcAt K mg "LastBorder" (ca 9)
  x_Loop : ExcAt K mg "Loop" (ca 8)
  x_NothingToUndo : ExcAt K mg "NothingToUndo" (ca 12)
  x_OtherLand : ExcAt K mg "OtherLand" (ca 11)
  x_TooLarge : ExcAt K mg "TooLarge" (ca 10)
  dk : DkOk K
  g_Desk : mg "Desk" = some (.ref (dkC K))
structure Defs (K : PySem.W.Frag) (mg : Str → Option Value) : Prop where
  f__wall : ∃ fa fd, mg "_wall" = some (.ref fa) ∧ Fun K "_wall" "_wall" s__wall fa fd
  f_is_whole : ∃ fa fd, mg "is_whole" = some (.ref fa) ∧ Fun K "is_whole" "is_whole" s_is_whole fa fd
  f_is_drawing : ∃ fa fd, mg "is_drawing" = some (.ref fa) ∧ Fun K "is_drawing" "is_drawing" s_is_drawing fa fd
  f_ends_in : ∃ fa fd, mg "ends_in" = some (.ref fa) ∧ Fun K "ends_in" "ends_in" s_ends_in fa fd
  f_letter_at : ∃ fa fd, mg "letter_at" = some (.ref fa) ∧ Fun K "letter_at" "letter_at" s_letter_at fa fd
  f_other_end : ∃ fa fd, mg "other_end" = some (.ref fa) ∧ Fun K "other_end" "other_end" s_other_end fa fd
  f_next_around : ∃ fa fd, mg "next_around" = some (.ref fa) ∧ Fun K "next_around" "next_around" s_next_around fa fd
  f_gone_on : ∃ fa fd, mg "gone_on" = some (.ref fa) ∧ Fun K "gone_on" "gone_on" s_gone_on fa fd
  f_least_turn : ∃ fa fd, mg "least_turn" = some (.ref fa) ∧ Fun K "least_turn" "least_turn" s_least_turn fa fd
  f_rounds : ∃ fa fd, mg "rounds" = some (.ref fa) ∧ Fun K "rounds" "rounds" s_rounds fa fd
  f_reached : ∃ fa fd, mg "reached" = some (.ref fa) ∧ Fun K "reached" "reached" s_reached fa fd
  f_pairs_of : ∃ fa fd, mg "pairs_of" = some (.ref fa) ∧ Fun K "pairs_of" "pairs_of" s_pairs_of fa fd
  f_points_of : ∃ fa fd, mg "points_of" = some (.ref fa) ∧ Fun K "points_of" "points_of" s_points_of fa fd
  f_letters_of : ∃ fa fd, mg "letters_of" = some (.ref fa) ∧ Fun K "letters_of" "letters_of" s_letters_of fa fd
  f_is_map : ∃ fa fd, mg "is_map" = some (.ref fa) ∧ Fun K "is_map" "is_map" s_is_map fa fd
  f_need_map : ∃ fa fd, mg "need_map" = some (.ref fa) ∧ Fun K "need_map" "need_map" s_need_map fa fd
  f_need_border : ∃ fa fd, mg "need_border" = some (.ref fa) ∧ Fun K "need_border" "need_border" s_need_border fa fd
  f_need_point : ∃ fa fd, mg "need_point" = some (.ref fa) ∧ Fun K "need_point" "need_point" s_need_point fa fd
  f_need_land : ∃ fa fd, mg "need_land" = some (.ref fa) ∧ Fun K "need_land" "need_land" s_need_land fa fd
  f_land_strings : ∃ fa fd, mg "land_strings" = some (.ref fa) ∧ Fun K "land_strings" "land_strings" s_land_strings fa fd
  f_partner : ∃ fa fd, mg "partner" = some (.ref fa) ∧ Fun K "partner" "partner" s_partner fa fd
  f_lands_of : ∃ fa fd, mg "lands_of" = some (.ref fa) ∧ Fun K "lands_of" "lands_of" s_lands_of fa fd
  f_between : ∃ fa fd, mg "between" = some (.ref fa) ∧ Fun K "between" "between" s_between fa fd
  f_renamed : ∃ fa fd, mg "renamed" = some (.ref fa) ∧ Fun K "renamed" "renamed" s_renamed fa fd
  f_taken_away : ∃ fa fd, mg "taken_away" = some (.ref fa) ∧ Fun K "taken_away" "taken_away" s_taken_away fa fd
  f_without : ∃ fa fd, mg "without" = some (.ref fa) ∧ Fun K "without" "without" s_without fa fd
  f_pulled : ∃ fa fd, mg "pulled" = some (.ref fa) ∧ Fun K "pulled" "pulled" s_pulled fa fd
  f_need_count : ∃ fa fd, mg "need_count" = some (.ref fa) ∧ Fun K "need_count" "need_count" s_need_count fa fd
  f_neighbours_before : ∃ fa fd, mg "neighbours_before" = some (.ref fa) ∧ Fun K "neighbours_before" "neighbours_before" s_neighbours_before fa fd
  f_coloured : ∃ fa fd, mg "coloured" = some (.ref fa) ∧ Fun K "coloured" "coloured" s_coloured fa fd
  f_colouring : ∃ fa fd, mg "colouring" = some (.ref fa) ∧ Fun K "colouring" "colouring" s_colouring fa fd
  f_need_place : ∃ fa fd, mg "need_place" = some (.ref fa) ∧ Fun K "need_place" "need_place" s_need_place fa fd
  f_with_letter : ∃ fa fd, mg "with_letter" = some (.ref fa) ∧ Fun K "with_letter" "with_letter" s_with_letter fa fd
  f_parse_map : ∃ fa fd, mg "parse_map" = some (.ref fa) ∧ Fun K "parse_map" "parse_map" s_parse_map fa fd
  f_distance : ∃ fa fd, mg "distance" = some (.ref fa) ∧ Fun K "distance" "distance" s_distance fa fd
  f_fewest_passed : ∃ fa fd, mg "fewest_passed" = some (.ref fa) ∧ Fun K "fewest_passed" "fewest_passed" s_fewest_passed fa fd
  f_fewest_crossed : ∃ fa fd, mg "fewest_crossed" = some (.ref fa) ∧ Fun K "fewest_crossed" "fewest_crossed" s_fewest_crossed fa fd
  f__law_cell : ∃ fa fd, mg "_law_cell" = some (.ref fa) ∧ Fun K "_law_cell" "_law_cell" s__law_cell fa fd
  f__law_drawn : ∃ fa fd, mg "_law_drawn" = some (.ref fa) ∧ Fun K "_law_drawn" "_law_drawn" s__law_drawn fa fd
  f__law_roll : ∃ fa fd, mg "_law_roll" = some (.ref fa) ∧ Fun K "_law_roll" "_law_roll" s__law_roll fa fd
  f__law_rounds : ∃ fa fd, mg "_law_rounds" = some (.ref fa) ∧ Fun K "_law_rounds" "_law_rounds" s__law_rounds fa fd
  f__law_met : ∃ fa fd, mg "_law_met" = some (.ref fa) ∧ Fun K "_law_met" "_law_met" s__law_met fa fd
  f__law_alone : ∃ fa fd, mg "_law_alone" = some (.ref fa) ∧ Fun K "_law_alone" "_law_alone" s__law_alone fa fd
  f_m__init__ : ∃ fa fd, Mk K (dkC K) fa ∧ Fun K "__init__" "Desk.__init__" s_m__init__ fa fd
  f_mdraw : ∃ fa fd, Meth K (dkC K) "draw" fa ∧ Fun K "draw" "Desk.draw" s_mdraw fa fd
  f_mredo : ∃ fa fd, Meth K (dkC K) "redo" fa ∧ Fun K "redo" "Desk.redo" s_mredo fa fd
section
variable (P : Program) (w : World) (K : PySem.W.Frag) (mg : Str → Option Value) (base : Heap) (J : Hp → Prop) (hJ : ∀ H H' : Hp, (∀ b o, H b = some o → H' b = some o ∨ isMut o) → J H → J H') (ca : Nat → Addr) (tk0 : Tok)
def At (n : Nat) : Nat → Prop
  | 0 => FnAt P w K mg base (n + 1) "is_drawing" (spF K J (fun k => .ref (ca k)) (run T n 0 none))
  | 1 => FnAt P w K mg base (n + 1) "ends_in" (spF K J (fun k => .ref (ca k)) (run T n 1 none))
  | 2 => FnAt P w K mg base (n + 1) "letter_at" (spF K J (fun k => .ref (ca k)) (run T n 2 none))
  | 3 => FnAt P w K mg base (n + 1) "other_end" (spF K J (fun k => .ref (ca k)) (run T n 3 none))
  | 4 => FnAt P w K mg base (n + 1) "next_around" (spF K J (fun k => .ref (ca k)) (run T n 4 none))
  | 5 => FnAt P w K mg base (n + 1) "gone_on" (spF K J (fun k => .ref (ca k)) (run T n 5 none))
  | 6 => FnAt P w K mg base (n + 1) "least_turn" (spF K J (fun k => .ref (ca k)) (run T n 6 none))
  | 7 => FnAt P w K mg base (n + 1) "rounds" (spF K J (fun k => .ref (ca k)) (run T n 7 none))
  | 8 => FnAt P w K mg base (n + 1) "reached" (spF K J (fun k => .ref (ca k)) (run T n 8 none))
  | 9 => FnAt P w K mg base (n + 1) "pairs_of" (spF K J (fun k => .ref (ca k)) (run T n 9 none))
  | 10 => FnAt P w K mg base (n + 1) "points_of" (spF K J (fun k => .ref (ca k)) (run T n 10 none))
  | 11 => FnAt P w K mg base (n + 1) "letters_of" (spF K J (fun k => .ref (ca k)) (run T n 11 none))
  | 12 => FnAt P w K mg base (n + 1) "is_map" (spF K J (fun k => .ref (ca k)) (run T n 12 none))
  | 13 => FnAt P w K mg base (n + 1) "need_map" (spF K J (fun k => .ref (ca k)) (run T n 13 none))
  | 14 => FnAt P w K mg base (n + 1) "land_strings" (spF K J (fun k => .ref (ca k)) (run T n 14 none))
  | 17 => FnAt P w K mg base (n + 1) "_law_drawn" (spF K J (fun k => .ref (ca k)) (run T n 17 none))
  | 18 => FnAt P w K mg base (n + 1) "_law_roll" (spIO K J fun m => run T n 18 (some m))
  | 33 => FnAt P w K mg base (n + 1) "partner" (spF K J (fun k => .ref (ca k)) (run T n 33 none))
  | 42 => FnAt P w K mg base (n + 1) "need_border" (spF K J (fun k => .ref (ca k)) (run T n 42 none))
  | 43 => FnAt P w K mg base (n + 1) "lands_of" (spF K J (fun k => .ref (ca k)) (run T n 43 none))
  | 44 => FnAt P w K mg base (n + 1) "between" (spF K J (fun k => .ref (ca k)) (run T n 44 none))
  | 55 => FnAt P w K mg base (n + 1) "neighbours_before" (spF K J (fun k => .ref (ca k)) (run T n 55 none))
  | 56 => FnAt P w K mg base (n + 1) "coloured" (spF K J (fun k => .ref (ca k)) (run T n 56 none))
  | 62 => FnAt P w K mg base (n + 1) "is_whole" (spF K J (fun k => .ref (ca k)) (run T n 62 none))
  | 63 => FnAt P w K mg base (n + 1) "need_count" (spF K J (fun k => .ref (ca k)) (run T n 63 none))
  | 65 => FnAt P w K mg base (n + 1) "colouring" (spF K J (fun k => .ref (ca k)) (run T n 65 none))
  | 71 => FnAt P w K mg base (n + 1) "renamed" (spF K J (fun k => .ref (ca k)) (run T n 71 none))
  | 72 => FnAt P w K mg base (n + 1) "taken_away" (spF K J (fun k => .ref (ca k)) (run T n 72 none))
  | 73 => FnAt P w K mg base (n + 1) "without" (spF K J (fun k => .ref (ca k)) (run T n 73 none))
  | 74 => FnAt P w K mg base (n + 1) "pulled" (spF K J (fun k => .ref (ca k)) (run T n 74 none))
  | 94 => FnAt P w K mg base (n + 1) "need_point" (spF K J (fun k => .ref (ca k)) (run T n 94 none))
  | 95 => FnAt P w K mg base (n + 1) "need_land" (spF K J (fun k => .ref (ca k)) (run T n 95 none))
  | 96 => FnAt P w K mg base (n + 1) "distance" (spF K J (fun k => .ref (ca k)) (run T n 96 none))
  | 97 => FnAt P w K mg base (n + 1) "fewest_passed" (spF K J (fun k => .ref (ca k)) (run T n 97 none))
  | 98 => FnAt P w K mg base (n + 1) "fewest_crossed" (spF K J (fun k => .ref (ca k)) (run T n 98 none))
  | 100 => FnAt P w K mg base (n + 1) "need_place" (spF K J (fun k => .ref (ca k)) (run T n 100 none))
  | 101 => FnAt P w K mg base (n + 1) "with_letter" (spF K J (fun k => .ref (ca k)) (run T n 101 none))
  | 107 => FnAt P w K mg base (n + 1) "parse_map" (spF K J (fun k => .ref (ca k)) (run T n 107 none))
  | 111 => FnAtT P w K mg base (n + 1) "taken_away" (spF K J (fun k => .ref (ca k)) (run T n 111 none))
  | 112 => FnAtT P w K mg base (n + 1) "without" (spF K J (fun k => .ref (ca k)) (run T n 112 none))
  | 113 => MkAt P w K mg base (n + 1) (spI K J (fun k => .ref (ca k)) fun l => run T n 113 (some []) l)
  | 114 => MtAt P w K mg base (n + 1) "draw" (spM K J (fun k => .ref (ca k)) fun m => run T n 114 (some m))
  | 115 => MtAt P w K mg base (n + 1) "redo" (spM K J (fun k => .ref (ca k)) fun m => run T n 115 (some m))
  | _ => True
theorem sc_is_whole : FnScope ["value", "low", "high"] ["value", "low", "high"] (defScope s_is_whole) := ⟨rfl, rfl, rfl, by decide +kernel, rfl, by decide +kernel, by decide +kernel⟩
theorem d_is_whole (Z : Txt K mg ca tk0) (n : Nat) (G : ∀ f, At P w K mg base J ca n f) (fa : Addr) (W : Ent) (E : XK) (cdv : Value) (A : Around) (outer : List PySem.Env) (s : Shared) (H : Hp) (hp : Free W []) (hr : Room (n + 1) (A.deeper (PyProof.Rows.envOfC "is_whole" (defScope s_is_whole) s.heap.objs.size fa cdv))) :
    PSs (cxOf (L2N.CX P w) P w K mg base ["value", "low", "high"] "is_whole" (defScope s_is_whole) fa cdv A outer s H E) (defBody s_is_whole) (TSv K (cfg J hJ (fun k => .ref (ca k)) (run T n) W E) b_is_whole) := by
  have nd := (sc_is_whole).nd
  have hu : (A.deeper (PyProof.Rows.envOfC "is_whole" (defScope s_is_whole) s.heap.objs.size fa cdv)).units + 64 < cLine := hr.units
  have hu1 : (A.deeper (PyProof.Rows.envOfC "is_whole" (defScope s_is_whole) s.heap.objs.size fa cdv)).units + 1 < cLine := by omega
  have hc : (cxOf (L2N.CX P w) P w K mg base ["value", "low", "high"] "is_whole" (defScope s_is_whole) fa cdv A outer s H E).calm = true := rfl
  have tk : L2N.Takes (cxOf (L2N.CX P w) P w K mg base ["value", "low", "high"] "is_whole" (defScope s_is_whole) fa cdv A outer s H E) (fun cls d _ H => E cls d H) := L2N.takes_of rfl rfl rfl rfl
  have hx : Passes (L2N.CX P w) (cxOf (L2N.CX P w) P w K mg base ["value", "low", "high"] "is_whole" (defScope s_is_whole) fa cdv A outer s H E) E := L2N.passes_call tk (fun _ _ _ _ h => h)
  have po : PassesOwn (model P w) (cxOf (L2N.CX P w) P w K mg base ["value", "low", "high"] "is_whole" (defScope s_is_whole) fa cdv A outer s H E).A (cxOf (L2N.CX P w) P w K mg base ["value", "low", "high"] "is_whole" (defScope s_is_whole) fa cdv A outer s H E).env (cxOf (L2N.CX P w) P w K mg base ["value", "low", "high"] "is_whole" (defScope s_is_whole) fa cdv A outer s H E).xe := passes_of rfl
  exact (ss_one (ss_ret (sv_and (sv_isint (by rfl) Z.b_isinstance (by rfl) Z.b_int (sv_var (i := 0))) (sv_and (sv_not (sv_isbool (by rfl) Z.b_isinstance (by rfl) Z.b_bool (sv_var (i := 0)))) (sv_one (sv_lele (sv_var (i := 1)) (sv_var (i := 0)) (sv_var (i := 2))))))))
theorem sc_is_drawing : FnScope ["value", "one", "text", "many"] ["value"] (defScope s_is_drawing) := ⟨rfl, rfl, rfl, by decide +kernel, rfl, by decide +kernel, by decide +kernel⟩
theorem d_is_drawing (Z : Txt K mg ca tk0) (n : Nat) (G : ∀ f, At P w K mg base J ca n f) (fa : Addr) (W : Ent) (E : XK) (cdv : Value) (A : Around) (outer : List PySem.Env) (s : Shared) (H : Hp) (hp : Free W []) (hr : Room (n + 1) (A.deeper (PyProof.Rows.envOfC "is_drawing" (defScope s_is_drawing) s.heap.objs.size fa cdv))) :
    PSs (cxOf (L2N.CX P w) P w K mg base ["value", "one", "text", "many"] "is_drawing" (defScope s_is_drawing) fa cdv A outer s H E) (defBody s_is_drawing) (TSv K (cfg J hJ (fun k => .ref (ca k)) (run T n) W E) b_is_drawing) := by
  have nd := (sc_is_drawing).nd
  have hu : (A.deeper (PyProof.Rows.envOfC "is_drawing" (defScope s_is_drawing) s.heap.objs.size fa cdv)).units + 64 < cLine := hr.units
  have hu1 : (A.deeper (PyProof.Rows.envOfC "is_drawing" (defScope s_is_drawing) s.heap.objs.size fa cdv)).units + 1 < cLine := by omega
  have hc : (cxOf (L2N.CX P w) P w K mg base ["value", "one", "text", "many"] "is_drawing" (defScope s_is_drawing) fa cdv A outer s H E).calm = true := rfl
  have tk : L2N.Takes (cxOf (L2N.CX P w) P w K mg base ["value", "one", "text", "many"] "is_drawing" (defScope s_is_drawing) fa cdv A outer s H E) (fun cls d _ H => E cls d H) := L2N.takes_of rfl rfl rfl rfl
  have hx : Passes (L2N.CX P w) (cxOf (L2N.CX P w) P w K mg base ["value", "one", "text", "many"] "is_drawing" (defScope s_is_drawing) fa cdv A outer s H E) E := L2N.passes_call tk (fun _ _ _ _ h => h)
  have po : PassesOwn (model P w) (cxOf (L2N.CX P w) P w K mg base ["value", "one", "text", "many"] "is_drawing" (defScope s_is_drawing) fa cdv A outer s H E).A (cxOf (L2N.CX P w) P w K mg base ["value", "one", "text", "many"] "is_drawing" (defScope s_is_drawing) fa cdv A outer s H E).env (cxOf (L2N.CX P w) P w K mg base ["value", "one", "text", "many"] "is_drawing" (defScope s_is_drawing) fa cdv A outer s H E).xe := passes_of rfl
  exact (ss_cons (ss_if (PW.pt (sx_or (sw_not (sw_val (sv_istup (by rfl) Z.b_isinstance (by rfl) Z.b_tuple (sv_var (i := 0))))) (sx_or1 (sw_not (sw_val (sv_all hc (by rfl) Z.b_all (sv_lc hc nd (si_seq (sv_var (i := 0))) (blkOk_by (N := ["value", "one", "text", "many"]) (sc := defScope s_is_drawing) (own := [("one", 1)]) (by decide +kernel)) to_name rfl (fun _ _ _ _ _ => (pg_name (i := 1) nd rfl (Or.inl rfl))) (fun _ _ _ _ _ => st_nil) (fun _ _ _ _ _ => (sv_and (sv_isstr (by rfl) Z.b_isinstance (by rfl) Z.b_str (sv_var (i := 1))) (sv_one (sv_ne hu (sv_var (i := 1)) sv_strL))))))))))) (ss_one (ss_ret sv_bool)) ss_nil) (ss_cons (ss_asg tg_name (sv_join sv_strL (sv_var (i := 0))) (pg_name (i := 2) nd rfl (Or.inl rfl))) (ss_cons (ss_asg tg_name (sv_fdiv (sv_len (by rfl) Z.b_len (sv_var (i := 2))) sv_int) (pg_name (i := 3) nd rfl (Or.inl rfl))) (ss_one (ss_ret (sv_and (sv_lele sv_int (sv_len (by rfl) Z.b_len (sv_var (i := 2))) sv_int) (sv_one (sv_eq hu (sv_sorted hc hu (by rfl) Z.b_sorted (sv_var (i := 2))) (sv_sorted hc hu (by rfl) Z.b_sorted (sv_mul (sv_slcH (sv_gstrL (by rfl) Z.g_NAMES) (sv_var (i := 3))) sv_int))))))))))
theorem sc_ends_in : FnScope ["chart", "found", "point", "row", "place"] ["chart"] (defScope s_ends_in) := ⟨rfl, rfl, rfl, by decide +kernel, rfl, by decide +kernel, by decide +kernel⟩
theorem d_ends_in (Z : Txt K mg ca tk0) (n : Nat) (G : ∀ f, At P w K mg base J ca n f) (fa : Addr) (W : Ent) (E : XK) (cdv : Value) (A : Around) (outer : List PySem.Env) (s : Shared) (H : Hp) (hp : Free W []) (hr : Room (n + 1) (A.deeper (PyProof.Rows.envOfC "ends_in" (defScope s_ends_in) s.heap.objs.size fa cdv))) :
    PSs (cxOf (L2N.CX P w) P w K mg base ["chart", "found", "point", "row", "place"] "ends_in" (defScope s_ends_in) fa cdv A outer s H E) (defBody s_ends_in) (TSv K (cfg J hJ (fun k => .ref (ca k)) (run T n) W E) b_ends_in) := by
  have nd := (sc_ends_in).nd
  have hu : (A.deeper (PyProof.Rows.envOfC "ends_in" (defScope s_ends_in) s.heap.objs.size fa cdv)).units + 64 < cLine := hr.units
  have hu1 : (A.deeper (PyProof.Rows.envOfC "ends_in" (defScope s_ends_in) s.heap.objs.size fa cdv)).units + 1 < cLine := by omega
  have hc : (cxOf (L2N.CX P w) P w K mg base ["chart", "found", "point", "row", "place"] "ends_in" (defScope s_ends_in) fa cdv A outer s H E).calm = true := rfl
  have tk : L2N.Takes (cxOf (L2N.CX P w) P w K mg base ["chart", "found", "point", "row", "place"] "ends_in" (defScope s_ends_in) fa cdv A outer s H E) (fun cls d _ H => E cls d H) := L2N.takes_of rfl rfl rfl rfl
  have hx : Passes (L2N.CX P w) (cxOf (L2N.CX P w) P w K mg base ["chart", "found", "point", "row", "place"] "ends_in" (defScope s_ends_in) fa cdv A outer s H E) E := L2N.passes_call tk (fun _ _ _ _ h => h)
  have po : PassesOwn (model P w) (cxOf (L2N.CX P w) P w K mg base ["chart", "found", "point", "row", "place"] "ends_in" (defScope s_ends_in) fa cdv A outer s H E).A (cxOf (L2N.CX P w) P w K mg base ["chart", "found", "point", "row", "place"] "ends_in" (defScope s_ends_in) fa cdv A outer s H E).env (cxOf (L2N.CX P w) P w K mg base ["chart", "found", "point", "row", "place"] "ends_in" (defScope s_ends_in) fa cdv A outer s H E).xe := passes_of rfl
  exact (ss_cons (ss_asg tg_name (sv_mkl sa_nil) (pg_name (i := 1) nd rfl (Or.inl rfl))) (ss_cons (ss_for po hc (si_enum (by rfl) Z.b_enumerate (sa_cons (sv_var (i := 0)) sa_nil)) (tg_tup rfl) (pg_tup hc (pgs_names (pg_name (i := 2) nd rfl (Or.inr rfl)) (pgs_names (pg_name (i := 3) nd rfl (Or.inl rfl)) pgs_none))) (ss_one (ss_asg tg_name (sv_add (sv_var (i := 1)) (sv_lc hc nd (si_range1 (by rfl) Z.b_range (sa_cons (sv_len (by rfl) Z.b_len (sv_var (i := 3))) sa_nil)) (blkOk_by (N := ["chart", "found", "point", "row", "place"]) (sc := defScope s_ends_in) (own := [("place", 4)]) (by decide +kernel)) to_name rfl (fun _ _ _ _ _ => (pg_name (i := 4) nd rfl (Or.inl rfl))) (fun _ _ _ _ _ => st_nil) (fun _ _ _ _ _ => (sv_mkt (sa_cons (sv_var (i := 2)) (sa_cons (sv_var (i := 4)) sa_nil)))))) (pg_name (i := 1) nd rfl (Or.inl rfl))))) (ss_one (ss_ret (sv_var (i := 1))))))
theorem sc_letter_at : FnScope ["chart", "end"] ["chart", "end"] (defScope s_letter_at) := ⟨rfl, rfl, rfl, by decide +kernel, rfl, by decide +kernel, by decide +kernel⟩
theorem d_letter_at (Z : Txt K mg ca tk0) (n : Nat) (G : ∀ f, At P w K mg base J ca n f) (fa : Addr) (W : Ent) (E : XK) (cdv : Value) (A : Around) (outer : List PySem.Env) (s : Shared) (H : Hp) (hp : Free W []) (hr : Room (n + 1) (A.deeper (PyProof.Rows.envOfC "letter_at" (defScope s_letter_at) s.heap.objs.size fa cdv))) :
    PSs (cxOf (L2N.CX P w) P w K mg base ["chart", "end"] "letter_at" (defScope s_letter_at) fa cdv A outer s H E) (defBody s_letter_at) (TSv K (cfg J hJ (fun k => .ref (ca k)) (run T n) W E) b_letter_at) := by
  have nd := (sc_letter_at).nd
  have hu : (A.deeper (PyProof.Rows.envOfC "letter_at" (defScope s_letter_at) s.heap.objs.size fa cdv)).units + 64 < cLine := hr.units
  have hu1 : (A.deeper (PyProof.Rows.envOfC "letter_at" (defScope s_letter_at) s.heap.objs.size fa cdv)).units + 1 < cLine := by omega
  have hc : (cxOf (L2N.CX P w) P w K mg base ["chart", "end"] "letter_at" (defScope s_letter_at) fa cdv A outer s H E).calm = true := rfl
  have tk : L2N.Takes (cxOf (L2N.CX P w) P w K mg base ["chart", "end"] "letter_at" (defScope s_letter_at) fa cdv A outer s H E) (fun cls d _ H => E cls d H) := L2N.takes_of rfl rfl rfl rfl
  have hx : Passes (L2N.CX P w) (cxOf (L2N.CX P w) P w K mg base ["chart", "end"] "letter_at" (defScope s_letter_at) fa cdv A outer s H E) E := L2N.passes_call tk (fun _ _ _ _ h => h)
  have po : PassesOwn (model P w) (cxOf (L2N.CX P w) P w K mg base ["chart", "end"] "letter_at" (defScope s_letter_at) fa cdv A outer s H E).A (cxOf (L2N.CX P w) P w K mg base ["chart", "end"] "letter_at" (defScope s_letter_at) fa cdv A outer s H E).env (cxOf (L2N.CX P w) P w K mg base ["chart", "end"] "letter_at" (defScope s_letter_at) fa cdv A outer s H E).xe := passes_of rfl
  exact (ss_one (ss_ret (sv_item (sv_item (sv_var (i := 0)) (sv_item (sv_var (i := 1)) sv_int)) (sv_item (sv_var (i := 1)) sv_int))))
theorem sc_other_end : FnScope ["chart", "end", "letter", "point", "row", "place"] ["chart", "end"] (defScope s_other_end) := ⟨rfl, rfl, rfl, by decide +kernel, rfl, by decide +kernel, by decide +kernel⟩
theorem d_other_end (Z : Txt K mg ca tk0) (n : Nat) (G : ∀ f, At P w K mg base J ca n f) (fa : Addr) (W : Ent) (E : XK) (cdv : Value) (A : Around) (outer : List PySem.Env) (s : Shared) (H : Hp) (hp : Free W []) (hr : Room (n + 1) (A.deeper (PyProof.Rows.envOfC "other_end" (defScope s_other_end) s.heap.objs.size fa cdv))) :
    PSs (cxOf (L2N.CX P w) P w K mg base ["chart", "end", "letter", "point", "row", "place"] "other_end" (defScope s_other_end) fa cdv A outer s H E) (defBody s_other_end) (TSv K (cfg J hJ (fun k => .ref (ca k)) (run T n) W E) b_other_end) := by
  have nd := (sc_other_end).nd
  have hu : (A.deeper (PyProof.Rows.envOfC "other_end" (defScope s_other_end) s.heap.objs.size fa cdv)).units + 64 < cLine := hr.units
  have hu1 : (A.deeper (PyProof.Rows.envOfC "other_end" (defScope s_other_end) s.heap.objs.size fa cdv)).units + 1 < cLine := by omega
  have hc : (cxOf (L2N.CX P w) P w K mg base ["chart", "end", "letter", "point", "row", "place"] "other_end" (defScope s_other_end) fa cdv A outer s H E).calm = true := rfl
  have tk : L2N.Takes (cxOf (L2N.CX P w) P w K mg base ["chart", "end", "letter", "point", "row", "place"] "other_end" (defScope s_other_end) fa cdv A outer s H E) (fun cls d _ H => E cls d H) := L2N.takes_of rfl rfl rfl rfl
  have hx : Passes (L2N.CX P w) (cxOf (L2N.CX P w) P w K mg base ["chart", "end", "letter", "point", "row", "place"] "other_end" (defScope s_other_end) fa cdv A outer s H E) E := L2N.passes_call tk (fun _ _ _ _ h => h)
  have po : PassesOwn (model P w) (cxOf (L2N.CX P w) P w K mg base ["chart", "end", "letter", "point", "row", "place"] "other_end" (defScope s_other_end) fa cdv A outer s H E).A (cxOf (L2N.CX P w) P w K mg base ["chart", "end", "letter", "point", "row", "place"] "other_end" (defScope s_other_end) fa cdv A outer s H E).env (cxOf (L2N.CX P w) P w K mg base ["chart", "end", "letter", "point", "row", "place"] "other_end" (defScope s_other_end) fa cdv A outer s H E).xe := passes_of rfl
  exact (ss_cons (ss_asg tg_name (sv_call (f := 2) (G 2) hr hx (by rfl) (sa_cons (sv_var (i := 0)) (sa_cons (sv_var (i := 1)) sa_nil))) (pg_name (i := 2) nd rfl (Or.inl rfl))) (ss_cons (ss_for po hc (si_enum (by rfl) Z.b_enumerate (sa_cons (sv_var (i := 0)) sa_nil)) (tg_tup rfl) (pg_tup hc (pgs_names (pg_name (i := 3) nd rfl (Or.inl rfl)) (pgs_names (pg_name (i := 4) nd rfl (Or.inl rfl)) pgs_none))) (ss_cons (ss_asg tg_name (sv_find (sv_var (i := 4)) (sv_var (i := 2))) (pg_name (i := 5) nd rfl (Or.inl rfl))) (ss_cons (ss_if (sw_eq hu (sv_mkt (sa_cons (sv_var (i := 3)) (sa_cons (sv_var (i := 5)) sa_nil))) (sv_var (i := 1))) (ss_one (ss_asg tg_name (sv_find2 (sv_var (i := 4)) (sv_var (i := 2)) (sv_add (sv_var (i := 5)) sv_int)) (pg_name (i := 5) nd rfl (Or.inl rfl)))) ss_nil) (ss_one (ss_if (sw_ge (sv_var (i := 5)) sv_int) (ss_one (ss_ret (sv_mkt (sa_cons (sv_var (i := 3)) (sa_cons (sv_var (i := 5)) sa_nil))))) ss_nil))))) (ss_one (ss_ret (sv_var (i := 1))))))
theorem sc_next_around : FnScope ["chart", "end"] ["chart", "end"] (defScope s_next_around) := ⟨rfl, rfl, rfl, by decide +kernel, rfl, by decide +kernel, by decide +kernel⟩
theorem d_next_around (Z : Txt K mg ca tk0) (n : Nat) (G : ∀ f, At P w K mg base J ca n f) (fa : Addr) (W : Ent) (E : XK) (cdv : Value) (A : Around) (outer : List PySem.Env) (s : Shared) (H : Hp) (hp : Free W []) (hr : Room (n + 1) (A.deeper (PyProof.Rows.envOfC "next_around" (defScope s_next_around) s.heap.objs.size fa cdv))) :
    PSs (cxOf (L2N.CX P w) P w K mg base ["chart", "end"] "next_around" (defScope s_next_around) fa cdv A outer s H E) (defBody s_next_around) (TSv K (cfg J hJ (fun k => .ref (ca k)) (run T n) W E) b_next_around) := by
  have nd := (sc_next_around).nd
  have hu : (A.deeper (PyProof.Rows.envOfC "next_around" (defScope s_next_around) s.heap.objs.size fa cdv)).units + 64 < cLine := hr.units
  have hu1 : (A.deeper (PyProof.Rows.envOfC "next_around" (defScope s_next_around) s.heap.objs.size fa cdv)).units + 1 < cLine := by omega
  have hc : (cxOf (L2N.CX P w) P w K mg base ["chart", "end"] "next_around" (defScope s_next_around) fa cdv A outer s H E).calm = true := rfl
  have tk : L2N.Takes (cxOf (L2N.CX P w) P w K mg base ["chart", "end"] "next_around" (defScope s_next_around) fa cdv A outer s H E) (fun cls d _ H => E cls d H) := L2N.takes_of rfl rfl rfl rfl
  have hx : Passes (L2N.CX P w) (cxOf (L2N.CX P w) P w K mg base ["chart", "end"] "next_around" (defScope s_next_around) fa cdv A outer s H E) E := L2N.passes_call tk (fun _ _ _ _ h => h)
  have po : PassesOwn (model P w) (cxOf (L2N.CX P w) P w K mg base ["chart", "end"] "next_around" (defScope s_next_around) fa cdv A outer s H E).A (cxOf (L2N.CX P w) P w K mg base ["chart", "end"] "next_around" (defScope s_next_around) fa cdv A outer s H E).env (cxOf (L2N.CX P w) P w K mg base ["chart", "end"] "next_around" (defScope s_next_around) fa cdv A outer s H E).xe := passes_of rfl
  exact (ss_one (ss_ret (sv_mkt (sa_cons (sv_item (sv_var (i := 1)) sv_int) (sa_cons (sv_mod (sv_add (sv_item (sv_var (i := 1)) sv_int) sv_int) (sv_len (by rfl) Z.b_len (sv_item (sv_var (i := 0)) (sv_item (sv_var (i := 1)) sv_int)))) sa_nil)))))
theorem sc_gone_on : FnScope ["chart", "end"] ["chart", "end"] (defScope s_gone_on) := ⟨rfl, rfl, rfl, by decide +kernel, rfl, by decide +kernel, by decide +kernel⟩
theorem d_gone_on (Z : Txt K mg ca tk0) (n : Nat) (G : ∀ f, At P w K mg base J ca n f) (fa : Addr) (W : Ent) (E : XK) (cdv : Value) (A : Around) (outer : List PySem.Env) (s : Shared) (H : Hp) (hp : Free W []) (hr : Room (n + 1) (A.deeper (PyProof.Rows.envOfC "gone_on" (defScope s_gone_on) s.heap.objs.size fa cdv))) :
    PSs (cxOf (L2N.CX P w) P w K mg base ["chart", "end"] "gone_on" (defScope s_gone_on) fa cdv A outer s H E) (defBody s_gone_on) (TSv K (cfg J hJ (fun k => .ref (ca k)) (run T n) W E) b_gone_on) := by
  have nd := (sc_gone_on).nd
  have hu : (A.deeper (PyProof.Rows.envOfC "gone_on" (defScope s_gone_on) s.heap.objs.size fa cdv)).units + 64 < cLine := hr.units
  have hu1 : (A.deeper (PyProof.Rows.envOfC "gone_on" (defScope s_gone_on) s.heap.objs.size fa cdv)).units + 1 < cLine := by omega
  have hc : (cxOf (L2N.CX P w) P w K mg base ["chart", "end"] "gone_on" (defScope s_gone_on) fa cdv A outer s H E).calm = true := rfl
  have tk : L2N.Takes (cxOf (L2N.CX P w) P w K mg base ["chart", "end"] "gone_on" (defScope s_gone_on) fa cdv A outer s H E) (fun cls d _ H => E cls d H) := L2N.takes_of rfl rfl rfl rfl
  have hx : Passes (L2N.CX P w) (cxOf (L2N.CX P w) P w K mg base ["chart", "end"] "gone_on" (defScope s_gone_on) fa cdv A outer s H E) E := L2N.passes_call tk (fun _ _ _ _ h => h)
  have po : PassesOwn (model P w) (cxOf (L2N.CX P w) P w K mg base ["chart", "end"] "gone_on" (defScope s_gone_on) fa cdv A outer s H E).A (cxOf (L2N.CX P w) P w K mg base ["chart", "end"] "gone_on" (defScope s_gone_on) fa cdv A outer s H E).env (cxOf (L2N.CX P w) P w K mg base ["chart", "end"] "gone_on" (defScope s_gone_on) fa cdv A outer s H E).xe := passes_of rfl
  exact (ss_one (ss_ret (sv_call (f := 4) (G 4) hr hx (by rfl) (sa_cons (sv_var (i := 0)) (sa_cons (sv_call (f := 3) (G 3) hr hx (by rfl) (sa_cons (sv_var (i := 0)) (sa_cons (sv_var (i := 1)) sa_nil))) sa_nil)))))
theorem sc_least_turn : FnScope ["text", "at"] ["text"] (defScope s_least_turn) := ⟨rfl, rfl, rfl, by decide +kernel, rfl, by decide +kernel, by decide +kernel⟩
theorem d_least_turn (Z : Txt K mg ca tk0) (n : Nat) (G : ∀ f, At P w K mg base J ca n f) (fa : Addr) (W : Ent) (E : XK) (cdv : Value) (A : Around) (outer : List PySem.Env) (s : Shared) (H : Hp) (hp : Free W []) (hr : Room (n + 1) (A.deeper (PyProof.Rows.envOfC "least_turn" (defScope s_least_turn) s.heap.objs.size fa cdv))) :
    PSs (cxOf (L2N.CX P w) P w K mg base ["text", "at"] "least_turn" (defScope s_least_turn) fa cdv A outer s H E) (defBody s_least_turn) (TSv K (cfg J hJ (fun k => .ref (ca k)) (run T n) W E) b_least_turn) := by
  have nd := (sc_least_turn).nd
  have hu : (A.deeper (PyProof.Rows.envOfC "least_turn" (defScope s_least_turn) s.heap.objs.size fa cdv)).units + 64 < cLine := hr.units
  have hu1 : (A.deeper (PyProof.Rows.envOfC "least_turn" (defScope s_least_turn) s.heap.objs.size fa cdv)).units + 1 < cLine := by omega
  have hc : (cxOf (L2N.CX P w) P w K mg base ["text", "at"] "least_turn" (defScope s_least_turn) fa cdv A outer s H E).calm = true := rfl
  have tk : L2N.Takes (cxOf (L2N.CX P w) P w K mg base ["text", "at"] "least_turn" (defScope s_least_turn) fa cdv A outer s H E) (fun cls d _ H => E cls d H) := L2N.takes_of rfl rfl rfl rfl
  have hx : Passes (L2N.CX P w) (cxOf (L2N.CX P w) P w K mg base ["text", "at"] "least_turn" (defScope s_least_turn) fa cdv A outer s H E) E := L2N.passes_call tk (fun _ _ _ _ h => h)
  have po : PassesOwn (model P w) (cxOf (L2N.CX P w) P w K mg base ["text", "at"] "least_turn" (defScope s_least_turn) fa cdv A outer s H E).A (cxOf (L2N.CX P w) P w K mg base ["text", "at"] "least_turn" (defScope s_least_turn) fa cdv A outer s H E).env (cxOf (L2N.CX P w) P w K mg base ["text", "at"] "least_turn" (defScope s_least_turn) fa cdv A outer s H E).xe := passes_of rfl
  exact (ss_one (ss_ret (sv_min1 hc hu (by rfl) Z.b_min (sv_lc hc nd (si_range1 (by rfl) Z.b_range (sa_cons (sv_len (by rfl) Z.b_len (sv_var (i := 0))) sa_nil)) (blkOk_by (N := ["text", "at"]) (sc := defScope s_least_turn) (own := [("at", 1)]) (by decide +kernel)) to_name rfl (fun _ _ _ _ _ => (pg_name (i := 1) nd rfl (Or.inl rfl))) (fun _ _ _ _ _ => st_nil) (fun _ _ _ _ _ => (sv_add (sv_slcL (sv_var (i := 0)) (sv_var (i := 1))) (sv_slcH (sv_var (i := 0)) (sv_var (i := 1)))))))))
theorem sc_rounds : FnScope ["chart", "found", "seen", "end", "some", "text", "one", "first"] ["chart"] (defScope s_rounds) := ⟨rfl, rfl, rfl, by decide +kernel, rfl, by decide +kernel, by decide +kernel⟩
theorem d_rounds (Z : Txt K mg ca tk0) (n : Nat) (G : ∀ f, At P w K mg base J ca n f) (fa : Addr) (W : Ent) (E : XK) (cdv : Value) (A : Around) (outer : List PySem.Env) (s : Shared) (H : Hp) (hp : Free W []) (hr : Room (n + 1) (A.deeper (PyProof.Rows.envOfC "rounds" (defScope s_rounds) s.heap.objs.size fa cdv))) :
    PSs (cxOf (L2N.CX P w) P w K mg base ["chart", "found", "seen", "end", "some", "text", "one", "first"] "rounds" (defScope s_rounds) fa cdv A outer s H E) (defBody s_rounds) (TSv K (cfg J hJ (fun k => .ref (ca k)) (run T n) W E) b_rounds) := by
  have nd := (sc_rounds).nd
  have hu : (A.deeper (PyProof.Rows.envOfC "rounds" (defScope s_rounds) s.heap.objs.size fa cdv)).units + 64 < cLine := hr.units
  have hu1 : (A.deeper (PyProof.Rows.envOfC "rounds" (defScope s_rounds) s.heap.objs.size fa cdv)).units + 1 < cLine := by omega
  have hc : (cxOf (L2N.CX P w) P w K mg base ["chart", "found", "seen", "end", "some", "text", "one", "first"] "rounds" (defScope s_rounds) fa cdv A outer s H E).calm = true := rfl
  have tk : L2N.Takes (cxOf (L2N.CX P w) P w K mg base ["chart", "found", "seen", "end", "some", "text", "one", "first"] "rounds" (defScope s_rounds) fa cdv A outer s H E) (fun cls d _ H => E cls d H) := L2N.takes_of rfl rfl rfl rfl
  have hx : Passes (L2N.CX P w) (cxOf (L2N.CX P w) P w K mg base ["chart", "found", "seen", "end", "some", "text", "one", "first"] "rounds" (defScope s_rounds) fa cdv A outer s H E) E := L2N.passes_call tk (fun _ _ _ _ h => h)
  have po : PassesOwn (model P w) (cxOf (L2N.CX P w) P w K mg base ["chart", "found", "seen", "end", "some", "text", "one", "first"] "rounds" (defScope s_rounds) fa cdv A outer s H E).A (cxOf (L2N.CX P w) P w K mg base ["chart", "found", "seen", "end", "some", "text", "one", "first"] "rounds" (defScope s_rounds) fa cdv A outer s H E).env (cxOf (L2N.CX P w) P w K mg base ["chart", "found", "seen", "end", "some", "text", "one", "first"] "rounds" (defScope s_rounds) fa cdv A outer s H E).xe := passes_of rfl
  exact (ss_cons (ss_par2 (i := 1) (j := 2) hc nd rfl rfl (by decide) rfl rfl (saf_cons (sf_list sa_nil) (saf_cons sf_dT saf_nil)) rfl) (ss_cons (ss_for po hc (si_seq (sv_call (f := 1) (G 1) hr hx (by rfl) (sa_cons (sv_var (i := 0)) sa_nil))) tg_name (pg_name (i := 3) nd rfl (Or.inl rfl)) (ss_one (ss_if (sw_dNotIn hu1 (pv 2) (sv_var (i := 3))) (ss_cons (ss_asgM (i := 4) nd rfl (Or.inl rfl) (sf_list sa_nil)) (ss_cons (ss_while po (sw_dNotIn hu1 (pv 2) (sv_var (i := 3))) (ss_cons (ss_dput (i := 2) hu1 (pv 2) (sv_var (i := 3)) sv_bool) (ss_cons (ss_append (i := 4) (pv 4) (sv_var (i := 3))) (ss_one (ss_asg tg_name (sv_call (f := 5) (G 5) hr hx (by rfl) (sa_cons (sv_var (i := 0)) (sa_cons (sv_var (i := 3)) sa_nil))) (pg_name (i := 3) nd rfl (Or.inl rfl))))))) (ss_cons (ss_asg tg_name (sv_join sv_strL (sv_lc hc nd (si_seq (sv_var (i := 4))) (blkOk_by (N := ["chart", "found", "seen", "end", "some", "text", "one", "first"]) (sc := defScope s_rounds) (own := [("one", 6)]) (by decide +kernel)) to_name rfl (fun _ _ _ _ _ => (pg_name (i := 6) nd rfl (Or.inl rfl))) (fun _ _ _ _ _ => st_nil) (fun _ _ _ _ _ => (sv_call (f := 2) (G 2) hr (L2N.passes_call takesN0 fun _ _ _ _ h => h) (by rfl) (sa_cons (sv_var (i := 0)) (sa_cons (sv_var (i := 6)) sa_nil)))))) (pg_name (i := 5) nd rfl (Or.inl rfl))) (ss_one (ss_append (i := 1) (pv 1) (sv_mkt (sa_cons (sv_call (f := 6) (G 6) hr hx (by rfl) (sa_cons (sv_var (i := 5)) sa_nil)) (sa_cons (sv_min1 hc hu (by rfl) Z.b_min (sv_var (i := 4))) (sa_cons (sv_tuple (by rfl) Z.b_tuple (sv_var (i := 4))) sa_nil))))))))) ss_nil))) (ss_one (ss_ret (sv_lc hc nd (si_seq (sv_sorted hc hu (by rfl) Z.b_sorted (sv_var (i := 1)))) (blkOk_by (N := ["chart", "found", "seen", "end", "some", "text", "one", "first"]) (sc := defScope s_rounds) (own := [("text", 5), ("first", 7), ("some", 4)]) (by decide +kernel)) (to_tup rfl) rfl (fun _ _ _ _ _ => (pg_tup hc (pgs_names (pg_name (i := 5) nd rfl (Or.inl rfl)) (pgs_names (pg_name (i := 7) nd rfl (Or.inl rfl)) (pgs_names (pg_name (i := 4) nd rfl (Or.inl rfl)) pgs_none))))) (fun _ _ _ _ _ => st_nil) (fun _ _ _ _ _ => (sv_mkt (sa_cons (sv_var (i := 5)) (sa_cons (sv_var (i := 4)) sa_nil)))))))))
theorem sc_reached : FnScope ["pairs", "start", "found", "left", "size", "rest", "one", "other"] ["pairs", "start"] (defScope s_reached) := ⟨rfl, rfl, rfl, by decide +kernel, rfl, by decide +kernel, by decide +kernel⟩
theorem d_reached (Z : Txt K mg ca tk0) (n : Nat) (G : ∀ f, At P w K mg base J ca n f) (fa : Addr) (W : Ent) (E : XK) (cdv : Value) (A : Around) (outer : List PySem.Env) (s : Shared) (H : Hp) (hp : Free W []) (hr : Room (n + 1) (A.deeper (PyProof.Rows.envOfC "reached" (defScope s_reached) s.heap.objs.size fa cdv))) :
    PSs (cxOf (L2N.CX P w) P w K mg base ["pairs", "start", "found", "left", "size", "rest", "one", "other"] "reached" (defScope s_reached) fa cdv A outer s H E) (defBody s_reached) (TSv K (cfg J hJ (fun k => .ref (ca k)) (run T n) W E) b_reached) := by
  have nd := (sc_reached).nd
  have hu : (A.deeper (PyProof.Rows.envOfC "reached" (defScope s_reached) s.heap.objs.size fa cdv)).units + 64 < cLine := hr.units
  have hu1 : (A.deeper (PyProof.Rows.envOfC "reached" (defScope s_reached) s.heap.objs.size fa cdv)).units + 1 < cLine := by omega
  have hc : (cxOf (L2N.CX P w) P w K mg base ["pairs", "start", "found", "left", "size", "rest", "one", "other"] "reached" (defScope s_reached) fa cdv A outer s H E).calm = true := rfl
  have tk : L2N.Takes (cxOf (L2N.CX P w) P w K mg base ["pairs", "start", "found", "left", "size", "rest", "one", "other"] "reached" (defScope s_reached) fa cdv A outer s H E) (fun cls d _ H => E cls d H) := L2N.takes_of rfl rfl rfl rfl
  have hx : Passes (L2N.CX P w) (cxOf (L2N.CX P w) P w K mg base ["pairs", "start", "found", "left", "size", "rest", "one", "other"] "reached" (defScope s_reached) fa cdv A outer s H E) E := L2N.passes_call tk (fun _ _ _ _ h => h)
  have po : PassesOwn (model P w) (cxOf (L2N.CX P w) P w K mg base ["pairs", "start", "found", "left", "size", "rest", "one", "other"] "reached" (defScope s_reached) fa cdv A outer s H E).A (cxOf (L2N.CX P w) P w K mg base ["pairs", "start", "found", "left", "size", "rest", "one", "other"] "reached" (defScope s_reached) fa cdv A outer s H E).env (cxOf (L2N.CX P w) P w K mg base ["pairs", "start", "found", "left", "size", "rest", "one", "other"] "reached" (defScope s_reached) fa cdv A outer s H E).xe := passes_of rfl
  exact (ss_cons (ss_par3 (i := 2) (j := 3) (l := 4) hc nd rfl rfl rfl (by decide) (by decide) (by decide) rfl rfl rfl (saf_cons (sf_list (sa_cons (sv_var (i := 1)) sa_nil)) (saf_cons (sf_val (sv_var (i := 0))) (saf_cons (sf_val sv_int) saf_nil))) rfl) (ss_cons (ss_while po (sw_lt (sv_var (i := 4)) (sv_peek (sv_len (by rfl) Z.b_len (sv_var (i := 2))))) (ss_cons (ss_par2 (i := 4) (j := 5) hc nd rfl rfl (by decide) rfl rfl (saf_cons (sf_val (sv_peek (sv_len (by rfl) Z.b_len (sv_var (i := 2))))) (saf_cons (sf_list sa_nil) saf_nil)) rfl) (ss_cons (ss_for po hc (si_seq (sv_var (i := 3))) (tg_tup rfl) (pg_tup hc (pgs_names (pg_name (i := 6) nd rfl (Or.inl rfl)) (pgs_names (pg_name (i := 7) nd rfl (Or.inl rfl)) pgs_none))) (ss_one (ss_if (PW.pt (sx_and (sw_peek (sw_in hu (sv_var (i := 6)) (sv_var (i := 2)))) (sx_and1 (sw_peek (sw_notin hu (sv_var (i := 7)) (sv_var (i := 2))))))) (ss_one (ss_append (i := 2) (pv 2) (sv_var (i := 7)))) (ss_one (ss_if (PW.pt (sx_and (sw_peek (sw_in hu (sv_var (i := 7)) (sv_var (i := 2)))) (sx_and1 (sw_peek (sw_notin hu (sv_var (i := 6)) (sv_var (i := 2))))))) (ss_one (ss_append (i := 2) (pv 2) (sv_var (i := 6)))) (ss_one (ss_if (sw_peek (sw_notin hu (sv_var (i := 6)) (sv_var (i := 2)))) (ss_one (ss_append (i := 5) (pv 5) (sv_mkt (sa_cons (sv_var (i := 6)) (sa_cons (sv_var (i := 7)) sa_nil))))) ss_nil))))))) (ss_one (ss_asg tg_name (sv_var (i := 5)) (pg_name (i := 3) nd rfl (Or.inl rfl))))))) (ss_one (ss_ret (sv_var (i := 2))))))
theorem sc_pairs_of : FnScope ["chart", "letters", "letter"] ["chart", "letters"] (defScope s_pairs_of) := ⟨rfl, rfl, rfl, by decide +kernel, rfl, by decide +kernel, by decide +kernel⟩
theorem d_pairs_of (Z : Txt K mg ca tk0) (n : Nat) (G : ∀ f, At P w K mg base J ca n f) (fa : Addr) (W : Ent) (E : XK) (cdv : Value) (A : Around) (outer : List PySem.Env) (s : Shared) (H : Hp) (hp : Free W []) (hr : Room (n + 1) (A.deeper (PyProof.Rows.envOfC "pairs_of" (defScope s_pairs_of) s.heap.objs.size fa cdv))) :
    PSs (cxOf (L2N.CX P w) P w K mg base ["chart", "letters", "letter"] "pairs_of" (defScope s_pairs_of) fa cdv A outer s H E) (defBody s_pairs_of) (TSv K (cfg J hJ (fun k => .ref (ca k)) (run T n) W E) b_pairs_of) := by
  have nd := (sc_pairs_of).nd
  have hu : (A.deeper (PyProof.Rows.envOfC "pairs_of" (defScope s_pairs_of) s.heap.objs.size fa cdv)).units + 64 < cLine := hr.units
  have hu1 : (A.deeper (PyProof.Rows.envOfC "pairs_of" (defScope s_pairs_of) s.heap.objs.size fa cdv)).units + 1 < cLine := by omega
  have hc : (cxOf (L2N.CX P w) P w K mg base ["chart", "letters", "letter"] "pairs_of" (defScope s_pairs_of) fa cdv A outer s H E).calm = true := rfl
  have tk : L2N.Takes (cxOf (L2N.CX P w) P w K mg base ["chart", "letters", "letter"] "pairs_of" (defScope s_pairs_of) fa cdv A outer s H E) (fun cls d _ H => E cls d H) := L2N.takes_of rfl rfl rfl rfl
  have hx : Passes (L2N.CX P w) (cxOf (L2N.CX P w) P w K mg base ["chart", "letters", "letter"] "pairs_of" (defScope s_pairs_of) fa cdv A outer s H E) E := L2N.passes_call tk (fun _ _ _ _ h => h)
  have po : PassesOwn (model P w) (cxOf (L2N.CX P w) P w K mg base ["chart", "letters", "letter"] "pairs_of" (defScope s_pairs_of) fa cdv A outer s H E).A (cxOf (L2N.CX P w) P w K mg base ["chart", "letters", "letter"] "pairs_of" (defScope s_pairs_of) fa cdv A outer s H E).env (cxOf (L2N.CX P w) P w K mg base ["chart", "letters", "letter"] "pairs_of" (defScope s_pairs_of) fa cdv A outer s H E).xe := passes_of rfl
  exact (ss_one (ss_ret (sv_lc hc nd (si_seq (sv_var (i := 1))) (blkOk_by (N := ["chart", "letters", "letter"]) (sc := defScope s_pairs_of) (own := [("letter", 2)]) (by decide +kernel)) to_name rfl (fun _ _ _ _ _ => (pg_name (i := 2) nd rfl (Or.inl rfl))) (fun _ _ _ _ _ => st_nil) (fun _ _ _ _ _ => (sv_call (f := 10) (G 10) hr (L2N.passes_call takesN0 fun _ _ _ _ h => h) (by rfl) (sa_cons (sv_var (i := 0)) (sa_cons (sv_var (i := 2)) sa_nil)))))))
theorem sc_points_of : FnScope ["chart", "letter", "found", "point", "row"] ["chart", "letter"] (defScope s_points_of) := ⟨rfl, rfl, rfl, by decide +kernel, rfl, by decide +kernel, by decide +kernel⟩
theorem d_points_of (Z : Txt K mg ca tk0) (n : Nat) (G : ∀ f, At P w K mg base J ca n f) (fa : Addr) (W : Ent) (E : XK) (cdv : Value) (A : Around) (outer : List PySem.Env) (s : Shared) (H : Hp) (hp : Free W []) (hr : Room (n + 1) (A.deeper (PyProof.Rows.envOfC "points_of" (defScope s_points_of) s.heap.objs.size fa cdv))) :
    PSs (cxOf (L2N.CX P w) P w K mg base ["chart", "letter", "found", "point", "row"] "points_of" (defScope s_points_of) fa cdv A outer s H E) (defBody s_points_of) (TSv K (cfg J hJ (fun k => .ref (ca k)) (run T n) W E) b_points_of) := by
  have nd := (sc_points_of).nd
  have hu : (A.deeper (PyProof.Rows.envOfC "points_of" (defScope s_points_of) s.heap.objs.size fa cdv)).units + 64 < cLine := hr.units
  have hu1 : (A.deeper (PyProof.Rows.envOfC "points_of" (defScope s_points_of) s.heap.objs.size fa cdv)).units + 1 < cLine := by omega
  have hc : (cxOf (L2N.CX P w) P w K mg base ["chart", "letter", "found", "point", "row"] "points_of" (defScope s_points_of) fa cdv A outer s H E).calm = true := rfl
  have tk : L2N.Takes (cxOf (L2N.CX P w) P w K mg base ["chart", "letter", "found", "point", "row"] "points_of" (defScope s_points_of) fa cdv A outer s H E) (fun cls d _ H => E cls d H) := L2N.takes_of rfl rfl rfl rfl
  have hx : Passes (L2N.CX P w) (cxOf (L2N.CX P w) P w K mg base ["chart", "letter", "found", "point", "row"] "points_of" (defScope s_points_of) fa cdv A outer s H E) E := L2N.passes_call tk (fun _ _ _ _ h => h)
  have po : PassesOwn (model P w) (cxOf (L2N.CX P w) P w K mg base ["chart", "letter", "found", "point", "row"] "points_of" (defScope s_points_of) fa cdv A outer s H E).A (cxOf (L2N.CX P w) P w K mg base ["chart", "letter", "found", "point", "row"] "points_of" (defScope s_points_of) fa cdv A outer s H E).env (cxOf (L2N.CX P w) P w K mg base ["chart", "letter", "found", "point", "row"] "points_of" (defScope s_points_of) fa cdv A outer s H E).xe := passes_of rfl
  exact (ss_cons (ss_asg tg_name (sv_mkl sa_nil) (pg_name (i := 2) nd rfl (Or.inl rfl))) (ss_cons (ss_for po hc (si_enum (by rfl) Z.b_enumerate (sa_cons (sv_var (i := 0)) sa_nil)) (tg_tup rfl) (pg_tup hc (pgs_names (pg_name (i := 3) nd rfl (Or.inl rfl)) (pgs_names (pg_name (i := 4) nd rfl (Or.inl rfl)) pgs_none))) (ss_one (ss_asg tg_name (sv_add (sv_var (i := 2)) (sv_mul (sv_mkl (sa_cons (sv_var (i := 3)) sa_nil)) (sv_count (sv_var (i := 4)) (sv_var (i := 1))))) (pg_name (i := 2) nd rfl (Or.inl rfl))))) (ss_one (ss_ret (sv_tuple (by rfl) Z.b_tuple (sv_var (i := 2)))))))
theorem sc_letters_of : FnScope ["chart"] ["chart"] (defScope s_letters_of) := ⟨rfl, rfl, rfl, by decide +kernel, rfl, by decide +kernel, by decide +kernel⟩
theorem d_letters_of (Z : Txt K mg ca tk0) (n : Nat) (G : ∀ f, At P w K mg base J ca n f) (fa : Addr) (W : Ent) (E : XK) (cdv : Value) (A : Around) (outer : List PySem.Env) (s : Shared) (H : Hp) (hp : Free W []) (hr : Room (n + 1) (A.deeper (PyProof.Rows.envOfC "letters_of" (defScope s_letters_of) s.heap.objs.size fa cdv))) :
    PSs (cxOf (L2N.CX P w) P w K mg base ["chart"] "letters_of" (defScope s_letters_of) fa cdv A outer s H E) (defBody s_letters_of) (TSv K (cfg J hJ (fun k => .ref (ca k)) (run T n) W E) b_letters_of) := by
  have nd := (sc_letters_of).nd
  have hu : (A.deeper (PyProof.Rows.envOfC "letters_of" (defScope s_letters_of) s.heap.objs.size fa cdv)).units + 64 < cLine := hr.units
  have hu1 : (A.deeper (PyProof.Rows.envOfC "letters_of" (defScope s_letters_of) s.heap.objs.size fa cdv)).units + 1 < cLine := by omega
  have hc : (cxOf (L2N.CX P w) P w K mg base ["chart"] "letters_of" (defScope s_letters_of) fa cdv A outer s H E).calm = true := rfl
  have tk : L2N.Takes (cxOf (L2N.CX P w) P w K mg base ["chart"] "letters_of" (defScope s_letters_of) fa cdv A outer s H E) (fun cls d _ H => E cls d H) := L2N.takes_of rfl rfl rfl rfl
  have hx : Passes (L2N.CX P w) (cxOf (L2N.CX P w) P w K mg base ["chart"] "letters_of" (defScope s_letters_of) fa cdv A outer s H E) E := L2N.passes_call tk (fun _ _ _ _ h => h)
  have po : PassesOwn (model P w) (cxOf (L2N.CX P w) P w K mg base ["chart"] "letters_of" (defScope s_letters_of) fa cdv A outer s H E).A (cxOf (L2N.CX P w) P w K mg base ["chart"] "letters_of" (defScope s_letters_of) fa cdv A outer s H E).env (cxOf (L2N.CX P w) P w K mg base ["chart"] "letters_of" (defScope s_letters_of) fa cdv A outer s H E).xe := passes_of rfl
  exact (ss_one (ss_ret (sv_slcH (sv_gstrL (by rfl) Z.g_NAMES) (sv_fdiv (sv_len (by rfl) Z.b_len (sv_join sv_strL (sv_var (i := 0)))) sv_int))))
theorem sc_is_map : FnScope ["value"] ["value"] (defScope s_is_map) := ⟨rfl, rfl, rfl, by decide +kernel, rfl, by decide +kernel, by decide +kernel⟩
theorem d_is_map (Z : Txt K mg ca tk0) (n : Nat) (G : ∀ f, At P w K mg base J ca n f) (fa : Addr) (W : Ent) (E : XK) (cdv : Value) (A : Around) (outer : List PySem.Env) (s : Shared) (H : Hp) (hp : Free W []) (hr : Room (n + 1) (A.deeper (PyProof.Rows.envOfC "is_map" (defScope s_is_map) s.heap.objs.size fa cdv))) :
    PSs (cxOf (L2N.CX P w) P w K mg base ["value"] "is_map" (defScope s_is_map) fa cdv A outer s H E) (defBody s_is_map) (TSv K (cfg J hJ (fun k => .ref (ca k)) (run T n) W E) b_is_map) := by
  have nd := (sc_is_map).nd
  have hu : (A.deeper (PyProof.Rows.envOfC "is_map" (defScope s_is_map) s.heap.objs.size fa cdv)).units + 64 < cLine := hr.units
  have hu1 : (A.deeper (PyProof.Rows.envOfC "is_map" (defScope s_is_map) s.heap.objs.size fa cdv)).units + 1 < cLine := by omega
  have hc : (cxOf (L2N.CX P w) P w K mg base ["value"] "is_map" (defScope s_is_map) fa cdv A outer s H E).calm = true := rfl
  have tk : L2N.Takes (cxOf (L2N.CX P w) P w K mg base ["value"] "is_map" (defScope s_is_map) fa cdv A outer s H E) (fun cls d _ H => E cls d H) := L2N.takes_of rfl rfl rfl rfl
  have hx : Passes (L2N.CX P w) (cxOf (L2N.CX P w) P w K mg base ["value"] "is_map" (defScope s_is_map) fa cdv A outer s H E) E := L2N.passes_call tk (fun _ _ _ _ h => h)
  have po : PassesOwn (model P w) (cxOf (L2N.CX P w) P w K mg base ["value"] "is_map" (defScope s_is_map) fa cdv A outer s H E).A (cxOf (L2N.CX P w) P w K mg base ["value"] "is_map" (defScope s_is_map) fa cdv A outer s H E).env (cxOf (L2N.CX P w) P w K mg base ["value"] "is_map" (defScope s_is_map) fa cdv A outer s H E).xe := passes_of rfl
  exact (ss_cons (ss_if (PW.pt (sx_or (sw_not (sw_val (sv_call (f := 0) (G 0) hr hx (by rfl) (sa_cons (sv_var (i := 0)) sa_nil)))) (sx_or1 (sw_ne hu (sv_len (by rfl) Z.b_len (sv_call (f := 8) (G 8) hr hx (by rfl) (sa_cons (sv_call (f := 9) (G 9) hr hx (by rfl) (sa_cons (sv_var (i := 0)) (sa_cons (sv_call (f := 11) (G 11) hr hx (by rfl) (sa_cons (sv_var (i := 0)) sa_nil)) sa_nil))) (sa_cons sv_int sa_nil)))) (sv_len (by rfl) Z.b_len (sv_var (i := 0))))))) (ss_one (ss_ret sv_bool)) ss_nil) (ss_one (ss_ret (sv_eq hu (sv_add (sv_sub (sv_len (by rfl) Z.b_len (sv_var (i := 0))) (sv_len (by rfl) Z.b_len (sv_call (f := 11) (G 11) hr hx (by rfl) (sa_cons (sv_var (i := 0)) sa_nil)))) (sv_len (by rfl) Z.b_len (sv_call (f := 7) (G 7) hr hx (by rfl) (sa_cons (sv_var (i := 0)) sa_nil)))) sv_int))))
theorem sc_need_map : FnScope ["chart"] ["chart"] (defScope s_need_map) := ⟨rfl, rfl, rfl, by decide +kernel, rfl, by decide +kernel, by decide +kernel⟩
theorem d_need_map (Z : Txt K mg ca tk0) (n : Nat) (G : ∀ f, At P w K mg base J ca n f) (fa : Addr) (W : Ent) (E : XK) (cdv : Value) (A : Around) (outer : List PySem.Env) (s : Shared) (H : Hp) (hp : Free W []) (hr : Room (n + 1) (A.deeper (PyProof.Rows.envOfC "need_map" (defScope s_need_map) s.heap.objs.size fa cdv))) :
    PSs (cxOf (L2N.CX P w) P w K mg base ["chart"] "need_map" (defScope s_need_map) fa cdv A outer s H E) (defBody s_need_map) (TSv K (cfg J hJ (fun k => .ref (ca k)) (run T n) W E) b_need_map) := by
  have nd := (sc_need_map).nd
  have hu : (A.deeper (PyProof.Rows.envOfC "need_map" (defScope s_need_map) s.heap.objs.size fa cdv)).units + 64 < cLine := hr.units
  have hu1 : (A.deeper (PyProof.Rows.envOfC "need_map" (defScope s_need_map) s.heap.objs.size fa cdv)).units + 1 < cLine := by omega
  have hc : (cxOf (L2N.CX P w) P w K mg base ["chart"] "need_map" (defScope s_need_map) fa cdv A outer s H E).calm = true := rfl
  have tk : L2N.Takes (cxOf (L2N.CX P w) P w K mg base ["chart"] "need_map" (defScope s_need_map) fa cdv A outer s H E) (fun cls d _ H => E cls d H) := L2N.takes_of rfl rfl rfl rfl
  have hx : Passes (L2N.CX P w) (cxOf (L2N.CX P w) P w K mg base ["chart"] "need_map" (defScope s_need_map) fa cdv A outer s H E) E := L2N.passes_call tk (fun _ _ _ _ h => h)
  have po : PassesOwn (model P w) (cxOf (L2N.CX P w) P w K mg base ["chart"] "need_map" (defScope s_need_map) fa cdv A outer s H E).A (cxOf (L2N.CX P w) P w K mg base ["chart"] "need_map" (defScope s_need_map) fa cdv A outer s H E).env (cxOf (L2N.CX P w) P w K mg base ["chart"] "need_map" (defScope s_need_map) fa cdv A outer s H E).xe := passes_of rfl
  exact (ss_one (ss_if (sw_not (sw_val (sv_call (f := 12) (G 12) hr hx (by rfl) (sa_cons (sv_var (i := 0)) sa_nil)))) (ss_one (ss_raise hc tk Z.x_InvalidMap rfl (by rfl))) ss_nil))
theorem sc_need_border : FnScope ["chart", "border"] ["chart", "border"] (defScope s_need_border) := ⟨rfl, rfl, rfl, by decide +kernel, rfl, by decide +kernel, by decide +kernel⟩
theorem d_need_border (Z : Txt K mg ca tk0) (n : Nat) (G : ∀ f, At P w K mg base J ca n f) (fa : Addr) (W : Ent) (E : XK) (cdv : Value) (A : Around) (outer : List PySem.Env) (s : Shared) (H : Hp) (hp : Free W []) (hr : Room (n + 1) (A.deeper (PyProof.Rows.envOfC "need_border" (defScope s_need_border) s.heap.objs.size fa cdv))) :
    PSs (cxOf (L2N.CX P w) P w K mg base ["chart", "border"] "need_border" (defScope s_need_border) fa cdv A outer s H E) (defBody s_need_border) (TSv K (cfg J hJ (fun k => .ref (ca k)) (run T n) W E) b_need_border) := by
  have nd := (sc_need_border).nd
  have hu : (A.deeper (PyProof.Rows.envOfC "need_border" (defScope s_need_border) s.heap.objs.size fa cdv)).units + 64 < cLine := hr.units
  have hu1 : (A.deeper (PyProof.Rows.envOfC "need_border" (defScope s_need_border) s.heap.objs.size fa cdv)).units + 1 < cLine := by omega
  have hc : (cxOf (L2N.CX P w) P w K mg base ["chart", "border"] "need_border" (defScope s_need_border) fa cdv A outer s H E).calm = true := rfl
  have tk : L2N.Takes (cxOf (L2N.CX P w) P w K mg base ["chart", "border"] "need_border" (defScope s_need_border) fa cdv A outer s H E) (fun cls d _ H => E cls d H) := L2N.takes_of rfl rfl rfl rfl
  have hx : Passes (L2N.CX P w) (cxOf (L2N.CX P w) P w K mg base ["chart", "border"] "need_border" (defScope s_need_border) fa cdv A outer s H E) E := L2N.passes_call tk (fun _ _ _ _ h => h)
  have po : PassesOwn (model P w) (cxOf (L2N.CX P w) P w K mg base ["chart", "border"] "need_border" (defScope s_need_border) fa cdv A outer s H E).A (cxOf (L2N.CX P w) P w K mg base ["chart", "border"] "need_border" (defScope s_need_border) fa cdv A outer s H E).env (cxOf (L2N.CX P w) P w K mg base ["chart", "border"] "need_border" (defScope s_need_border) fa cdv A outer s H E).xe := passes_of rfl
  exact (ss_one (ss_if (PW.pt (sx_or (sw_not (sw_val (sv_isstr (by rfl) Z.b_isinstance (by rfl) Z.b_str (sv_var (i := 1))))) (sx_or (sw_ne hu (sv_len (by rfl) Z.b_len (sv_var (i := 1))) sv_int) (sx_or1 (sw_notin hu (sv_var (i := 1)) (sv_call (f := 11) (G 11) hr hx (by rfl) (sa_cons (sv_var (i := 0)) sa_nil))))))) (ss_one (ss_raise hc tk Z.x_InvalidBorder rfl (by rfl))) ss_nil))
theorem sc_need_point : FnScope ["chart", "point"] ["chart", "point"] (defScope s_need_point) := ⟨rfl, rfl, rfl, by decide +kernel, rfl, by decide +kernel, by decide +kernel⟩
theorem d_need_point (Z : Txt K mg ca tk0) (n : Nat) (G : ∀ f, At P w K mg base J ca n f) (fa : Addr) (W : Ent) (E : XK) (cdv : Value) (A : Around) (outer : List PySem.Env) (s : Shared) (H : Hp) (hp : Free W []) (hr : Room (n + 1) (A.deeper (PyProof.Rows.envOfC "need_point" (defScope s_need_point) s.heap.objs.size fa cdv))) :
    PSs (cxOf (L2N.CX P w) P w K mg base ["chart", "point"] "need_point" (defScope s_need_point) fa cdv A outer s H E) (defBody s_need_point) (TSv K (cfg J hJ (fun k => .ref (ca k)) (run T n) W E) b_need_point) := by
  have nd := (sc_need_point).nd
  have hu : (A.deeper (PyProof.Rows.envOfC "need_point" (defScope s_need_point) s.heap.objs.size fa cdv)).units + 64 < cLine := hr.units
  have hu1 : (A.deeper (PyProof.Rows.envOfC "need_point" (defScope s_need_point) s.heap.objs.size fa cdv)).units + 1 < cLine := by omega
  have hc : (cxOf (L2N.CX P w) P w K mg base ["chart", "point"] "need_point" (defScope s_need_point) fa cdv A outer s H E).calm = true := rfl
  have tk : L2N.Takes (cxOf (L2N.CX P w) P w K mg base ["chart", "point"] "need_point" (defScope s_need_point) fa cdv A outer s H E) (fun cls d _ H => E cls d H) := L2N.takes_of rfl rfl rfl rfl
  have hx : Passes (L2N.CX P w) (cxOf (L2N.CX P w) P w K mg base ["chart", "point"] "need_point" (defScope s_need_point) fa cdv A outer s H E) E := L2N.passes_call tk (fun _ _ _ _ h => h)
  have po : PassesOwn (model P w) (cxOf (L2N.CX P w) P w K mg base ["chart", "point"] "need_point" (defScope s_need_point) fa cdv A outer s H E).A (cxOf (L2N.CX P w) P w K mg base ["chart", "point"] "need_point" (defScope s_need_point) fa cdv A outer s H E).env (cxOf (L2N.CX P w) P w K mg base ["chart", "point"] "need_point" (defScope s_need_point) fa cdv A outer s H E).xe := passes_of rfl
  exact (ss_one (ss_if (sw_not (sw_val (sv_call (f := 62) (G 62) hr hx (by rfl) (sa_cons (sv_var (i := 1)) (sa_cons sv_int (sa_cons (sv_sub (sv_len (by rfl) Z.b_len (sv_var (i := 0))) sv_int) sa_nil)))))) (ss_one (ss_raise hc tk Z.x_InvalidPoint rfl (by rfl))) ss_nil))
theorem sc_need_land : FnScope ["chart", "land"] ["chart", "land"] (defScope s_need_land) := ⟨rfl, rfl, rfl, by decide +kernel, rfl, by decide +kernel, by decide +kernel⟩
theorem d_need_land (Z : Txt K mg ca tk0) (n : Nat) (G : ∀ f, At P w K mg base J ca n f) (fa : Addr) (W : Ent) (E : XK) (cdv : Value) (A : Around) (outer : List PySem.Env) (s : Shared) (H : Hp) (hp : Free W []) (hr : Room (n + 1) (A.deeper (PyProof.Rows.envOfC "need_land" (defScope s_need_land) s.heap.objs.size fa cdv))) :
    PSs (cxOf (L2N.CX P w) P w K mg base ["chart", "land"] "need_land" (defScope s_need_land) fa cdv A outer s H E) (defBody s_need_land) (TSv K (cfg J hJ (fun k => .ref (ca k)) (run T n) W E) b_need_land) := by
  have nd := (sc_need_land).nd
  have hu : (A.deeper (PyProof.Rows.envOfC "need_land" (defScope s_need_land) s.heap.objs.size fa cdv)).units + 64 < cLine := hr.units
  have hu1 : (A.deeper (PyProof.Rows.envOfC "need_land" (defScope s_need_land) s.heap.objs.size fa cdv)).units + 1 < cLine := by omega
  have hc : (cxOf (L2N.CX P w) P w K mg base ["chart", "land"] "need_land" (defScope s_need_land) fa cdv A outer s H E).calm = true := rfl
  have tk : L2N.Takes (cxOf (L2N.CX P w) P w K mg base ["chart", "land"] "need_land" (defScope s_need_land) fa cdv A outer s H E) (fun cls d _ H => E cls d H) := L2N.takes_of rfl rfl rfl rfl
  have hx : Passes (L2N.CX P w) (cxOf (L2N.CX P w) P w K mg base ["chart", "land"] "need_land" (defScope s_need_land) fa cdv A outer s H E) E := L2N.passes_call tk (fun _ _ _ _ h => h)
  have po : PassesOwn (model P w) (cxOf (L2N.CX P w) P w K mg base ["chart", "land"] "need_land" (defScope s_need_land) fa cdv A outer s H E).A (cxOf (L2N.CX P w) P w K mg base ["chart", "land"] "need_land" (defScope s_need_land) fa cdv A outer s H E).env (cxOf (L2N.CX P w) P w K mg base ["chart", "land"] "need_land" (defScope s_need_land) fa cdv A outer s H E).xe := passes_of rfl
  exact (ss_one (ss_if (sw_not (sw_val (sv_call (f := 62) (G 62) hr hx (by rfl) (sa_cons (sv_var (i := 1)) (sa_cons sv_int (sa_cons (sv_sub (sv_len (by rfl) Z.b_len (sv_call (f := 7) (G 7) hr hx (by rfl) (sa_cons (sv_var (i := 0)) sa_nil))) sv_int) sa_nil)))))) (ss_one (ss_raise hc tk Z.x_InvalidLand rfl (by rfl))) ss_nil))
theorem sc_land_strings : FnScope ["chart", "text", "some"] ["chart"] (defScope s_land_strings) := ⟨rfl, rfl, rfl, by decide +kernel, rfl, by decide +kernel, by decide +kernel⟩
theorem d_land_strings (Z : Txt K mg ca tk0) (n : Nat) (G : ∀ f, At P w K mg base J ca n f) (fa : Addr) (W : Ent) (E : XK) (cdv : Value) (A : Around) (outer : List PySem.Env) (s : Shared) (H : Hp) (hp : Free W []) (hr : Room (n + 1) (A.deeper (PyProof.Rows.envOfC "land_strings" (defScope s_land_strings) s.heap.objs.size fa cdv))) :
    PSs (cxOf (L2N.CX P w) P w K mg base ["chart", "text", "some"] "land_strings" (defScope s_land_strings) fa cdv A outer s H E) (defBody s_land_strings) (TSv K (cfg J hJ (fun k => .ref (ca k)) (run T n) W E) b_land_strings) := by
  have nd := (sc_land_strings).nd
  have hu : (A.deeper (PyProof.Rows.envOfC "land_strings" (defScope s_land_strings) s.heap.objs.size fa cdv)).units + 64 < cLine := hr.units
  have hu1 : (A.deeper (PyProof.Rows.envOfC "land_strings" (defScope s_land_strings) s.heap.objs.size fa cdv)).units + 1 < cLine := by omega
  have hc : (cxOf (L2N.CX P w) P w K mg base ["chart", "text", "some"] "land_strings" (defScope s_land_strings) fa cdv A outer s H E).calm = true := rfl
  have tk : L2N.Takes (cxOf (L2N.CX P w) P w K mg base ["chart", "text", "some"] "land_strings" (defScope s_land_strings) fa cdv A outer s H E) (fun cls d _ H => E cls d H) := L2N.takes_of rfl rfl rfl rfl
  have hx : Passes (L2N.CX P w) (cxOf (L2N.CX P w) P w K mg base ["chart", "text", "some"] "land_strings" (defScope s_land_strings) fa cdv A outer s H E) E := L2N.passes_call tk (fun _ _ _ _ h => h)
  have po : PassesOwn (model P w) (cxOf (L2N.CX P w) P w K mg base ["chart", "text", "some"] "land_strings" (defScope s_land_strings) fa cdv A outer s H E).A (cxOf (L2N.CX P w) P w K mg base ["chart", "text", "some"] "land_strings" (defScope s_land_strings) fa cdv A outer s H E).env (cxOf (L2N.CX P w) P w K mg base ["chart", "text", "some"] "land_strings" (defScope s_land_strings) fa cdv A outer s H E).xe := passes_of rfl
  exact (ss_one (ss_ret (sv_tuple (by rfl) Z.b_tuple (sv_lc hc nd (si_seq (sv_call (f := 7) (G 7) hr hx (by rfl) (sa_cons (sv_var (i := 0)) sa_nil))) (blkOk_by (N := ["chart", "text", "some"]) (sc := defScope s_land_strings) (own := [("text", 1), ("some", 2)]) (by decide +kernel)) (to_tup rfl) rfl (fun _ _ _ _ _ => (pg_tup hc (pgs_names (pg_name (i := 1) nd rfl (Or.inl rfl)) (pgs_names (pg_name (i := 2) nd rfl (Or.inl rfl)) pgs_none)))) (fun _ _ _ _ _ => st_nil) (fun _ _ _ _ _ => (sv_var (i := 1)))))))
theorem sc_partner : FnScope ["chart"] ["chart"] (defScope s_partner) := ⟨rfl, rfl, rfl, by decide +kernel, rfl, by decide +kernel, by decide +kernel⟩
theorem d_partner (Z : Txt K mg ca tk0) (n : Nat) (G : ∀ f, At P w K mg base J ca n f) (fa : Addr) (W : Ent) (E : XK) (cdv : Value) (A : Around) (outer : List PySem.Env) (s : Shared) (H : Hp) (hp : Free W []) (hr : Room (n + 1) (A.deeper (PyProof.Rows.envOfC "partner" (defScope s_partner) s.heap.objs.size fa cdv))) :
    PSs (cxOf (L2N.CX P w) P w K mg base ["chart"] "partner" (defScope s_partner) fa cdv A outer s H E) (defBody s_partner) (TSv K (cfg J hJ (fun k => .ref (ca k)) (run T n) W E) b_partner) := by
  have nd := (sc_partner).nd
  have hu : (A.deeper (PyProof.Rows.envOfC "partner" (defScope s_partner) s.heap.objs.size fa cdv)).units + 64 < cLine := hr.units
  have hu1 : (A.deeper (PyProof.Rows.envOfC "partner" (defScope s_partner) s.heap.objs.size fa cdv)).units + 1 < cLine := by omega
  have hc : (cxOf (L2N.CX P w) P w K mg base ["chart"] "partner" (defScope s_partner) fa cdv A outer s H E).calm = true := rfl
  have tk : L2N.Takes (cxOf (L2N.CX P w) P w K mg base ["chart"] "partner" (defScope s_partner) fa cdv A outer s H E) (fun cls d _ H => E cls d H) := L2N.takes_of rfl rfl rfl rfl
  have hx : Passes (L2N.CX P w) (cxOf (L2N.CX P w) P w K mg base ["chart"] "partner" (defScope s_partner) fa cdv A outer s H E) E := L2N.passes_call tk (fun _ _ _ _ h => h)
  have po : PassesOwn (model P w) (cxOf (L2N.CX P w) P w K mg base ["chart"] "partner" (defScope s_partner) fa cdv A outer s H E).A (cxOf (L2N.CX P w) P w K mg base ["chart"] "partner" (defScope s_partner) fa cdv A outer s H E).env (cxOf (L2N.CX P w) P w K mg base ["chart"] "partner" (defScope s_partner) fa cdv A outer s H E).xe := passes_of rfl
  exact (ss_cons (ss_expr (sv_call (f := 13) (G 13) hr hx (by rfl) (sa_cons (sv_var (i := 0)) sa_nil))) (ss_one (ss_ret (sv_call (f := 14) (G 14) hr hx (by rfl) (sa_cons (sv_var (i := 0)) sa_nil)))))
theorem sc_lands_of : FnScope ["chart", "letter"] ["chart", "letter"] (defScope s_lands_of) := ⟨rfl, rfl, rfl, by decide +kernel, rfl, by decide +kernel, by decide +kernel⟩
theorem d_lands_of (Z : Txt K mg ca tk0) (n : Nat) (G : ∀ f, At P w K mg base J ca n f) (fa : Addr) (W : Ent) (E : XK) (cdv : Value) (A : Around) (outer : List PySem.Env) (s : Shared) (H : Hp) (hp : Free W []) (hr : Room (n + 1) (A.deeper (PyProof.Rows.envOfC "lands_of" (defScope s_lands_of) s.heap.objs.size fa cdv))) :
    PSs (cxOf (L2N.CX P w) P w K mg base ["chart", "letter"] "lands_of" (defScope s_lands_of) fa cdv A outer s H E) (defBody s_lands_of) (TSv K (cfg J hJ (fun k => .ref (ca k)) (run T n) W E) b_lands_of) := by
  have nd := (sc_lands_of).nd
  have hu : (A.deeper (PyProof.Rows.envOfC "lands_of" (defScope s_lands_of) s.heap.objs.size fa cdv)).units + 64 < cLine := hr.units
  have hu1 : (A.deeper (PyProof.Rows.envOfC "lands_of" (defScope s_lands_of) s.heap.objs.size fa cdv)).units + 1 < cLine := by omega
  have hc : (cxOf (L2N.CX P w) P w K mg base ["chart", "letter"] "lands_of" (defScope s_lands_of) fa cdv A outer s H E).calm = true := rfl
  have tk : L2N.Takes (cxOf (L2N.CX P w) P w K mg base ["chart", "letter"] "lands_of" (defScope s_lands_of) fa cdv A outer s H E) (fun cls d _ H => E cls d H) := L2N.takes_of rfl rfl rfl rfl
  have hx : Passes (L2N.CX P w) (cxOf (L2N.CX P w) P w K mg base ["chart", "letter"] "lands_of" (defScope s_lands_of) fa cdv A outer s H E) E := L2N.passes_call tk (fun _ _ _ _ h => h)
  have po : PassesOwn (model P w) (cxOf (L2N.CX P w) P w K mg base ["chart", "letter"] "lands_of" (defScope s_lands_of) fa cdv A outer s H E).A (cxOf (L2N.CX P w) P w K mg base ["chart", "letter"] "lands_of" (defScope s_lands_of) fa cdv A outer s H E).env (cxOf (L2N.CX P w) P w K mg base ["chart", "letter"] "lands_of" (defScope s_lands_of) fa cdv A outer s H E).xe := passes_of rfl
  exact (ss_one (ss_ret (sv_call (f := 10) (G 10) hr hx (by rfl) (sa_cons (sv_call (f := 14) (G 14) hr hx (by rfl) (sa_cons (sv_var (i := 0)) sa_nil)) (sa_cons (sv_var (i := 1)) sa_nil)))))
theorem sc_between : FnScope ["chart", "border"] ["chart", "border"] (defScope s_between) := ⟨rfl, rfl, rfl, by decide +kernel, rfl, by decide +kernel, by decide +kernel⟩
theorem d_between (Z : Txt K mg ca tk0) (n : Nat) (G : ∀ f, At P w K mg base J ca n f) (fa : Addr) (W : Ent) (E : XK) (cdv : Value) (A : Around) (outer : List PySem.Env) (s : Shared) (H : Hp) (hp : Free W []) (hr : Room (n + 1) (A.deeper (PyProof.Rows.envOfC "between" (defScope s_between) s.heap.objs.size fa cdv))) :
    PSs (cxOf (L2N.CX P w) P w K mg base ["chart", "border"] "between" (defScope s_between) fa cdv A outer s H E) (defBody s_between) (TSv K (cfg J hJ (fun k => .ref (ca k)) (run T n) W E) b_between) := by
  have nd := (sc_between).nd
  have hu : (A.deeper (PyProof.Rows.envOfC "between" (defScope s_between) s.heap.objs.size fa cdv)).units + 64 < cLine := hr.units
  have hu1 : (A.deeper (PyProof.Rows.envOfC "between" (defScope s_between) s.heap.objs.size fa cdv)).units + 1 < cLine := by omega
  have hc : (cxOf (L2N.CX P w) P w K mg base ["chart", "border"] "between" (defScope s_between) fa cdv A outer s H E).calm = true := rfl
  have tk : L2N.Takes (cxOf (L2N.CX P w) P w K mg base ["chart", "border"] "between" (defScope s_between) fa cdv A outer s H E) (fun cls d _ H => E cls d H) := L2N.takes_of rfl rfl rfl rfl
  have hx : Passes (L2N.CX P w) (cxOf (L2N.CX P w) P w K mg base ["chart", "border"] "between" (defScope s_between) fa cdv A outer s H E) E := L2N.passes_call tk (fun _ _ _ _ h => h)
  have po : PassesOwn (model P w) (cxOf (L2N.CX P w) P w K mg base ["chart", "border"] "between" (defScope s_between) fa cdv A outer s H E).A (cxOf (L2N.CX P w) P w K mg base ["chart", "border"] "between" (defScope s_between) fa cdv A outer s H E).env (cxOf (L2N.CX P w) P w K mg base ["chart", "border"] "between" (defScope s_between) fa cdv A outer s H E).xe := passes_of rfl
  exact (ss_cons (ss_expr (sv_call (f := 13) (G 13) hr hx (by rfl) (sa_cons (sv_var (i := 0)) sa_nil))) (ss_cons (ss_expr (sv_call (f := 42) (G 42) hr hx (by rfl) (sa_cons (sv_var (i := 0)) (sa_cons (sv_var (i := 1)) sa_nil)))) (ss_one (ss_ret (sv_call (f := 43) (G 43) hr hx (by rfl) (sa_cons (sv_var (i := 0)) (sa_cons (sv_var (i := 1)) sa_nil)))))))
theorem sc_renamed : FnScope ["rows", "letters", "found", "row", "letter"] ["rows"] (defScope s_renamed) := ⟨rfl, rfl, rfl, by decide +kernel, rfl, by decide +kernel, by decide +kernel⟩
theorem d_renamed (Z : Txt K mg ca tk0) (n : Nat) (G : ∀ f, At P w K mg base J ca n f) (fa : Addr) (W : Ent) (E : XK) (cdv : Value) (A : Around) (outer : List PySem.Env) (s : Shared) (H : Hp) (hp : Free W []) (hr : Room (n + 1) (A.deeper (PyProof.Rows.envOfC "renamed" (defScope s_renamed) s.heap.objs.size fa cdv))) :
    PSs (cxOf (L2N.CX P w) P w K mg base ["rows", "letters", "found", "row", "letter"] "renamed" (defScope s_renamed) fa cdv A outer s H E) (defBody s_renamed) (TSv K (cfg J hJ (fun k => .ref (ca k)) (run T n) W E) b_renamed) := by
  have nd := (sc_renamed).nd
  have hu : (A.deeper (PyProof.Rows.envOfC "renamed" (defScope s_renamed) s.heap.objs.size fa cdv)).units + 64 < cLine := hr.units
  have hu1 : (A.deeper (PyProof.Rows.envOfC "renamed" (defScope s_renamed) s.heap.objs.size fa cdv)).units + 1 < cLine := by omega
  have hc : (cxOf (L2N.CX P w) P w K mg base ["rows", "letters", "found", "row", "letter"] "renamed" (defScope s_renamed) fa cdv A outer s H E).calm = true := rfl
  have tk : L2N.Takes (cxOf (L2N.CX P w) P w K mg base ["rows", "letters", "found", "row", "letter"] "renamed" (defScope s_renamed) fa cdv A outer s H E) (fun cls d _ H => E cls d H) := L2N.takes_of rfl rfl rfl rfl
  have hx : Passes (L2N.CX P w) (cxOf (L2N.CX P w) P w K mg base ["rows", "letters", "found", "row", "letter"] "renamed" (defScope s_renamed) fa cdv A outer s H E) E := L2N.passes_call tk (fun _ _ _ _ h => h)
  have po : PassesOwn (model P w) (cxOf (L2N.CX P w) P w K mg base ["rows", "letters", "found", "row", "letter"] "renamed" (defScope s_renamed) fa cdv A outer s H E).A (cxOf (L2N.CX P w) P w K mg base ["rows", "letters", "found", "row", "letter"] "renamed" (defScope s_renamed) fa cdv A outer s H E).env (cxOf (L2N.CX P w) P w K mg base ["rows", "letters", "found", "row", "letter"] "renamed" (defScope s_renamed) fa cdv A outer s H E).xe := passes_of rfl
  exact (ss_cons (ss_asg tg_name (sv_ssetC hc hu (by rfl) Z.b_sorted (by rfl) Z.b_set (sv_join sv_strL (sv_var (i := 0)))) (pg_name (i := 1) nd rfl (Or.inr rfl))) (ss_cons (ss_asgM (i := 2) nd rfl (Or.inl rfl) (sf_list sa_nil)) (ss_cons (ss_for po hc (si_seq (sv_var (i := 0))) tg_name (pg_name (i := 3) nd rfl (Or.inl rfl)) (ss_one (ss_if (sw_ne hu (sv_var (i := 3)) sv_strL) (ss_one (ss_append (i := 2) (pv 2) (sv_join sv_strL (sv_lc hc nd (si_seq (sv_var (i := 3))) (blkOk_by (N := ["rows", "letters", "found", "row", "letter"]) (sc := defScope s_renamed) (own := [("letter", 4)]) (by decide +kernel)) to_name rfl (fun _ _ _ _ _ => (pg_name (i := 4) nd rfl (Or.inl rfl))) (fun _ _ _ _ _ => st_nil) (fun _ _ _ _ _ => (sv_item (sv_gstrL (by rfl) Z.g_NAMES) (sv_lindex hu (sv_var (i := 1)) (sv_var (i := 4))))))))) ss_nil))) (ss_one (ss_ret (sv_tuple (by rfl) Z.b_tuple (sv_var (i := 2))))))))
theorem sc_taken_away : FnScope ["chart", "border", "one", "other", "row"] ["chart", "border"] (defScope s_taken_away) := ⟨rfl, rfl, rfl, by decide +kernel, rfl, by decide +kernel, by decide +kernel⟩
theorem d_taken_away (Z : Txt K mg ca tk0) (n : Nat) (G : ∀ f, At P w K mg base J ca n f) (fa : Addr) (W : Ent) (E : XK) (cdv : Value) (A : Around) (outer : List PySem.Env) (s : Shared) (H : Hp) (hp : Free W []) (hr : Room (n + 1) (A.deeper (PyProof.Rows.envOfC "taken_away" (defScope s_taken_away) s.heap.objs.size fa cdv))) :
    PSs (cxOf (L2N.CX P w) P w K mg base ["chart", "border", "one", "other", "row"] "taken_away" (defScope s_taken_away) fa cdv A outer s H E) (defBody s_taken_away) (TSv K (cfg J hJ (fun k => .ref (ca k)) (run T n) W E) b_taken_away) := by
  have nd := (sc_taken_away).nd
  have hu : (A.deeper (PyProof.Rows.envOfC "taken_away" (defScope s_taken_away) s.heap.objs.size fa cdv)).units + 64 < cLine := hr.units
  have hu1 : (A.deeper (PyProof.Rows.envOfC "taken_away" (defScope s_taken_away) s.heap.objs.size fa cdv)).units + 1 < cLine := by omega
  have hc : (cxOf (L2N.CX P w) P w K mg base ["chart", "border", "one", "other", "row"] "taken_away" (defScope s_taken_away) fa cdv A outer s H E).calm = true := rfl
  have tk : L2N.Takes (cxOf (L2N.CX P w) P w K mg base ["chart", "border", "one", "other", "row"] "taken_away" (defScope s_taken_away) fa cdv A outer s H E) (fun cls d _ H => E cls d H) := L2N.takes_of rfl rfl rfl rfl
  have hx : Passes (L2N.CX P w) (cxOf (L2N.CX P w) P w K mg base ["chart", "border", "one", "other", "row"] "taken_away" (defScope s_taken_away) fa cdv A outer s H E) E := L2N.passes_call tk (fun _ _ _ _ h => h)
  have po : PassesOwn (model P w) (cxOf (L2N.CX P w) P w K mg base ["chart", "border", "one", "other", "row"] "taken_away" (defScope s_taken_away) fa cdv A outer s H E).A (cxOf (L2N.CX P w) P w K mg base ["chart", "border", "one", "other", "row"] "taken_away" (defScope s_taken_away) fa cdv A outer s H E).env (cxOf (L2N.CX P w) P w K mg base ["chart", "border", "one", "other", "row"] "taken_away" (defScope s_taken_away) fa cdv A outer s H E).xe := passes_of rfl
  exact (ss_cons (ss_asg (tg_tup rfl) (sv_call (f := 43) (G 43) hr hx (by rfl) (sa_cons (sv_var (i := 0)) (sa_cons (sv_var (i := 1)) sa_nil))) (pg_tup hc (pgs_names (pg_name (i := 2) nd rfl (Or.inl rfl)) (pgs_names (pg_name (i := 3) nd rfl (Or.inl rfl)) pgs_none)))) (ss_cons (ss_if (sw_eq hu (sv_var (i := 2)) (sv_var (i := 3))) (ss_one (ss_raise hc tk Z.x_Bridge rfl (by rfl))) ss_nil) (ss_cons (ss_if (sw_eq hu (sv_len (by rfl) Z.b_len (sv_call (f := 11) (G 11) hr hx (by rfl) (sa_cons (sv_var (i := 0)) sa_nil))) sv_int) (ss_one (ss_raise hc tk Z.x_LastBorder rfl (by rfl))) ss_nil) (ss_one ss_stuck))))
theorem sc_without : FnScope ["chart", "border"] ["chart", "border"] (defScope s_without) := ⟨rfl, rfl, rfl, by decide +kernel, rfl, by decide +kernel, by decide +kernel⟩
theorem d_without (Z : Txt K mg ca tk0) (n : Nat) (G : ∀ f, At P w K mg base J ca n f) (fa : Addr) (W : Ent) (E : XK) (cdv : Value) (A : Around) (outer : List PySem.Env) (s : Shared) (H : Hp) (hp : Free W []) (hr : Room (n + 1) (A.deeper (PyProof.Rows.envOfC "without" (defScope s_without) s.heap.objs.size fa cdv))) :
    PSs (cxOf (L2N.CX P w) P w K mg base ["chart", "border"] "without" (defScope s_without) fa cdv A outer s H E) (defBody s_without) (TSv K (cfg J hJ (fun k => .ref (ca k)) (run T n) W E) b_without) := by
  have nd := (sc_without).nd
  have hu : (A.deeper (PyProof.Rows.envOfC "without" (defScope s_without) s.heap.objs.size fa cdv)).units + 64 < cLine := hr.units
  have hu1 : (A.deeper (PyProof.Rows.envOfC "without" (defScope s_without) s.heap.objs.size fa cdv)).units + 1 < cLine := by omega
  have hc : (cxOf (L2N.CX P w) P w K mg base ["chart", "border"] "without" (defScope s_without) fa cdv A outer s H E).calm = true := rfl
  have tk : L2N.Takes (cxOf (L2N.CX P w) P w K mg base ["chart", "border"] "without" (defScope s_without) fa cdv A outer s H E) (fun cls d _ H => E cls d H) := L2N.takes_of rfl rfl rfl rfl
  have hx : Passes (L2N.CX P w) (cxOf (L2N.CX P w) P w K mg base ["chart", "border"] "without" (defScope s_without) fa cdv A outer s H E) E := L2N.passes_call tk (fun _ _ _ _ h => h)
  have po : PassesOwn (model P w) (cxOf (L2N.CX P w) P w K mg base ["chart", "border"] "without" (defScope s_without) fa cdv A outer s H E).A (cxOf (L2N.CX P w) P w K mg base ["chart", "border"] "without" (defScope s_without) fa cdv A outer s H E).env (cxOf (L2N.CX P w) P w K mg base ["chart", "border"] "without" (defScope s_without) fa cdv A outer s H E).xe := passes_of rfl
  exact (ss_cons (ss_expr (sv_call (f := 13) (G 13) hr hx (by rfl) (sa_cons (sv_var (i := 0)) sa_nil))) (ss_cons (ss_expr (sv_call (f := 42) (G 42) hr hx (by rfl) (sa_cons (sv_var (i := 0)) (sa_cons (sv_var (i := 1)) sa_nil)))) (ss_one (ss_ret (sv_call (f := 72) (G 72) hr hx (by rfl) (sa_cons (sv_var (i := 0)) (sa_cons (sv_var (i := 1)) sa_nil)))))))
theorem sc_pulled : FnScope ["chart", "border", "one", "other", "first", "last", "at", "place", "whole", "rows", "point", "row"] ["chart", "border"] (defScope s_pulled) := ⟨rfl, rfl, rfl, by decide +kernel, rfl, by decide +kernel, by decide +kernel⟩
theorem d_pulled (Z : Txt K mg ca tk0) (n : Nat) (G : ∀ f, At P w K mg base J ca n f) (fa : Addr) (W : Ent) (E : XK) (cdv : Value) (A : Around) (outer : List PySem.Env) (s : Shared) (H : Hp) (hp : Free W []) (hr : Room (n + 1) (A.deeper (PyProof.Rows.envOfC "pulled" (defScope s_pulled) s.heap.objs.size fa cdv))) :
    PSs (cxOf (L2N.CX P w) P w K mg base ["chart", "border", "one", "other", "first", "last", "at", "place", "whole", "rows", "point", "row"] "pulled" (defScope s_pulled) fa cdv A outer s H E) (defBody s_pulled) (TSv K (cfg J hJ (fun k => .ref (ca k)) (run T n) W E) b_pulled) := by
  have nd := (sc_pulled).nd
  have hu : (A.deeper (PyProof.Rows.envOfC "pulled" (defScope s_pulled) s.heap.objs.size fa cdv)).units + 64 < cLine := hr.units
  have hu1 : (A.deeper (PyProof.Rows.envOfC "pulled" (defScope s_pulled) s.heap.objs.size fa cdv)).units + 1 < cLine := by omega
  have hc : (cxOf (L2N.CX P w) P w K mg base ["chart", "border", "one", "other", "first", "last", "at", "place", "whole", "rows", "point", "row"] "pulled" (defScope s_pulled) fa cdv A outer s H E).calm = true := rfl
  have tk : L2N.Takes (cxOf (L2N.CX P w) P w K mg base ["chart", "border", "one", "other", "first", "last", "at", "place", "whole", "rows", "point", "row"] "pulled" (defScope s_pulled) fa cdv A outer s H E) (fun cls d _ H => E cls d H) := L2N.takes_of rfl rfl rfl rfl
  have hx : Passes (L2N.CX P w) (cxOf (L2N.CX P w) P w K mg base ["chart", "border", "one", "other", "first", "last", "at", "place", "whole", "rows", "point", "row"] "pulled" (defScope s_pulled) fa cdv A outer s H E) E := L2N.passes_call tk (fun _ _ _ _ h => h)
  have po : PassesOwn (model P w) (cxOf (L2N.CX P w) P w K mg base ["chart", "border", "one", "other", "first", "last", "at", "place", "whole", "rows", "point", "row"] "pulled" (defScope s_pulled) fa cdv A outer s H E).A (cxOf (L2N.CX P w) P w K mg base ["chart", "border", "one", "other", "first", "last", "at", "place", "whole", "rows", "point", "row"] "pulled" (defScope s_pulled) fa cdv A outer s H E).env (cxOf (L2N.CX P w) P w K mg base ["chart", "border", "one", "other", "first", "last", "at", "place", "whole", "rows", "point", "row"] "pulled" (defScope s_pulled) fa cdv A outer s H E).xe := passes_of rfl
  exact (ss_cons (ss_expr (sv_call (f := 13) (G 13) hr hx (by rfl) (sa_cons (sv_var (i := 0)) sa_nil))) (ss_cons (ss_expr (sv_call (f := 42) (G 42) hr hx (by rfl) (sa_cons (sv_var (i := 0)) (sa_cons (sv_var (i := 1)) sa_nil)))) (ss_cons (ss_asg (tg_tup rfl) (sv_call (f := 10) (G 10) hr hx (by rfl) (sa_cons (sv_var (i := 0)) (sa_cons (sv_var (i := 1)) sa_nil))) (pg_tup hc (pgs_names (pg_name (i := 2) nd rfl (Or.inr rfl)) (pgs_names (pg_name (i := 3) nd rfl (Or.inr rfl)) pgs_none)))) (ss_cons (ss_if (sw_eq hu (sv_var (i := 2)) (sv_var (i := 3))) (ss_one (ss_raise hc tk Z.x_Loop rfl (by rfl))) ss_nil) (ss_cons (ss_if (sw_eq hu (sv_len (by rfl) Z.b_len (sv_call (f := 11) (G 11) hr hx (by rfl) (sa_cons (sv_var (i := 0)) sa_nil))) sv_int) (ss_one (ss_raise hc tk Z.x_LastBorder rfl (by rfl))) ss_nil) (ss_cons (ss_par2 (i := 4) (j := 5) hc nd rfl rfl (by decide) rfl rfl (saf_cons (sf_val (sv_item (sv_var (i := 0)) (sv_var (i := 2)))) (saf_cons (sf_val (sv_item (sv_var (i := 0)) (sv_var (i := 3)))) saf_nil)) rfl) (ss_cons (ss_par2 (i := 6) (j := 7) hc nd rfl rfl (by decide) rfl rfl (saf_cons (sf_val (sv_sindex (sv_var (i := 4)) (sv_var (i := 1)))) (saf_cons (sf_val (sv_sindex (sv_var (i := 5)) (sv_var (i := 1)))) saf_nil)) rfl) (ss_cons (ss_asg tg_name (sv_add (sv_add (sv_add (sv_slcH (sv_var (i := 4)) (sv_var (i := 6))) (sv_slcL (sv_var (i := 5)) (sv_add (sv_var (i := 7)) sv_int))) (sv_slcH (sv_var (i := 5)) (sv_var (i := 7)))) (sv_slcL (sv_var (i := 4)) (sv_add (sv_var (i := 6)) sv_int))) (pg_name (i := 8) nd rfl (Or.inr rfl))) (ss_cons (ss_lcS (i := 9) hc nd rfl rfl rfl (si_enum (by rfl) Z.b_enumerate (sa_cons (sv_var (i := 0)) sa_nil)) (blkOk_by (N := ["chart", "border", "one", "other", "first", "last", "at", "place", "whole", "rows", "point", "row"]) (sc := defScope s_pulled) (own := [("point", 10), ("row", 11)]) (by decide +kernel)) (to_tup rfl) rfl (fun _ _ _ _ _ => (pg_tup hc (pgs_names (pg_name (i := 10) nd rfl (Or.inl rfl)) (pgs_names (pg_name (i := 11) nd rfl (Or.inl rfl)) pgs_none)))) (fun _ _ _ _ _ => (st_one (sw_ne hu (sv_var (i := 10)) (sv_var (i := 3))))) (fun _ _ _ _ _ => (sv_ife (sw_eq hu (sv_var (i := 10)) (sv_var (i := 2))) (sv_var (i := 8)) (sv_var (i := 11))))) (ss_one (ss_ret (sv_call (f := 71) (G 71) hr hx (by rfl) (sa_cons (sv_var (i := 9)) sa_nil)))))))))))))
theorem sc_need_count : FnScope ["many"] ["many"] (defScope s_need_count) := ⟨rfl, rfl, rfl, by decide +kernel, rfl, by decide +kernel, by decide +kernel⟩
theorem d_need_count (Z : Txt K mg ca tk0) (n : Nat) (G : ∀ f, At P w K mg base J ca n f) (fa : Addr) (W : Ent) (E : XK) (cdv : Value) (A : Around) (outer : List PySem.Env) (s : Shared) (H : Hp) (hp : Free W []) (hr : Room (n + 1) (A.deeper (PyProof.Rows.envOfC "need_count" (defScope s_need_count) s.heap.objs.size fa cdv))) :
    PSs (cxOf (L2N.CX P w) P w K mg base ["many"] "need_count" (defScope s_need_count) fa cdv A outer s H E) (defBody s_need_count) (TSv K (cfg J hJ (fun k => .ref (ca k)) (run T n) W E) b_need_count) := by
  have nd := (sc_need_count).nd
  have hu : (A.deeper (PyProof.Rows.envOfC "need_count" (defScope s_need_count) s.heap.objs.size fa cdv)).units + 64 < cLine := hr.units
  have hu1 : (A.deeper (PyProof.Rows.envOfC "need_count" (defScope s_need_count) s.heap.objs.size fa cdv)).units + 1 < cLine := by omega
  have hc : (cxOf (L2N.CX P w) P w K mg base ["many"] "need_count" (defScope s_need_count) fa cdv A outer s H E).calm = true := rfl
  have tk : L2N.Takes (cxOf (L2N.CX P w) P w K mg base ["many"] "need_count" (defScope s_need_count) fa cdv A outer s H E) (fun cls d _ H => E cls d H) := L2N.takes_of rfl rfl rfl rfl
  have hx : Passes (L2N.CX P w) (cxOf (L2N.CX P w) P w K mg base ["many"] "need_count" (defScope s_need_count) fa cdv A outer s H E) E := L2N.passes_call tk (fun _ _ _ _ h => h)
  have po : PassesOwn (model P w) (cxOf (L2N.CX P w) P w K mg base ["many"] "need_count" (defScope s_need_count) fa cdv A outer s H E).A (cxOf (L2N.CX P w) P w K mg base ["many"] "need_count" (defScope s_need_count) fa cdv A outer s H E).env (cxOf (L2N.CX P w) P w K mg base ["many"] "need_count" (defScope s_need_count) fa cdv A outer s H E).xe := passes_of rfl
  exact (ss_one (ss_if (sw_not (sw_val (sv_call (f := 62) (G 62) hr hx (by rfl) (sa_cons (sv_var (i := 0)) (sa_cons sv_int (sa_cons sv_int sa_nil)))))) (ss_one (ss_raise hc tk Z.x_InvalidCount rfl (by rfl))) ss_nil))
theorem sc_neighbours_before : FnScope ["chart", "some", "found", "land", "one", "other"] ["chart"] (defScope s_neighbours_before) := ⟨rfl, rfl, rfl, by decide +kernel, rfl, by decide +kernel, by decide +kernel⟩
theorem d_neighbours_before (Z : Txt K mg ca tk0) (n : Nat) (G : ∀ f, At P w K mg base J ca n f) (fa : Addr) (W : Ent) (E : XK) (cdv : Value) (A : Around) (outer : List PySem.Env) (s : Shared) (H : Hp) (hp : Free W []) (hr : Room (n + 1) (A.deeper (PyProof.Rows.envOfC "neighbours_before" (defScope s_neighbours_before) s.heap.objs.size fa cdv))) :
    PSs (cxOf (L2N.CX P w) P w K mg base ["chart", "some", "found", "land", "one", "other"] "neighbours_before" (defScope s_neighbours_before) fa cdv A outer s H E) (defBody s_neighbours_before) (TSv K (cfg J hJ (fun k => .ref (ca k)) (run T n) W E) b_neighbours_before) := by
  have nd := (sc_neighbours_before).nd
  have hu : (A.deeper (PyProof.Rows.envOfC "neighbours_before" (defScope s_neighbours_before) s.heap.objs.size fa cdv)).units + 64 < cLine := hr.units
  have hu1 : (A.deeper (PyProof.Rows.envOfC "neighbours_before" (defScope s_neighbours_before) s.heap.objs.size fa cdv)).units + 1 < cLine := by omega
  have hc : (cxOf (L2N.CX P w) P w K mg base ["chart", "some", "found", "land", "one", "other"] "neighbours_before" (defScope s_neighbours_before) fa cdv A outer s H E).calm = true := rfl
  have tk : L2N.Takes (cxOf (L2N.CX P w) P w K mg base ["chart", "some", "found", "land", "one", "other"] "neighbours_before" (defScope s_neighbours_before) fa cdv A outer s H E) (fun cls d _ H => E cls d H) := L2N.takes_of rfl rfl rfl rfl
  have hx : Passes (L2N.CX P w) (cxOf (L2N.CX P w) P w K mg base ["chart", "some", "found", "land", "one", "other"] "neighbours_before" (defScope s_neighbours_before) fa cdv A outer s H E) E := L2N.passes_call tk (fun _ _ _ _ h => h)
  have po : PassesOwn (model P w) (cxOf (L2N.CX P w) P w K mg base ["chart", "some", "found", "land", "one", "other"] "neighbours_before" (defScope s_neighbours_before) fa cdv A outer s H E).A (cxOf (L2N.CX P w) P w K mg base ["chart", "some", "found", "land", "one", "other"] "neighbours_before" (defScope s_neighbours_before) fa cdv A outer s H E).env (cxOf (L2N.CX P w) P w K mg base ["chart", "some", "found", "land", "one", "other"] "neighbours_before" (defScope s_neighbours_before) fa cdv A outer s H E).xe := passes_of rfl
  exact (ss_cons (ss_asg tg_name (sv_call (f := 14) (G 14) hr hx (by rfl) (sa_cons (sv_var (i := 0)) sa_nil)) (pg_name (i := 1) nd rfl (Or.inl rfl))) (ss_cons (ss_lcM (i := 2) hc nd rfl rfl rfl (si_seq (sv_var (i := 1))) (blkOk_by (N := ["chart", "some", "found", "land", "one", "other"]) (sc := defScope s_neighbours_before) (own := [("land", 3)]) (by decide +kernel)) to_name rfl (fun _ _ _ _ _ => (pg_name (i := 3) nd rfl (Or.inl rfl))) (fun _ _ _ _ _ => st_nil) (fun _ _ _ _ _ => (sv_mkl sa_nil))) (ss_cons (ss_for po hc (si_seq (sv_call (f := 9) (G 9) hr hx (by rfl) (sa_cons (sv_var (i := 1)) (sa_cons (sv_call (f := 11) (G 11) hr hx (by rfl) (sa_cons (sv_var (i := 0)) sa_nil)) sa_nil)))) (tg_tup rfl) (pg_tup hc (pgs_names (pg_name (i := 4) nd rfl (Or.inl rfl)) (pgs_names (pg_name (i := 5) nd rfl (Or.inl rfl)) pgs_none))) (ss_one (ss_if (sw_ne hu (sv_var (i := 4)) (sv_var (i := 5))) (ss_one (ss_store (i := 2) (pv 2) (sv_var (i := 5)) (sv_add (sv_oitem (pv 2) (sv_var (i := 5))) (sv_mkl (sa_cons (sv_var (i := 4)) sa_nil))))) ss_nil))) (ss_one (ss_ret (sv_var (i := 2)))))))
theorem sc_coloured : FnScope ["near", "many", "some", "land", "colour", "other", "found"] ["near", "many", "some"] (defScope s_coloured) := ⟨rfl, rfl, rfl, by decide +kernel, rfl, by decide +kernel, by decide +kernel⟩
theorem d_coloured (Z : Txt K mg ca tk0) (n : Nat) (G : ∀ f, At P w K mg base J ca n f) (fa : Addr) (W : Ent) (E : XK) (cdv : Value) (A : Around) (outer : List PySem.Env) (s : Shared) (H : Hp) (hp : Free W []) (hr : Room (n + 1) (A.deeper (PyProof.Rows.envOfC "coloured" (defScope s_coloured) s.heap.objs.size fa cdv))) :
    PSs (cxOf (L2N.CX P w) P w K mg base ["near", "many", "some", "land", "colour", "other", "found"] "coloured" (defScope s_coloured) fa cdv A outer s H E) (defBody s_coloured) (TSv K (cfg J hJ (fun k => .ref (ca k)) (run T n) W E) b_coloured) := by
  have nd := (sc_coloured).nd
  have hu : (A.deeper (PyProof.Rows.envOfC "coloured" (defScope s_coloured) s.heap.objs.size fa cdv)).units + 64 < cLine := hr.units
  have hu1 : (A.deeper (PyProof.Rows.envOfC "coloured" (defScope s_coloured) s.heap.objs.size fa cdv)).units + 1 < cLine := by omega
  have hc : (cxOf (L2N.CX P w) P w K mg base ["near", "many", "some", "land", "colour", "other", "found"] "coloured" (defScope s_coloured) fa cdv A outer s H E).calm = true := rfl
  have tk : L2N.Takes (cxOf (L2N.CX P w) P w K mg base ["near", "many", "some", "land", "colour", "other", "found"] "coloured" (defScope s_coloured) fa cdv A outer s H E) (fun cls d _ H => E cls d H) := L2N.takes_of rfl rfl rfl rfl
  have hx : Passes (L2N.CX P w) (cxOf (L2N.CX P w) P w K mg base ["near", "many", "some", "land", "colour", "other", "found"] "coloured" (defScope s_coloured) fa cdv A outer s H E) E := L2N.passes_call tk (fun _ _ _ _ h => h)
  have po : PassesOwn (model P w) (cxOf (L2N.CX P w) P w K mg base ["near", "many", "some", "land", "colour", "other", "found"] "coloured" (defScope s_coloured) fa cdv A outer s H E).A (cxOf (L2N.CX P w) P w K mg base ["near", "many", "some", "land", "colour", "other", "found"] "coloured" (defScope s_coloured) fa cdv A outer s H E).env (cxOf (L2N.CX P w) P w K mg base ["near", "many", "some", "land", "colour", "other", "found"] "coloured" (defScope s_coloured) fa cdv A outer s H E).xe := passes_of rfl
  exact (ss_cons (ss_asg tg_name (sv_len (by rfl) Z.b_len (sv_var (i := 2))) (pg_name (i := 3) nd rfl (Or.inl rfl))) (ss_cons (ss_if (sw_eq hu (sv_var (i := 3)) (sv_len (by rfl) Z.b_len (sv_var (i := 0)))) (ss_one (ss_ret (sv_var (i := 2)))) ss_nil) (ss_cons (ss_for po hc (si_range1 (by rfl) Z.b_range (sa_cons (sv_var (i := 1)) sa_nil)) tg_name (pg_name (i := 4) nd rfl (Or.inr rfl)) (ss_one (ss_if (sw_not (sw_val (sv_any hc (by rfl) Z.b_any (sv_lc hc nd (si_seq (sv_item (sv_var (i := 0)) (sv_var (i := 3)))) (blkOk_by (N := ["near", "many", "some", "land", "colour", "other", "found"]) (sc := defScope s_coloured) (own := [("other", 5)]) (by decide +kernel)) to_name rfl (fun _ _ _ _ _ => (pg_name (i := 5) nd rfl (Or.inl rfl))) (fun _ _ _ _ _ => st_nil) (fun _ _ _ _ _ => (sv_eq hu (sv_item (sv_var (i := 2)) (sv_var (i := 5))) (sv_var (i := 4)))))))) (ss_cons (ss_asg tg_name (sv_call (f := 56) (G 56) hr hx (by rfl) (sa_cons (sv_var (i := 0)) (sa_cons (sv_var (i := 1)) (sa_cons (sv_add (sv_var (i := 2)) (sv_mkt (sa_cons (sv_var (i := 4)) sa_nil))) sa_nil)))) (pg_name (i := 6) nd rfl (Or.inl rfl))) (ss_one (ss_if (sw_notN (sv_var (i := 6))) (ss_one (ss_ret (sv_var (i := 6)))) ss_nil))) ss_nil))) (ss_one (ss_ret sv_none)))))
theorem sc_colouring : FnScope ["chart", "many"] ["chart", "many"] (defScope s_colouring) := ⟨rfl, rfl, rfl, by decide +kernel, rfl, by decide +kernel, by decide +kernel⟩
theorem d_colouring (Z : Txt K mg ca tk0) (n : Nat) (G : ∀ f, At P w K mg base J ca n f) (fa : Addr) (W : Ent) (E : XK) (cdv : Value) (A : Around) (outer : List PySem.Env) (s : Shared) (H : Hp) (hp : Free W []) (hr : Room (n + 1) (A.deeper (PyProof.Rows.envOfC "colouring" (defScope s_colouring) s.heap.objs.size fa cdv))) :
    PSs (cxOf (L2N.CX P w) P w K mg base ["chart", "many"] "colouring" (defScope s_colouring) fa cdv A outer s H E) (defBody s_colouring) (TSv K (cfg J hJ (fun k => .ref (ca k)) (run T n) W E) b_colouring) := by
  have nd := (sc_colouring).nd
  have hu : (A.deeper (PyProof.Rows.envOfC "colouring" (defScope s_colouring) s.heap.objs.size fa cdv)).units + 64 < cLine := hr.units
  have hu1 : (A.deeper (PyProof.Rows.envOfC "colouring" (defScope s_colouring) s.heap.objs.size fa cdv)).units + 1 < cLine := by omega
  have hc : (cxOf (L2N.CX P w) P w K mg base ["chart", "many"] "colouring" (defScope s_colouring) fa cdv A outer s H E).calm = true := rfl
  have tk : L2N.Takes (cxOf (L2N.CX P w) P w K mg base ["chart", "many"] "colouring" (defScope s_colouring) fa cdv A outer s H E) (fun cls d _ H => E cls d H) := L2N.takes_of rfl rfl rfl rfl
  have hx : Passes (L2N.CX P w) (cxOf (L2N.CX P w) P w K mg base ["chart", "many"] "colouring" (defScope s_colouring) fa cdv A outer s H E) E := L2N.passes_call tk (fun _ _ _ _ h => h)
  have po : PassesOwn (model P w) (cxOf (L2N.CX P w) P w K mg base ["chart", "many"] "colouring" (defScope s_colouring) fa cdv A outer s H E).A (cxOf (L2N.CX P w) P w K mg base ["chart", "many"] "colouring" (defScope s_colouring) fa cdv A outer s H E).env (cxOf (L2N.CX P w) P w K mg base ["chart", "many"] "colouring" (defScope s_colouring) fa cdv A outer s H E).xe := passes_of rfl
  exact (ss_cons (ss_expr (sv_call (f := 13) (G 13) hr hx (by rfl) (sa_cons (sv_var (i := 0)) sa_nil))) (ss_cons (ss_expr (sv_call (f := 63) (G 63) hr hx (by rfl) (sa_cons (sv_var (i := 1)) sa_nil))) (ss_one (ss_ret (sv_call (f := 56) (G 56) hr hx (by rfl) (sa_cons (sv_call (f := 55) (G 55) hr hx (by rfl) (sa_cons (sv_var (i := 0)) sa_nil)) (sa_cons (sv_var (i := 1)) (sa_cons (sv_mkt sa_nil) sa_nil))))))))
theorem sc_need_place : FnScope ["chart", "point", "place"] ["chart", "point", "place"] (defScope s_need_place) := ⟨rfl, rfl, rfl, by decide +kernel, rfl, by decide +kernel, by decide +kernel⟩
theorem d_need_place (Z : Txt K mg ca tk0) (n : Nat) (G : ∀ f, At P w K mg base J ca n f) (fa : Addr) (W : Ent) (E : XK) (cdv : Value) (A : Around) (outer : List PySem.Env) (s : Shared) (H : Hp) (hp : Free W []) (hr : Room (n + 1) (A.deeper (PyProof.Rows.envOfC "need_place" (defScope s_need_place) s.heap.objs.size fa cdv))) :
    PSs (cxOf (L2N.CX P w) P w K mg base ["chart", "point", "place"] "need_place" (defScope s_need_place) fa cdv A outer s H E) (defBody s_need_place) (TSv K (cfg J hJ (fun k => .ref (ca k)) (run T n) W E) b_need_place) := by
  have nd := (sc_need_place).nd
  have hu : (A.deeper (PyProof.Rows.envOfC "need_place" (defScope s_need_place) s.heap.objs.size fa cdv)).units + 64 < cLine := hr.units
  have hu1 : (A.deeper (PyProof.Rows.envOfC "need_place" (defScope s_need_place) s.heap.objs.size fa cdv)).units + 1 < cLine := by omega
  have hc : (cxOf (L2N.CX P w) P w K mg base ["chart", "point", "place"] "need_place" (defScope s_need_place) fa cdv A outer s H E).calm = true := rfl
  have tk : L2N.Takes (cxOf (L2N.CX P w) P w K mg base ["chart", "point", "place"] "need_place" (defScope s_need_place) fa cdv A outer s H E) (fun cls d _ H => E cls d H) := L2N.takes_of rfl rfl rfl rfl
  have hx : Passes (L2N.CX P w) (cxOf (L2N.CX P w) P w K mg base ["chart", "point", "place"] "need_place" (defScope s_need_place) fa cdv A outer s H E) E := L2N.passes_call tk (fun _ _ _ _ h => h)
  have po : PassesOwn (model P w) (cxOf (L2N.CX P w) P w K mg base ["chart", "point", "place"] "need_place" (defScope s_need_place) fa cdv A outer s H E).A (cxOf (L2N.CX P w) P w K mg base ["chart", "point", "place"] "need_place" (defScope s_need_place) fa cdv A outer s H E).env (cxOf (L2N.CX P w) P w K mg base ["chart", "point", "place"] "need_place" (defScope s_need_place) fa cdv A outer s H E).xe := passes_of rfl
  exact (ss_cons (ss_expr (sv_call (f := 94) (G 94) hr hx (by rfl) (sa_cons (sv_var (i := 0)) (sa_cons (sv_var (i := 1)) sa_nil)))) (ss_one (ss_if (sw_not (sw_val (sv_call (f := 62) (G 62) hr hx (by rfl) (sa_cons (sv_var (i := 2)) (sa_cons sv_int (sa_cons (sv_sub (sv_len (by rfl) Z.b_len (sv_item (sv_var (i := 0)) (sv_var (i := 1)))) sv_int) sa_nil)))))) (ss_one (ss_raise hc tk Z.x_InvalidPlace rfl (by rfl))) ss_nil)))
theorem sc_with_letter : FnScope ["chart", "point", "place", "letter", "row"] ["chart", "point", "place", "letter"] (defScope s_with_letter) := ⟨rfl, rfl, rfl, by decide +kernel, rfl, by decide +kernel, by decide +kernel⟩
theorem d_with_letter (Z : Txt K mg ca tk0) (n : Nat) (G : ∀ f, At P w K mg base J ca n f) (fa : Addr) (W : Ent) (E : XK) (cdv : Value) (A : Around) (outer : List PySem.Env) (s : Shared) (H : Hp) (hp : Free W []) (hr : Room (n + 1) (A.deeper (PyProof.Rows.envOfC "with_letter" (defScope s_with_letter) s.heap.objs.size fa cdv))) :
    PSs (cxOf (L2N.CX P w) P w K mg base ["chart", "point", "place", "letter", "row"] "with_letter" (defScope s_with_letter) fa cdv A outer s H E) (defBody s_with_letter) (TSv K (cfg J hJ (fun k => .ref (ca k)) (run T n) W E) b_with_letter) := by
  have nd := (sc_with_letter).nd
  have hu : (A.deeper (PyProof.Rows.envOfC "with_letter" (defScope s_with_letter) s.heap.objs.size fa cdv)).units + 64 < cLine := hr.units
  have hu1 : (A.deeper (PyProof.Rows.envOfC "with_letter" (defScope s_with_letter) s.heap.objs.size fa cdv)).units + 1 < cLine := by omega
  have hc : (cxOf (L2N.CX P w) P w K mg base ["chart", "point", "place", "letter", "row"] "with_letter" (defScope s_with_letter) fa cdv A outer s H E).calm = true := rfl
  have tk : L2N.Takes (cxOf (L2N.CX P w) P w K mg base ["chart", "point", "place", "letter", "row"] "with_letter" (defScope s_with_letter) fa cdv A outer s H E) (fun cls d _ H => E cls d H) := L2N.takes_of rfl rfl rfl rfl
  have hx : Passes (L2N.CX P w) (cxOf (L2N.CX P w) P w K mg base ["chart", "point", "place", "letter", "row"] "with_letter" (defScope s_with_letter) fa cdv A outer s H E) E := L2N.passes_call tk (fun _ _ _ _ h => h)
  have po : PassesOwn (model P w) (cxOf (L2N.CX P w) P w K mg base ["chart", "point", "place", "letter", "row"] "with_letter" (defScope s_with_letter) fa cdv A outer s H E).A (cxOf (L2N.CX P w) P w K mg base ["chart", "point", "place", "letter", "row"] "with_letter" (defScope s_with_letter) fa cdv A outer s H E).env (cxOf (L2N.CX P w) P w K mg base ["chart", "point", "place", "letter", "row"] "with_letter" (defScope s_with_letter) fa cdv A outer s H E).xe := passes_of rfl
  exact (ss_cons (ss_asg tg_name (sv_add (sv_add (sv_slcH (sv_item (sv_var (i := 0)) (sv_var (i := 1))) (sv_var (i := 2))) (sv_var (i := 3))) (sv_slcL (sv_item (sv_var (i := 0)) (sv_var (i := 1))) (sv_var (i := 2)))) (pg_name (i := 4) nd rfl (Or.inl rfl))) (ss_one (ss_ret (sv_add (sv_add (sv_slcH (sv_var (i := 0)) (sv_var (i := 1))) (sv_mkt (sa_cons (sv_var (i := 4)) sa_nil))) (sv_slcL (sv_var (i := 0)) (sv_add (sv_var (i := 1)) sv_int))))))
theorem sc_parse_map : FnScope ["text", "chart"] ["text"] (defScope s_parse_map) := ⟨rfl, rfl, rfl, by decide +kernel, rfl, by decide +kernel, by decide +kernel⟩
theorem d_parse_map (Z : Txt K mg ca tk0) (n : Nat) (G : ∀ f, At P w K mg base J ca n f) (fa : Addr) (W : Ent) (E : XK) (cdv : Value) (A : Around) (outer : List PySem.Env) (s : Shared) (H : Hp) (hp : Free W []) (hr : Room (n + 1) (A.deeper (PyProof.Rows.envOfC "parse_map" (defScope s_parse_map) s.heap.objs.size fa cdv))) :
    PSs (cxOf (L2N.CX P w) P w K mg base ["text", "chart"] "parse_map" (defScope s_parse_map) fa cdv A outer s H E) (defBody s_parse_map) (TSv K (cfg J hJ (fun k => .ref (ca k)) (run T n) W E) b_parse_map) := by
  have nd := (sc_parse_map).nd
  have hu : (A.deeper (PyProof.Rows.envOfC "parse_map" (defScope s_parse_map) s.heap.objs.size fa cdv)).units + 64 < cLine := hr.units
  have hu1 : (A.deeper (PyProof.Rows.envOfC "parse_map" (defScope s_parse_map) s.heap.objs.size fa cdv)).units + 1 < cLine := by omega
  have hc : (cxOf (L2N.CX P w) P w K mg base ["text", "chart"] "parse_map" (defScope s_parse_map) fa cdv A outer s H E).calm = true := rfl
  have tk : L2N.Takes (cxOf (L2N.CX P w) P w K mg base ["text", "chart"] "parse_map" (defScope s_parse_map) fa cdv A outer s H E) (fun cls d _ H => E cls d H) := L2N.takes_of rfl rfl rfl rfl
  have hx : Passes (L2N.CX P w) (cxOf (L2N.CX P w) P w K mg base ["text", "chart"] "parse_map" (defScope s_parse_map) fa cdv A outer s H E) E := L2N.passes_call tk (fun _ _ _ _ h => h)
  have po : PassesOwn (model P w) (cxOf (L2N.CX P w) P w K mg base ["text", "chart"] "parse_map" (defScope s_parse_map) fa cdv A outer s H E).A (cxOf (L2N.CX P w) P w K mg base ["text", "chart"] "parse_map" (defScope s_parse_map) fa cdv A outer s H E).env (cxOf (L2N.CX P w) P w K mg base ["text", "chart"] "parse_map" (defScope s_parse_map) fa cdv A outer s H E).xe := passes_of rfl
  exact (ss_cons (ss_asg tg_name (sv_ife (sw_val (sv_isstr (by rfl) Z.b_isinstance (by rfl) Z.b_str (sv_var (i := 0)))) (sv_tuple (by rfl) Z.b_tuple (sv_split (sv_var (i := 0)) sv_strL)) (sv_mkt sa_nil)) (pg_name (i := 1) nd rfl (Or.inl rfl))) (ss_cons (ss_if (sw_not (sw_val (sv_call (f := 12) (G 12) hr hx (by rfl) (sa_cons (sv_var (i := 1)) sa_nil)))) (ss_one (ss_raise hc tk Z.x_InvalidText rfl (by rfl))) ss_nil) (ss_one (ss_ret (sv_var (i := 1))))))
theorem sc_distance : FnScope ["pairs", "start", "goal", "level", "seen", "size", "later", "one", "pair"] ["pairs", "start", "goal"] (defScope s_distance) := ⟨rfl, rfl, rfl, by decide +kernel, rfl, by decide +kernel, by decide +kernel⟩
theorem d_distance (Z : Txt K mg ca tk0) (n : Nat) (G : ∀ f, At P w K mg base J ca n f) (fa : Addr) (W : Ent) (E : XK) (cdv : Value) (A : Around) (outer : List PySem.Env) (s : Shared) (H : Hp) (hp : Free W []) (hr : Room (n + 1) (A.deeper (PyProof.Rows.envOfC "distance" (defScope s_distance) s.heap.objs.size fa cdv))) :
    PSs (cxOf (L2N.CX P w) P w K mg base ["pairs", "start", "goal", "level", "seen", "size", "later", "one", "pair"] "distance" (defScope s_distance) fa cdv A outer s H E) (defBody s_distance) (TSv K (cfg J hJ (fun k => .ref (ca k)) (run T n) W E) b_distance) := by
  have nd := (sc_distance).nd
  have hu : (A.deeper (PyProof.Rows.envOfC "distance" (defScope s_distance) s.heap.objs.size fa cdv)).units + 64 < cLine := hr.units
  have hu1 : (A.deeper (PyProof.Rows.envOfC "distance" (defScope s_distance) s.heap.objs.size fa cdv)).units + 1 < cLine := by omega
  have hc : (cxOf (L2N.CX P w) P w K mg base ["pairs", "start", "goal", "level", "seen", "size", "later", "one", "pair"] "distance" (defScope s_distance) fa cdv A outer s H E).calm = true := rfl
  have tk : L2N.Takes (cxOf (L2N.CX P w) P w K mg base ["pairs", "start", "goal", "level", "seen", "size", "later", "one", "pair"] "distance" (defScope s_distance) fa cdv A outer s H E) (fun cls d _ H => E cls d H) := L2N.takes_of rfl rfl rfl rfl
  have hx : Passes (L2N.CX P w) (cxOf (L2N.CX P w) P w K mg base ["pairs", "start", "goal", "level", "seen", "size", "later", "one", "pair"] "distance" (defScope s_distance) fa cdv A outer s H E) E := L2N.passes_call tk (fun _ _ _ _ h => h)
  have po : PassesOwn (model P w) (cxOf (L2N.CX P w) P w K mg base ["pairs", "start", "goal", "level", "seen", "size", "later", "one", "pair"] "distance" (defScope s_distance) fa cdv A outer s H E).A (cxOf (L2N.CX P w) P w K mg base ["pairs", "start", "goal", "level", "seen", "size", "later", "one", "pair"] "distance" (defScope s_distance) fa cdv A outer s H E).env (cxOf (L2N.CX P w) P w K mg base ["pairs", "start", "goal", "level", "seen", "size", "later", "one", "pair"] "distance" (defScope s_distance) fa cdv A outer s H E).xe := passes_of rfl
  exact (ss_cons (ss_parC3 (pg_tup hc (pgs_names (pg_name (i := 3) nd rfl (Or.inl rfl)) (pgs_names (pg_name (i := 4) nd rfl (Or.inr rfl)) (pgs_names (pg_name (i := 5) nd rfl (Or.inl rfl)) pgs_none)))) (saf_cons (sf_val (sv_mkl (sa_cons (sv_var (i := 1)) sa_nil))) (saf_cons (sf_val (sv_mkl (sa_cons (sv_var (i := 1)) sa_nil))) (saf_cons (sf_val sv_int) saf_nil)))) (ss_cons (ss_while po (sw_notin hu (sv_var (i := 2)) (sv_var (i := 3))) (ss_cons (ss_asgM (i := 6) nd rfl (Or.inl rfl) (sf_list sa_nil)) (ss_cons (ss_for po hc (si_seq (sv_var (i := 3))) tg_name (pg_name (i := 7) nd rfl (Or.inl rfl)) (ss_one (ss_for po hc (si_seq (sv_var (i := 0))) tg_name (pg_name (i := 8) nd rfl (Or.inl rfl)) (ss_one (ss_if (sw_in hu (sv_var (i := 7)) (sv_var (i := 8))) (ss_one (ss_append (i := 6) (pv 6) (sv_ife (sw_eq hu (sv_item (sv_var (i := 8)) sv_int) (sv_var (i := 7))) (sv_item (sv_var (i := 8)) sv_int) (sv_item (sv_var (i := 8)) sv_int)))) ss_nil))))) (ss_cons (ss_asg tg_name (sv_ssetI hc (by rfl) Z.b_sorted (by rfl) Z.b_set (sv_lc hc nd (si_seq (sv_var (i := 6))) (blkOk_by (N := ["pairs", "start", "goal", "level", "seen", "size", "later", "one", "pair"]) (sc := defScope s_distance) (own := [("one", 7)]) (by decide +kernel)) to_name rfl (fun _ _ _ _ _ => (pg_name (i := 7) nd rfl (Or.inl rfl))) (fun _ _ _ _ _ => (st_one (sw_notin hu (sv_var (i := 7)) (sv_var (i := 4))))) (fun _ _ _ _ _ => (sv_var (i := 7))))) (pg_name (i := 3) nd rfl (Or.inl rfl))) (ss_cons (ss_asg tg_name (sv_add (sv_var (i := 4)) (sv_var (i := 3))) (pg_name (i := 4) nd rfl (Or.inr rfl))) (ss_one (ss_aug (i := 5) nd rfl (Or.inl rfl) sv_int))))))) (ss_one (ss_ret (sv_var (i := 5))))))
theorem sc_fewest_passed : FnScope ["chart", "point", "goal"] ["chart", "point", "goal"] (defScope s_fewest_passed) := ⟨rfl, rfl, rfl, by decide +kernel, rfl, by decide +kernel, by decide +kernel⟩
theorem d_fewest_passed (Z : Txt K mg ca tk0) (n : Nat) (G : ∀ f, At P w K mg base J ca n f) (fa : Addr) (W : Ent) (E : XK) (cdv : Value) (A : Around) (outer : List PySem.Env) (s : Shared) (H : Hp) (hp : Free W []) (hr : Room (n + 1) (A.deeper (PyProof.Rows.envOfC "fewest_passed" (defScope s_fewest_passed) s.heap.objs.size fa cdv))) :
    PSs (cxOf (L2N.CX P w) P w K mg base ["chart", "point", "goal"] "fewest_passed" (defScope s_fewest_passed) fa cdv A outer s H E) (defBody s_fewest_passed) (TSv K (cfg J hJ (fun k => .ref (ca k)) (run T n) W E) b_fewest_passed) := by
  have nd := (sc_fewest_passed).nd
  have hu : (A.deeper (PyProof.Rows.envOfC "fewest_passed" (defScope s_fewest_passed) s.heap.objs.size fa cdv)).units + 64 < cLine := hr.units
  have hu1 : (A.deeper (PyProof.Rows.envOfC "fewest_passed" (defScope s_fewest_passed) s.heap.objs.size fa cdv)).units + 1 < cLine := by omega
  have hc : (cxOf (L2N.CX P w) P w K mg base ["chart", "point", "goal"] "fewest_passed" (defScope s_fewest_passed) fa cdv A outer s H E).calm = true := rfl
  have tk : L2N.Takes (cxOf (L2N.CX P w) P w K mg base ["chart", "point", "goal"] "fewest_passed" (defScope s_fewest_passed) fa cdv A outer s H E) (fun cls d _ H => E cls d H) := L2N.takes_of rfl rfl rfl rfl
  have hx : Passes (L2N.CX P w) (cxOf (L2N.CX P w) P w K mg base ["chart", "point", "goal"] "fewest_passed" (defScope s_fewest_passed) fa cdv A outer s H E) E := L2N.passes_call tk (fun _ _ _ _ h => h)
  have po : PassesOwn (model P w) (cxOf (L2N.CX P w) P w K mg base ["chart", "point", "goal"] "fewest_passed" (defScope s_fewest_passed) fa cdv A outer s H E).A (cxOf (L2N.CX P w) P w K mg base ["chart", "point", "goal"] "fewest_passed" (defScope s_fewest_passed) fa cdv A outer s H E).env (cxOf (L2N.CX P w) P w K mg base ["chart", "point", "goal"] "fewest_passed" (defScope s_fewest_passed) fa cdv A outer s H E).xe := passes_of rfl
  exact (ss_cons (ss_expr (sv_call (f := 13) (G 13) hr hx (by rfl) (sa_cons (sv_var (i := 0)) sa_nil))) (ss_cons (ss_expr (sv_call (f := 94) (G 94) hr hx (by rfl) (sa_cons (sv_var (i := 0)) (sa_cons (sv_var (i := 1)) sa_nil)))) (ss_cons (ss_expr (sv_call (f := 94) (G 94) hr hx (by rfl) (sa_cons (sv_var (i := 0)) (sa_cons (sv_var (i := 2)) sa_nil)))) (ss_one (ss_ret (sv_call (f := 96) (G 96) hr hx (by rfl) (sa_cons (sv_call (f := 9) (G 9) hr hx (by rfl) (sa_cons (sv_var (i := 0)) (sa_cons (sv_call (f := 11) (G 11) hr hx (by rfl) (sa_cons (sv_var (i := 0)) sa_nil)) sa_nil))) (sa_cons (sv_var (i := 1)) (sa_cons (sv_var (i := 2)) sa_nil)))))))))
theorem sc_fewest_crossed : FnScope ["chart", "land", "target"] ["chart", "land", "target"] (defScope s_fewest_crossed) := ⟨rfl, rfl, rfl, by decide +kernel, rfl, by decide +kernel, by decide +kernel⟩
theorem d_fewest_crossed (Z : Txt K mg ca tk0) (n : Nat) (G : ∀ f, At P w K mg base J ca n f) (fa : Addr) (W : Ent) (E : XK) (cdv : Value) (A : Around) (outer : List PySem.Env) (s : Shared) (H : Hp) (hp : Free W []) (hr : Room (n + 1) (A.deeper (PyProof.Rows.envOfC "fewest_crossed" (defScope s_fewest_crossed) s.heap.objs.size fa cdv))) :
    PSs (cxOf (L2N.CX P w) P w K mg base ["chart", "land", "target"] "fewest_crossed" (defScope s_fewest_crossed) fa cdv A outer s H E) (defBody s_fewest_crossed) (TSv K (cfg J hJ (fun k => .ref (ca k)) (run T n) W E) b_fewest_crossed) := by
  have nd := (sc_fewest_crossed).nd
  have hu : (A.deeper (PyProof.Rows.envOfC "fewest_crossed" (defScope s_fewest_crossed) s.heap.objs.size fa cdv)).units + 64 < cLine := hr.units
  have hu1 : (A.deeper (PyProof.Rows.envOfC "fewest_crossed" (defScope s_fewest_crossed) s.heap.objs.size fa cdv)).units + 1 < cLine := by omega
  have hc : (cxOf (L2N.CX P w) P w K mg base ["chart", "land", "target"] "fewest_crossed" (defScope s_fewest_crossed) fa cdv A outer s H E).calm = true := rfl
  have tk : L2N.Takes (cxOf (L2N.CX P w) P w K mg base ["chart", "land", "target"] "fewest_crossed" (defScope s_fewest_crossed) fa cdv A outer s H E) (fun cls d _ H => E cls d H) := L2N.takes_of rfl rfl rfl rfl
  have hx : Passes (L2N.CX P w) (cxOf (L2N.CX P w) P w K mg base ["chart", "land", "target"] "fewest_crossed" (defScope s_fewest_crossed) fa cdv A outer s H E) E := L2N.passes_call tk (fun _ _ _ _ h => h)
  have po : PassesOwn (model P w) (cxOf (L2N.CX P w) P w K mg base ["chart", "land", "target"] "fewest_crossed" (defScope s_fewest_crossed) fa cdv A outer s H E).A (cxOf (L2N.CX P w) P w K mg base ["chart", "land", "target"] "fewest_crossed" (defScope s_fewest_crossed) fa cdv A outer s H E).env (cxOf (L2N.CX P w) P w K mg base ["chart", "land", "target"] "fewest_crossed" (defScope s_fewest_crossed) fa cdv A outer s H E).xe := passes_of rfl
  exact (ss_cons (ss_expr (sv_call (f := 13) (G 13) hr hx (by rfl) (sa_cons (sv_var (i := 0)) sa_nil))) (ss_cons (ss_expr (sv_call (f := 95) (G 95) hr hx (by rfl) (sa_cons (sv_var (i := 0)) (sa_cons (sv_var (i := 1)) sa_nil)))) (ss_cons (ss_expr (sv_call (f := 95) (G 95) hr hx (by rfl) (sa_cons (sv_var (i := 0)) (sa_cons (sv_var (i := 2)) sa_nil)))) (ss_one (ss_ret (sv_call (f := 96) (G 96) hr hx (by rfl) (sa_cons (sv_call (f := 9) (G 9) hr hx (by rfl) (sa_cons (sv_call (f := 14) (G 14) hr hx (by rfl) (sa_cons (sv_var (i := 0)) sa_nil)) (sa_cons (sv_call (f := 11) (G 11) hr hx (by rfl) (sa_cons (sv_var (i := 0)) sa_nil)) sa_nil))) (sa_cons (sv_var (i := 1)) (sa_cons (sv_var (i := 2)) sa_nil)))))))))
theorem sc__law_drawn : FnScope ["cell", "k", "more"] ["cell", "k"] (defScope s__law_drawn) := ⟨rfl, rfl, rfl, by decide +kernel, rfl, by decide +kernel, by decide +kernel⟩
theorem d__law_drawn (Z : Txt K mg ca tk0) (n : Nat) (G : ∀ f, At P w K mg base J ca n f) (fa : Addr) (W : Ent) (E : XK) (cdv : Value) (A : Around) (outer : List PySem.Env) (s : Shared) (H : Hp) (hp : Free W []) (hr : Room (n + 1) (A.deeper (PyProof.Rows.envOfC "_law_drawn" (defScope s__law_drawn) s.heap.objs.size fa cdv))) :
    PSs (cxOf (L2N.CX P w) P w K mg base ["cell", "k", "more"] "_law_drawn" (defScope s__law_drawn) fa cdv A outer s H E) (defBody s__law_drawn) (TSv K (cfg J hJ (fun k => .ref (ca k)) (run T n) W E) b__law_drawn) := by
  have nd := (sc__law_drawn).nd
  have hu : (A.deeper (PyProof.Rows.envOfC "_law_drawn" (defScope s__law_drawn) s.heap.objs.size fa cdv)).units + 64 < cLine := hr.units
  have hu1 : (A.deeper (PyProof.Rows.envOfC "_law_drawn" (defScope s__law_drawn) s.heap.objs.size fa cdv)).units + 1 < cLine := by omega
  have hc : (cxOf (L2N.CX P w) P w K mg base ["cell", "k", "more"] "_law_drawn" (defScope s__law_drawn) fa cdv A outer s H E).calm = true := rfl
  have tk : L2N.Takes (cxOf (L2N.CX P w) P w K mg base ["cell", "k", "more"] "_law_drawn" (defScope s__law_drawn) fa cdv A outer s H E) (fun cls d _ H => E cls d H) := L2N.takes_of rfl rfl rfl rfl
  have hx : Passes (L2N.CX P w) (cxOf (L2N.CX P w) P w K mg base ["cell", "k", "more"] "_law_drawn" (defScope s__law_drawn) fa cdv A outer s H E) E := L2N.passes_call tk (fun _ _ _ _ h => h)
  have po : PassesOwn (model P w) (cxOf (L2N.CX P w) P w K mg base ["cell", "k", "more"] "_law_drawn" (defScope s__law_drawn) fa cdv A outer s H E).A (cxOf (L2N.CX P w) P w K mg base ["cell", "k", "more"] "_law_drawn" (defScope s__law_drawn) fa cdv A outer s H E).env (cxOf (L2N.CX P w) P w K mg base ["cell", "k", "more"] "_law_drawn" (defScope s__law_drawn) fa cdv A outer s H E).xe := passes_of rfl
  exact (ss_cons (ss_asg tg_name (sv_mod (sv_add (sv_mul (sv_var (i := 0)) sv_int) (sv_mul (sv_add (sv_var (i := 1)) sv_int) sv_int)) sv_int) (pg_name (i := 2) nd rfl (Or.inl rfl))) (ss_cons (ss_asg tg_name (sv_mod (sv_mul (sv_var (i := 2)) (sv_var (i := 2))) sv_int) (pg_name (i := 2) nd rfl (Or.inl rfl))) (ss_cons (ss_asg tg_name (sv_mul (sv_mul (sv_add (sv_mod (sv_var (i := 2)) sv_int) sv_int) (sv_add (sv_fdiv (sv_var (i := 2)) sv_int) sv_int)) (sv_var (i := 2))) (pg_name (i := 2) nd rfl (Or.inl rfl))) (ss_one (ss_ret (sv_mod (sv_var (i := 2)) sv_int))))))
theorem sc__law_roll : FnScope ["dice", "many", "told"] ["dice", "many"] (defScope s__law_roll) := ⟨rfl, rfl, rfl, by decide +kernel, rfl, by decide +kernel, by decide +kernel⟩
theorem d__law_roll (Z : Txt K mg ca tk0) (n : Nat) (G : ∀ f, At P w K mg base J ca n f) (fa : Addr) (W : Ent) (E : XK) (cdv : Value) (A : Around) (outer : List PySem.Env) (s : Shared) (H : Hp) (hp : Free W [0]) (hr : Room (n + 1) (A.deeper (PyProof.Rows.envOfC "_law_roll" (defScope s__law_roll) s.heap.objs.size fa cdv))) :
    PSs (cxOf (L2N.CX P w) P w K mg base ["dice", "many", "told"] "_law_roll" (defScope s__law_roll) fa cdv A outer s H E) (defBody s__law_roll) (TSv K (cfg J hJ (fun k => .ref (ca k)) (run T n) W E) b__law_roll) := by
  have nd := (sc__law_roll).nd
  have hu : (A.deeper (PyProof.Rows.envOfC "_law_roll" (defScope s__law_roll) s.heap.objs.size fa cdv)).units + 64 < cLine := hr.units
  have hu1 : (A.deeper (PyProof.Rows.envOfC "_law_roll" (defScope s__law_roll) s.heap.objs.size fa cdv)).units + 1 < cLine := by omega
  have hc : (cxOf (L2N.CX P w) P w K mg base ["dice", "many", "told"] "_law_roll" (defScope s__law_roll) fa cdv A outer s H E).calm = true := rfl
  have tk : L2N.Takes (cxOf (L2N.CX P w) P w K mg base ["dice", "many", "told"] "_law_roll" (defScope s__law_roll) fa cdv A outer s H E) (fun cls d _ H => E cls d H) := L2N.takes_of rfl rfl rfl rfl
  have hx : Passes (L2N.CX P w) (cxOf (L2N.CX P w) P w K mg base ["dice", "many", "told"] "_law_roll" (defScope s__law_roll) fa cdv A outer s H E) E := L2N.passes_call tk (fun _ _ _ _ h => h)
  have po : PassesOwn (model P w) (cxOf (L2N.CX P w) P w K mg base ["dice", "many", "told"] "_law_roll" (defScope s__law_roll) fa cdv A outer s H E).A (cxOf (L2N.CX P w) P w K mg base ["dice", "many", "told"] "_law_roll" (defScope s__law_roll) fa cdv A outer s H E).env (cxOf (L2N.CX P w) P w K mg base ["dice", "many", "told"] "_law_roll" (defScope s__law_roll) fa cdv A outer s H E).xe := passes_of rfl
  exact (ss_cons (ss_if (sw_ge (sv_oitem (pv 0) sv_int) (sv_pow sv_int sv_int)) (ss_cons (ss_asg tg_name (sv_mod (sv_oitem (pv 0) sv_int) (sv_var (i := 1))) (pg_name (i := 2) nd rfl (Or.inl rfl))) (ss_cons (ss_store (i := 0) (pv 0) sv_int (sv_fdiv (sv_oitem (pv 0) sv_int) (sv_var (i := 1)))) (ss_one (ss_ret (sv_var (i := 2)))))) ss_nil) (ss_cons (ss_store (i := 0) (pv 0) sv_int (sv_add (sv_oitem (pv 0) sv_int) sv_int)) (ss_one (ss_ret (sv_mod (sv_fdiv (sv_call (f := 17) (G 17) hr hx (by rfl) (sa_cons (sv_oitem (pv 0) sv_int) (sa_cons (sv_oitem (pv 0) sv_int) sa_nil))) sv_int) (sv_var (i := 1)))))))
theorem d_taken_away_g (Z : Txt K mg ca tk0) (n : Nat) (G : ∀ f, At P w K mg base J ca n f) (fa : Addr) (W : Ent) (E : XK) (cdv : Value) (A : Around) (outer : List PySem.Env) (s : Shared) (H : Hp) (hp : Free W []) (hr : Room (n + 1) (A.deeper (PyProof.Rows.envOfC "taken_away" (defScope s_taken_away) s.heap.objs.size fa cdv))) :
    PSsU (cxOf (L2N.CX P w) P w K mg base ["chart", "border", "one", "other", "row"] "taken_away" (defScope s_taken_away) fa cdv A outer s H E) "border" (defBody s_taken_away) (TSv K (cfg J hJ (fun k => .ref (ca k)) (run T n) W E) b_taken_away_g) := by
  have nd := (sc_taken_away).nd
  have hu : (A.deeper (PyProof.Rows.envOfC "taken_away" (defScope s_taken_away) s.heap.objs.size fa cdv)).units + 64 < cLine := hr.units
  have hc : (cxOf (L2N.CX P w) P w K mg base ["chart", "border", "one", "other", "row"] "taken_away" (defScope s_taken_away) fa cdv A outer s H E).calm = true := rfl
  have tk : L2N.Takes (cxOf (L2N.CX P w) P w K mg base ["chart", "border", "one", "other", "row"] "taken_away" (defScope s_taken_away) fa cdv A outer s H E) (fun cls d _ H => E cls d H) := L2N.takes_of rfl rfl rfl rfl
  have hx : Passes (L2N.CX P w) (cxOf (L2N.CX P w) P w K mg base ["chart", "border", "one", "other", "row"] "taken_away" (defScope s_taken_away) fa cdv A outer s H E) E := L2N.passes_call tk (fun _ _ _ _ h => h)
  have po : PassesOwn (model P w) (cxOf (L2N.CX P w) P w K mg base ["chart", "border", "one", "other", "row"] "taken_away" (defScope s_taken_away) fa cdv A outer s H E).A (cxOf (L2N.CX P w) P w K mg base ["chart", "border", "one", "other", "row"] "taken_away" (defScope s_taken_away) fa cdv A outer s H E).env (cxOf (L2N.CX P w) P w K mg base ["chart", "border", "one", "other", "row"] "taken_away" (defScope s_taken_away) fa cdv A outer s H E).xe := passes_of rfl
  have hkb : (cxOf (L2N.CX P w) P w K mg base ["chart", "border", "one", "other", "row"] "taken_away" (defScope s_taken_away) fa cdv A outer s H E).env.kindOf "border" ≠ some .local := by show (defScope s_taken_away).names.lookup ("border" : Str) ≠ some .local; decide +kernel
  exact (us_cons (ks_asg (tg_tup rfl) (fv_call (f := 43) (G 43) hr hx (by rfl) (fa_cons (fv_var (i := 0)) (fa_cons (fv_var (i := 1)) fa_nil))) (pgg_tup hc (pgsg_names (pgg_name (i := 2) nd rfl (Or.inl rfl) (by decide) hkb) (pgsg_names (pgg_name (i := 3) nd rfl (Or.inl rfl) (by decide) hkb) pgsg_nil)))) (us_cons (ks_if (fw_eq hu (fv_var (i := 2)) (fv_var (i := 3))) (ss_one (ss_raise hc tk Z.x_Bridge rfl (by rfl))) stops_raise) (us_cons (ks_if (fw_eq hu (fv_len (by rfl) Z.b_len (fv_call (f := 11) (G 11) hr hx (by rfl) (fa_cons (fv_var (i := 0)) fa_nil))) fv_int) (ss_one (ss_raise hc tk Z.x_LastBorder rfl (by rfl))) stops_raise) (us_one (us_ret (uv_call1 (f := 71) (G 71) hr hx (by rfl) (ua_head (uv_lcR hc nd hkb (fi_seq (fv_var (i := 0))) (blkOk_by (N := ["chart", "border", "one", "other", "row"]) (sc := defScope s_taken_away) (own := [("row", 4)]) (by decide +kernel)) (by rfl) to_name rfl (fun _ _ _ _ _ => (pg_name (i := 4) nd rfl (Or.inl rfl))) rfl rfl (fun _ _ => by first | exact Or.inl rfl | exact Or.inr (Or.inl rfl) | exact Or.inr (Or.inr rfl)) (fun _ _ => by first | exact Or.inl rfl | exact Or.inr (Or.inl rfl) | exact Or.inr (Or.inr rfl)) (fun _ _ h => nomatch (show (some NameKind.cell : Option NameKind) = some NameKind.local from h))) sa_nil)))))))
theorem d_without_g (Z : Txt K mg ca tk0) (n : Nat) (G : ∀ f, At P w K mg base J ca n f) (fa : Addr) (W : Ent) (E : XK) (cdv : Value) (A : Around) (outer : List PySem.Env) (s : Shared) (H : Hp) (hp : Free W []) (hr : Room (n + 1) (A.deeper (PyProof.Rows.envOfC "without" (defScope s_without) s.heap.objs.size fa cdv))) :
    PSsU (cxOf (L2N.CX P w) P w K mg base ["chart", "border"] "without" (defScope s_without) fa cdv A outer s H E) "border" (defBody s_without) (TSv K (cfg J hJ (fun k => .ref (ca k)) (run T n) W E) b_without_g) := by
  have nd := (sc_without).nd
  have hu : (A.deeper (PyProof.Rows.envOfC "without" (defScope s_without) s.heap.objs.size fa cdv)).units + 64 < cLine := hr.units
  have hc : (cxOf (L2N.CX P w) P w K mg base ["chart", "border"] "without" (defScope s_without) fa cdv A outer s H E).calm = true := rfl
  have tk : L2N.Takes (cxOf (L2N.CX P w) P w K mg base ["chart", "border"] "without" (defScope s_without) fa cdv A outer s H E) (fun cls d _ H => E cls d H) := L2N.takes_of rfl rfl rfl rfl
  have hx : Passes (L2N.CX P w) (cxOf (L2N.CX P w) P w K mg base ["chart", "border"] "without" (defScope s_without) fa cdv A outer s H E) E := L2N.passes_call tk (fun _ _ _ _ h => h)
  have po : PassesOwn (model P w) (cxOf (L2N.CX P w) P w K mg base ["chart", "border"] "without" (defScope s_without) fa cdv A outer s H E).A (cxOf (L2N.CX P w) P w K mg base ["chart", "border"] "without" (defScope s_without) fa cdv A outer s H E).env (cxOf (L2N.CX P w) P w K mg base ["chart", "border"] "without" (defScope s_without) fa cdv A outer s H E).xe := passes_of rfl
  exact (us_cons (ks_expr (fv_call (f := 13) (G 13) hr hx (by rfl) (fa_cons (fv_var (i := 0)) fa_nil))) (us_cons (ks_expr (fv_call (f := 42) (G 42) hr hx (by rfl) (fa_cons (fv_var (i := 0)) (fa_cons (fv_var (i := 1)) fa_nil)))) (us_one (us_ret (uv_call2 (f := 111) (G 111) hr hx (by rfl) (fv_var (i := 0)))))))
theorem sc_m__init__ : FnScope ["self", "chart"] ["self", "chart"] (defScope s_m__init__) := ⟨rfl, rfl, rfl, by decide +kernel, rfl, by decide +kernel, by decide +kernel⟩
theorem d_m__init__ (Z : Txt K mg ca tk0) (n : Nat) (G : ∀ f, At P w K mg base J ca n f) (fa : Addr) (W : Ent) (E : XK) (cdv : Value) (A : Around) (outer : List PySem.Env) (s : Shared) (H : Hp) (hp : Free W [0]) (hr : Room (n + 1) (A.deeper (PyProof.Rows.envOfC "Desk.__init__" (defScope s_m__init__) s.heap.objs.size fa cdv))) :
    PSs (cxOf (L2N.CX P w) P w K mg base ["self", "chart"] "Desk.__init__" (defScope s_m__init__) fa cdv A outer s H E) (defBody s_m__init__) (TSv K (cfg J hJ (fun k => .ref (ca k)) (run T n) W E) b_m__init__) := by
  have nd := (sc_m__init__).nd
  have hu : (A.deeper (PyProof.Rows.envOfC "Desk.__init__" (defScope s_m__init__) s.heap.objs.size fa cdv)).units + 64 < cLine := hr.units
  have hc : (cxOf (L2N.CX P w) P w K mg base ["self", "chart"] "Desk.__init__" (defScope s_m__init__) fa cdv A outer s H E).calm = true := rfl
  have tk : L2N.Takes (cxOf (L2N.CX P w) P w K mg base ["self", "chart"] "Desk.__init__" (defScope s_m__init__) fa cdv A outer s H E) (fun cls d _ H => E cls d H) := L2N.takes_of rfl rfl rfl rfl
  have hx : Passes (L2N.CX P w) (cxOf (L2N.CX P w) P w K mg base ["self", "chart"] "Desk.__init__" (defScope s_m__init__) fa cdv A outer s H E) E := L2N.passes_call tk (fun _ _ _ _ h => h)
  have po : PassesOwn (model P w) (cxOf (L2N.CX P w) P w K mg base ["self", "chart"] "Desk.__init__" (defScope s_m__init__) fa cdv A outer s H E).A (cxOf (L2N.CX P w) P w K mg base ["self", "chart"] "Desk.__init__" (defScope s_m__init__) fa cdv A outer s H E).env (cxOf (L2N.CX P w) P w K mg base ["self", "chart"] "Desk.__init__" (defScope s_m__init__) fa cdv A outer s H E).xe := passes_of rfl
  exact (ss_cons (ss_expr (sv_call (f := 13) (G 13) hr hx (by rfl) (sa_cons (sv_var (i := 1)) sa_nil))) (ss_cons (ss_fset (i := 0) Z.dk rfl (pv 0) (sv_var (i := 1))) (ss_cons (ss_fset (i := 0) Z.dk rfl (pv 0) (sv_mkl sa_nil)) (ss_one (ss_fset (i := 0) Z.dk rfl (pv 0) (sv_mkl sa_nil))))))
theorem sc_mdraw : FnScope ["self", "point", "place", "goal", "spot", "letter", "first", "last", "made"] ["self", "point", "place", "goal", "spot"] (defScope s_mdraw) := ⟨rfl, rfl, rfl, by decide +kernel, rfl, by decide +kernel, by decide +kernel⟩
theorem d_mdraw (Z : Txt K mg ca tk0) (n : Nat) (G : ∀ f, At P w K mg base J ca n f) (fa : Addr) (W : Ent) (E : XK) (cdv : Value) (A : Around) (outer : List PySem.Env) (s : Shared) (H : Hp) (hp : Free W [0]) (hr : Room (n + 1) (A.deeper (PyProof.Rows.envOfC "Desk.draw" (defScope s_mdraw) s.heap.objs.size fa cdv))) :
    PSs (cxOf (L2N.CX P w) P w K mg base ["self", "point", "place", "goal", "spot", "letter", "first", "last", "made"] "Desk.draw" (defScope s_mdraw) fa cdv A outer s H E) (defBody s_mdraw) (TSv K (cfg J hJ (fun k => .ref (ca k)) (run T n) W E) b_mdraw) := by
  have nd := (sc_mdraw).nd
  have hu : (A.deeper (PyProof.Rows.envOfC "Desk.draw" (defScope s_mdraw) s.heap.objs.size fa cdv)).units + 64 < cLine := hr.units
  have hc : (cxOf (L2N.CX P w) P w K mg base ["self", "point", "place", "goal", "spot", "letter", "first", "last", "made"] "Desk.draw" (defScope s_mdraw) fa cdv A outer s H E).calm = true := rfl
  have tk : L2N.Takes (cxOf (L2N.CX P w) P w K mg base ["self", "point", "place", "goal", "spot", "letter", "first", "last", "made"] "Desk.draw" (defScope s_mdraw) fa cdv A outer s H E) (fun cls d _ H => E cls d H) := L2N.takes_of rfl rfl rfl rfl
  have hx : Passes (L2N.CX P w) (cxOf (L2N.CX P w) P w K mg base ["self", "point", "place", "goal", "spot", "letter", "first", "last", "made"] "Desk.draw" (defScope s_mdraw) fa cdv A outer s H E) E := L2N.passes_call tk (fun _ _ _ _ h => h)
  have po : PassesOwn (model P w) (cxOf (L2N.CX P w) P w K mg base ["self", "point", "place", "goal", "spot", "letter", "first", "last", "made"] "Desk.draw" (defScope s_mdraw) fa cdv A outer s H E).A (cxOf (L2N.CX P w) P w K mg base ["self", "point", "place", "goal", "spot", "letter", "first", "last", "made"] "Desk.draw" (defScope s_mdraw) fa cdv A outer s H E).env (cxOf (L2N.CX P w) P w K mg base ["self", "point", "place", "goal", "spot", "letter", "first", "last", "made"] "Desk.draw" (defScope s_mdraw) fa cdv A outer s H E).xe := passes_of rfl
  exact (ss_cons (ss_expr (sv_call (f := 100) (G 100) hr hx (by rfl) (sa_cons (sv_fld (i := 0) Z.dk rfl (pv 0)) (sa_cons (sv_var (i := 1)) (sa_cons (sv_var (i := 2)) sa_nil))))) (ss_cons (ss_expr (sv_call (f := 100) (G 100) hr hx (by rfl) (sa_cons (sv_fld (i := 0) Z.dk rfl (pv 0)) (sa_cons (sv_var (i := 3)) (sa_cons (sv_var (i := 4)) sa_nil))))) (ss_cons (ss_if (sw_eq hu (sv_len (by rfl) Z.b_len (sv_call (f := 11) (G 11) hr hx (by rfl) (sa_cons (sv_fld (i := 0) Z.dk rfl (pv 0)) sa_nil))) sv_int) (ss_one (ss_raise hc tk Z.x_TooLarge rfl (by rfl))) ss_nil) (ss_cons (ss_asg tg_name (sv_item (sv_gstrL (by rfl) Z.g_NAMES) (sv_len (by rfl) Z.b_len (sv_call (f := 11) (G 11) hr hx (by rfl) (sa_cons (sv_fld (i := 0) Z.dk rfl (pv 0)) sa_nil)))) (pg_name (i := 5) nd rfl (Or.inl rfl))) (ss_cons (ss_asg (tg_lst rfl) (sv_sorted hc hu (by rfl) Z.b_sorted (sv_mkl (sa_cons (sv_mkt (sa_cons (sv_var (i := 1)) (sa_cons (sv_var (i := 2)) sa_nil))) (sa_cons (sv_mkt (sa_cons (sv_var (i := 3)) (sa_cons (sv_var (i := 4)) sa_nil))) sa_nil)))) (pg_unl hc (pgs_names (pg_name (i := 6) nd rfl (Or.inl rfl)) (pgs_names (pg_name (i := 7) nd rfl (Or.inl rfl)) pgs_none)))) (ss_cons (ss_asg tg_name (sv_call (f := 101) (G 101) hr hx (by rfl) (sa_cons (sv_call (f := 101) (G 101) hr hx (by rfl) (sa_cons (sv_fld (i := 0) Z.dk rfl (pv 0)) (sa_cons (sv_item (sv_var (i := 7)) sv_int) (sa_cons (sv_item (sv_var (i := 7)) sv_int) (sa_cons (sv_var (i := 5)) sa_nil))))) (sa_cons (sv_item (sv_var (i := 6)) sv_int) (sa_cons (sv_item (sv_var (i := 6)) sv_int) (sa_cons (sv_var (i := 5)) sa_nil))))) (pg_name (i := 8) nd rfl (Or.inl rfl))) (ss_cons (ss_if (sw_not (sw_val (sv_call (f := 12) (G 12) hr hx (by rfl) (sa_cons (sv_var (i := 8)) sa_nil)))) (ss_one (ss_raise hc tk Z.x_OtherLand rfl (by rfl))) ss_nil) ss_stuckL)))))))
theorem sc_mredo : FnScope ["self"] ["self"] (defScope s_mredo) := ⟨rfl, rfl, rfl, by decide +kernel, rfl, by decide +kernel, by decide +kernel⟩
theorem d_mredo (Z : Txt K mg ca tk0) (n : Nat) (G : ∀ f, At P w K mg base J ca n f) (fa : Addr) (W : Ent) (E : XK) (cdv : Value) (A : Around) (outer : List PySem.Env) (s : Shared) (H : Hp) (hp : Free W [0]) (hr : Room (n + 1) (A.deeper (PyProof.Rows.envOfC "Desk.redo" (defScope s_mredo) s.heap.objs.size fa cdv))) :
    PSs (cxOf (L2N.CX P w) P w K mg base ["self"] "Desk.redo" (defScope s_mredo) fa cdv A outer s H E) (defBody s_mredo) (TSv K (cfg J hJ (fun k => .ref (ca k)) (run T n) W E) b_mredo) := by
  have nd := (sc_mredo).nd
  have hu : (A.deeper (PyProof.Rows.envOfC "Desk.redo" (defScope s_mredo) s.heap.objs.size fa cdv)).units + 64 < cLine := hr.units
  have hc : (cxOf (L2N.CX P w) P w K mg base ["self"] "Desk.redo" (defScope s_mredo) fa cdv A outer s H E).calm = true := rfl
  have tk : L2N.Takes (cxOf (L2N.CX P w) P w K mg base ["self"] "Desk.redo" (defScope s_mredo) fa cdv A outer s H E) (fun cls d _ H => E cls d H) := L2N.takes_of rfl rfl rfl rfl
  have hx : Passes (L2N.CX P w) (cxOf (L2N.CX P w) P w K mg base ["self"] "Desk.redo" (defScope s_mredo) fa cdv A outer s H E) E := L2N.passes_call tk (fun _ _ _ _ h => h)
  have po : PassesOwn (model P w) (cxOf (L2N.CX P w) P w K mg base ["self"] "Desk.redo" (defScope s_mredo) fa cdv A outer s H E).A (cxOf (L2N.CX P w) P w K mg base ["self"] "Desk.redo" (defScope s_mredo) fa cdv A outer s H E).env (cxOf (L2N.CX P w) P w K mg base ["self"] "Desk.redo" (defScope s_mredo) fa cdv A outer s H E).xe := passes_of rfl
  exact (ss_cons (ss_if (sw_eq hu (sv_fld (i := 0) Z.dk rfl (pv 0)) (sv_mkl sa_nil)) (ss_one (ss_raise hc tk Z.x_NothingToUndo rfl (by rfl))) ss_nil) ss_stuckL)
include hJ in
theorem at_all (Z : Txt K mg ca tk0) (D : Defs K mg) : ∀ n f, At P w K mg base J ca n f := by
  intro n
  induction n with
  | zero =>
    intro f
    unfold At
    split
    · obtain ⟨fa, fd, g, F⟩ := D.f_is_drawing
      exact def_ok0 F sc_is_drawing (F.binds (ps := ["value"]) fun _ _ _ _ _ _ us hl => match us, hl with | [_], _ => rfl) g
    · obtain ⟨fa, fd, g, F⟩ := D.f_ends_in
      exact def_ok0 F sc_ends_in (F.binds (ps := ["chart"]) fun _ _ _ _ _ _ us hl => match us, hl with | [_], _ => rfl) g
    · obtain ⟨fa, fd, g, F⟩ := D.f_letter_at
      exact def_ok0 F sc_letter_at (F.binds (ps := ["chart", "end"]) fun _ _ _ _ _ _ us hl => match us, hl with | [_, _], _ => rfl) g
    · obtain ⟨fa, fd, g, F⟩ := D.f_other_end
      exact def_ok0 F sc_other_end (F.binds (ps := ["chart", "end"]) fun _ _ _ _ _ _ us hl => match us, hl with | [_, _], _ => rfl) g
    · obtain ⟨fa, fd, g, F⟩ := D.f_next_around
      exact def_ok0 F sc_next_around (F.binds (ps := ["chart", "end"]) fun _ _ _ _ _ _ us hl => match us, hl with | [_, _], _ => rfl) g
    · obtain ⟨fa, fd, g, F⟩ := D.f_gone_on
      exact def_ok0 F sc_gone_on (F.binds (ps := ["chart", "end"]) fun _ _ _ _ _ _ us hl => match us, hl with | [_, _], _ => rfl) g
    · obtain ⟨fa, fd, g, F⟩ := D.f_least_turn
      exact def_ok0 F sc_least_turn (F.binds (ps := ["text"]) fun _ _ _ _ _ _ us hl => match us, hl with | [_], _ => rfl) g
    · obtain ⟨fa, fd, g, F⟩ := D.f_rounds
      exact def_ok0 F sc_rounds (F.binds (ps := ["chart"]) fun _ _ _ _ _ _ us hl => match us, hl with | [_], _ => rfl) g
    · obtain ⟨fa, fd, g, F⟩ := D.f_reached
      exact def_ok0 F sc_reached (F.binds (ps := ["pairs", "start"]) fun _ _ _ _ _ _ us hl => match us, hl with | [_, _], _ => rfl) g
    · obtain ⟨fa, fd, g, F⟩ := D.f_pairs_of
      exact def_ok0 F sc_pairs_of (F.binds (ps := ["chart", "letters"]) fun _ _ _ _ _ _ us hl => match us, hl with | [_, _], _ => rfl) g
    · obtain ⟨fa, fd, g, F⟩ := D.f_points_of
      exact def_ok0 F sc_points_of (F.binds (ps := ["chart", "letter"]) fun _ _ _ _ _ _ us hl => match us, hl with | [_, _], _ => rfl) g
    · obtain ⟨fa, fd, g, F⟩ := D.f_letters_of
      exact def_ok0 F sc_letters_of (F.binds (ps := ["chart"]) fun _ _ _ _ _ _ us hl => match us, hl with | [_], _ => rfl) g
    · obtain ⟨fa, fd, g, F⟩ := D.f_is_map
      exact def_ok0 F sc_is_map (F.binds (ps := ["value"]) fun _ _ _ _ _ _ us hl => match us, hl with | [_], _ => rfl) g
    · obtain ⟨fa, fd, g, F⟩ := D.f_need_map
      exact def_ok0 F sc_need_map (F.binds (ps := ["chart"]) fun _ _ _ _ _ _ us hl => match us, hl with | [_], _ => rfl) g
    · obtain ⟨fa, fd, g, F⟩ := D.f_land_strings
      exact def_ok0 F sc_land_strings (F.binds (ps := ["chart"]) fun _ _ _ _ _ _ us hl => match us, hl with | [_], _ => rfl) g
    · obtain ⟨fa, fd, g, F⟩ := D.f__law_drawn
      exact def_ok0 F sc__law_drawn (F.binds (ps := ["cell", "k"]) fun _ _ _ _ _ _ us hl => match us, hl with | [_, _], _ => rfl) g
    · obtain ⟨fa, fd, g, F⟩ := D.f__law_roll
      exact def_io0 F sc__law_roll (F.binds (ps := ["dice", "many"]) fun _ _ _ _ _ _ us hl => match us, hl with | [_, _], _ => rfl) g
    · obtain ⟨fa, fd, g, F⟩ := D.f_partner
      exact def_ok0 F sc_partner (F.binds (ps := ["chart"]) fun _ _ _ _ _ _ us hl => match us, hl with | [_], _ => rfl) g
    · obtain ⟨fa, fd, g, F⟩ := D.f_need_border
      exact def_ok0 F sc_need_border (F.binds (ps := ["chart", "border"]) fun _ _ _ _ _ _ us hl => match us, hl with | [_, _], _ => rfl) g
    · obtain ⟨fa, fd, g, F⟩ := D.f_lands_of
      exact def_ok0 F sc_lands_of (F.binds (ps := ["chart", "letter"]) fun _ _ _ _ _ _ us hl => match us, hl with | [_, _], _ => rfl) g
    · obtain ⟨fa, fd, g, F⟩ := D.f_between
      exact def_ok0 F sc_between (F.binds (ps := ["chart", "border"]) fun _ _ _ _ _ _ us hl => match us, hl with | [_, _], _ => rfl) g
    · obtain ⟨fa, fd, g, F⟩ := D.f_neighbours_before
      exact def_ok0 F sc_neighbours_before (F.binds (ps := ["chart"]) fun _ _ _ _ _ _ us hl => match us, hl with | [_], _ => rfl) g
    · obtain ⟨fa, fd, g, F⟩ := D.f_coloured
      exact def_ok0 F sc_coloured (F.binds (ps := ["near", "many", "some"]) fun _ _ _ _ _ _ us hl => match us, hl with | [_, _, _], _ => rfl) g
    · obtain ⟨fa, fd, g, F⟩ := D.f_is_whole
      exact def_ok0 F sc_is_whole (F.binds (ps := ["value", "low", "high"]) fun _ _ _ _ _ _ us hl => match us, hl with | [_, _, _], _ => rfl) g
    · obtain ⟨fa, fd, g, F⟩ := D.f_need_count
      exact def_ok0 F sc_need_count (F.binds (ps := ["many"]) fun _ _ _ _ _ _ us hl => match us, hl with | [_], _ => rfl) g
    · obtain ⟨fa, fd, g, F⟩ := D.f_colouring
      exact def_ok0 F sc_colouring (F.binds (ps := ["chart", "many"]) fun _ _ _ _ _ _ us hl => match us, hl with | [_, _], _ => rfl) g
    · obtain ⟨fa, fd, g, F⟩ := D.f_renamed
      exact def_ok0 F sc_renamed (F.binds (ps := ["rows"]) fun _ _ _ _ _ _ us hl => match us, hl with | [_], _ => rfl) g
    · obtain ⟨fa, fd, g, F⟩ := D.f_taken_away
      exact def_ok0 F sc_taken_away (F.binds (ps := ["chart", "border"]) fun _ _ _ _ _ _ us hl => match us, hl with | [_, _], _ => rfl) g
    · obtain ⟨fa, fd, g, F⟩ := D.f_without
      exact def_ok0 F sc_without (F.binds (ps := ["chart", "border"]) fun _ _ _ _ _ _ us hl => match us, hl with | [_, _], _ => rfl) g
    · obtain ⟨fa, fd, g, F⟩ := D.f_pulled
      exact def_ok0 F sc_pulled (F.binds (ps := ["chart", "border"]) fun _ _ _ _ _ _ us hl => match us, hl with | [_, _], _ => rfl) g
    · obtain ⟨fa, fd, g, F⟩ := D.f_need_point
      exact def_ok0 F sc_need_point (F.binds (ps := ["chart", "point"]) fun _ _ _ _ _ _ us hl => match us, hl with | [_, _], _ => rfl) g
    · obtain ⟨fa, fd, g, F⟩ := D.f_need_land
      exact def_ok0 F sc_need_land (F.binds (ps := ["chart", "land"]) fun _ _ _ _ _ _ us hl => match us, hl with | [_, _], _ => rfl) g
    · obtain ⟨fa, fd, g, F⟩ := D.f_distance
      exact def_ok0 F sc_distance (F.binds (ps := ["pairs", "start", "goal"]) fun _ _ _ _ _ _ us hl => match us, hl with | [_, _, _], _ => rfl) g
    · obtain ⟨fa, fd, g, F⟩ := D.f_fewest_passed
      exact def_ok0 F sc_fewest_passed (F.binds (ps := ["chart", "point", "goal"]) fun _ _ _ _ _ _ us hl => match us, hl with | [_, _, _], _ => rfl) g
    · obtain ⟨fa, fd, g, F⟩ := D.f_fewest_crossed
      exact def_ok0 F sc_fewest_crossed (F.binds (ps := ["chart", "land", "target"]) fun _ _ _ _ _ _ us hl => match us, hl with | [_, _, _], _ => rfl) g
    · obtain ⟨fa, fd, g, F⟩ := D.f_need_place
      exact def_ok0 F sc_need_place (F.binds (ps := ["chart", "point", "place"]) fun _ _ _ _ _ _ us hl => match us, hl with | [_, _, _], _ => rfl) g
    · obtain ⟨fa, fd, g, F⟩ := D.f_with_letter
      exact def_ok0 F sc_with_letter (F.binds (ps := ["chart", "point", "place", "letter"]) fun _ _ _ _ _ _ us hl => match us, hl with | [_, _, _, _], _ => rfl) g
    · obtain ⟨fa, fd, g, F⟩ := D.f_parse_map
      exact def_ok0 F sc_parse_map (F.binds (ps := ["text"]) fun _ _ _ _ _ _ us hl => match us, hl with | [_], _ => rfl) g
    · obtain ⟨fa, fd, g, F⟩ := D.f_taken_away
      exact def_okT0 (y := "border") F sc_taken_away rfl (F.binds (ps := ["chart", "border"]) fun _ _ _ _ _ _ us hl => match us, hl with | [_, _], _ => rfl) g
    · obtain ⟨fa, fd, g, F⟩ := D.f_without
      exact def_okT0 (y := "border") F sc_without rfl (F.binds (ps := ["chart", "border"]) fun _ _ _ _ _ _ us hl => match us, hl with | [_, _], _ => rfl) g
    · obtain ⟨fa, fd, g, F⟩ := D.f_m__init__
      exact def_init0 F sc_m__init__ (F.binds (ps := ["self", "chart"]) fun _ _ _ _ _ _ us hl => match us, hl with | [_, _], _ => rfl) g
    · obtain ⟨fa, fd, g, F⟩ := D.f_mdraw
      exact def_lck0 F sc_mdraw (F.binds (ps := ["self", "point", "place", "goal", "spot"]) fun _ _ _ _ _ _ us hl => match us, hl with | [_, _, _, _, _], _ => rfl) g
    · obtain ⟨fa, fd, g, F⟩ := D.f_mredo
      exact def_lck0 F sc_mredo (F.binds (ps := ["self"]) fun _ _ _ _ _ _ us hl => match us, hl with | [_], _ => rfl) g
    · trivial
  | succ n G =>
    intro f
    unfold At
    split
    · obtain ⟨fa, fd, g, F⟩ := D.f_is_drawing
      exact def_ok (J := J) (hJ := hJ) T_is_drawing rfl F sc_is_drawing rfl rfl (by decide) (F.binds (ps := ["value"]) fun _ _ _ _ _ _ us hl => match us, hl with | [_], _ => rfl) g fun W E cdv A outer s H hp hr => d_is_drawing P w K mg base J hJ ca tk0 Z n G fa W E cdv A outer s H hp hr
    · obtain ⟨fa, fd, g, F⟩ := D.f_ends_in
      exact def_ok (J := J) (hJ := hJ) T_ends_in rfl F sc_ends_in rfl rfl (by decide) (F.binds (ps := ["chart"]) fun _ _ _ _ _ _ us hl => match us, hl with | [_], _ => rfl) g fun W E cdv A outer s H hp hr => d_ends_in P w K mg base J hJ ca tk0 Z n G fa W E cdv A outer s H hp hr
    · obtain ⟨fa, fd, g, F⟩ := D.f_letter_at
      exact def_ok (J := J) (hJ := hJ) T_letter_at rfl F sc_letter_at rfl rfl (by decide) (F.binds (ps := ["chart", "end"]) fun _ _ _ _ _ _ us hl => match us, hl with | [_, _], _ => rfl) g fun W E cdv A outer s H hp hr => d_letter_at P w K mg base J hJ ca tk0 Z n G fa W E cdv A outer s H hp hr
    · obtain ⟨fa, fd, g, F⟩ := D.f_other_end
      exact def_ok (J := J) (hJ := hJ) T_other_end rfl F sc_other_end rfl rfl (by decide) (F.binds (ps := ["chart", "end"]) fun _ _ _ _ _ _ us hl => match us, hl with | [_, _], _ => rfl) g fun W E cdv A outer s H hp hr => d_other_end P w K mg base J hJ ca tk0 Z n G fa W E cdv A outer s H hp hr
    · obtain ⟨fa, fd, g, F⟩ := D.f_next_around
      exact def_ok (J := J) (hJ := hJ) T_next_around rfl F sc_next_around rfl rfl (by decide) (F.binds (ps := ["chart", "end"]) fun _ _ _ _ _ _ us hl => match us, hl with | [_, _], _ => rfl) g fun W E cdv A outer s H hp hr => d_next_around P w K mg base J hJ ca tk0 Z n G fa W E cdv A outer s H hp hr
    · obtain ⟨fa, fd, g, F⟩ := D.f_gone_on
      exact def_ok (J := J) (hJ := hJ) T_gone_on rfl F sc_gone_on rfl rfl (by decide) (F.binds (ps := ["chart", "end"]) fun _ _ _ _ _ _ us hl => match us, hl with | [_, _], _ => rfl) g fun W E cdv A outer s H hp hr => d_gone_on P w K mg base J hJ ca tk0 Z n G fa W E cdv A outer s H hp hr
    · obtain ⟨fa, fd, g, F⟩ := D.f_least_turn
      exact def_ok (J := J) (hJ := hJ) T_least_turn rfl F sc_least_turn rfl rfl (by decide) (F.binds (ps := ["text"]) fun _ _ _ _ _ _ us hl => match us, hl with | [_], _ => rfl) g fun W E cdv A outer s H hp hr => d_least_turn P w K mg base J hJ ca tk0 Z n G fa W E cdv A outer s H hp hr
    · obtain ⟨fa, fd, g, F⟩ := D.f_rounds
      exact def_ok (J := J) (hJ := hJ) T_rounds rfl F sc_rounds rfl rfl (by decide) (F.binds (ps := ["chart"]) fun _ _ _ _ _ _ us hl => match us, hl with | [_], _ => rfl) g fun W E cdv A outer s H hp hr => d_rounds P w K mg base J hJ ca tk0 Z n G fa W E cdv A outer s H hp hr
    · obtain ⟨fa, fd, g, F⟩ := D.f_reached
      exact def_ok (J := J) (hJ := hJ) T_reached rfl F sc_reached rfl rfl (by decide) (F.binds (ps := ["pairs", "start"]) fun _ _ _ _ _ _ us hl => match us, hl with | [_, _], _ => rfl) g fun W E cdv A outer s H hp hr => d_reached P w K mg base J hJ ca tk0 Z n G fa W E cdv A outer s H hp hr
    · obtain ⟨fa, fd, g, F⟩ := D.f_pairs_of
      exact def_ok (J := J) (hJ := hJ) T_pairs_of rfl F sc_pairs_of rfl rfl (by decide) (F.binds (ps := ["chart", "letters"]) fun _ _ _ _ _ _ us hl => match us, hl with | [_, _], _ => rfl) g fun W E cdv A outer s H hp hr => d_pairs_of P w K mg base J hJ ca tk0 Z n G fa W E cdv A outer s H hp hr
    · obtain ⟨fa, fd, g, F⟩ := D.f_points_of
      exact def_ok (J := J) (hJ := hJ) T_points_of rfl F sc_points_of rfl rfl (by decide) (F.binds (ps := ["chart", "letter"]) fun _ _ _ _ _ _ us hl => match us, hl with | [_, _], _ => rfl) g fun W E cdv A outer s H hp hr => d_points_of P w K mg base J hJ ca tk0 Z n G fa W E cdv A outer s H hp hr
    · obtain ⟨fa, fd, g, F⟩ := D.f_letters_of
      exact def_ok (J := J) (hJ := hJ) T_letters_of rfl F sc_letters_of rfl rfl (by decide) (F.binds (ps := ["chart"]) fun _ _ _ _ _ _ us hl => match us, hl with | [_], _ => rfl) g fun W E cdv A outer s H hp hr => d_letters_of P w K mg base J hJ ca tk0 Z n G fa W E cdv A outer s H hp hr
    · obtain ⟨fa, fd, g, F⟩ := D.f_is_map
      exact def_ok (J := J) (hJ := hJ) T_is_map rfl F sc_is_map rfl rfl (by decide) (F.binds (ps := ["value"]) fun _ _ _ _ _ _ us hl => match us, hl with | [_], _ => rfl) g fun W E cdv A outer s H hp hr => d_is_map P w K mg base J hJ ca tk0 Z n G fa W E cdv A outer s H hp hr
    · obtain ⟨fa, fd, g, F⟩ := D.f_need_map
      exact def_ok (J := J) (hJ := hJ) T_need_map rfl F sc_need_map rfl rfl (by decide) (F.binds (ps := ["chart"]) fun _ _ _ _ _ _ us hl => match us, hl with | [_], _ => rfl) g fun W E cdv A outer s H hp hr => d_need_map P w K mg base J hJ ca tk0 Z n G fa W E cdv A outer s H hp hr
    · obtain ⟨fa, fd, g, F⟩ := D.f_land_strings
      exact def_ok (J := J) (hJ := hJ) T_land_strings rfl F sc_land_strings rfl rfl (by decide) (F.binds (ps := ["chart"]) fun _ _ _ _ _ _ us hl => match us, hl with | [_], _ => rfl) g fun W E cdv A outer s H hp hr => d_land_strings P w K mg base J hJ ca tk0 Z n G fa W E cdv A outer s H hp hr
    · obtain ⟨fa, fd, g, F⟩ := D.f__law_drawn
      exact def_ok (J := J) (hJ := hJ) T__law_drawn rfl F sc__law_drawn rfl rfl (by decide) (F.binds (ps := ["cell", "k"]) fun _ _ _ _ _ _ us hl => match us, hl with | [_, _], _ => rfl) g fun W E cdv A outer s H hp hr => d__law_drawn P w K mg base J hJ ca tk0 Z n G fa W E cdv A outer s H hp hr
    · obtain ⟨fa, fd, g, F⟩ := D.f__law_roll
      exact def_io (J := J) (hJ := hJ) T__law_roll rfl F sc__law_roll rfl rfl (by decide) (F.binds (ps := ["dice", "many"]) fun _ _ _ _ _ _ us hl => match us, hl with | [_, _], _ => rfl) g fun W E cdv A outer s H hp hr => d__law_roll P w K mg base J hJ ca tk0 Z n G fa W E cdv A outer s H hp hr
    · obtain ⟨fa, fd, g, F⟩ := D.f_partner
      exact def_ok (J := J) (hJ := hJ) T_partner rfl F sc_partner rfl rfl (by decide) (F.binds (ps := ["chart"]) fun _ _ _ _ _ _ us hl => match us, hl with | [_], _ => rfl) g fun W E cdv A outer s H hp hr => d_partner P w K mg base J hJ ca tk0 Z n G fa W E cdv A outer s H hp hr
    · obtain ⟨fa, fd, g, F⟩ := D.f_need_border
      exact def_ok (J := J) (hJ := hJ) T_need_border rfl F sc_need_border rfl rfl (by decide) (F.binds (ps := ["chart", "border"]) fun _ _ _ _ _ _ us hl => match us, hl with | [_, _], _ => rfl) g fun W E cdv A outer s H hp hr => d_need_border P w K mg base J hJ ca tk0 Z n G fa W E cdv A outer s H hp hr
    · obtain ⟨fa, fd, g, F⟩ := D.f_lands_of
      exact def_ok (J := J) (hJ := hJ) T_lands_of rfl F sc_lands_of rfl rfl (by decide) (F.binds (ps := ["chart", "letter"]) fun _ _ _ _ _ _ us hl => match us, hl with | [_, _], _ => rfl) g fun W E cdv A outer s H hp hr => d_lands_of P w K mg base J hJ ca tk0 Z n G fa W E cdv A outer s H hp hr
    · obtain ⟨fa, fd, g, F⟩ := D.f_between
      exact def_ok (J := J) (hJ := hJ) T_between rfl F sc_between rfl rfl (by decide) (F.binds (ps := ["chart", "border"]) fun _ _ _ _ _ _ us hl => match us, hl with | [_, _], _ => rfl) g fun W E cdv A outer s H hp hr => d_between P w K mg base J hJ ca tk0 Z n G fa W E cdv A outer s H hp hr
    · obtain ⟨fa, fd, g, F⟩ := D.f_neighbours_before
      exact def_ok (J := J) (hJ := hJ) T_neighbours_before rfl F sc_neighbours_before rfl rfl (by decide) (F.binds (ps := ["chart"]) fun _ _ _ _ _ _ us hl => match us, hl with | [_], _ => rfl) g fun W E cdv A outer s H hp hr => d_neighbours_before P w K mg base J hJ ca tk0 Z n G fa W E cdv A outer s H hp hr
    · obtain ⟨fa, fd, g, F⟩ := D.f_coloured
      exact def_ok (J := J) (hJ := hJ) T_coloured rfl F sc_coloured rfl rfl (by decide) (F.binds (ps := ["near", "many", "some"]) fun _ _ _ _ _ _ us hl => match us, hl with | [_, _, _], _ => rfl) g fun W E cdv A outer s H hp hr => d_coloured P w K mg base J hJ ca tk0 Z n G fa W E cdv A outer s H hp hr
    · obtain ⟨fa, fd, g, F⟩ := D.f_is_whole
      exact def_ok (J := J) (hJ := hJ) T_is_whole rfl F sc_is_whole rfl rfl (by decide) (F.binds (ps := ["value", "low", "high"]) fun _ _ _ _ _ _ us hl => match us, hl with | [_, _, _], _ => rfl) g fun W E cdv A outer s H hp hr => d_is_whole P w K mg base J hJ ca tk0 Z n G fa W E cdv A outer s H hp hr
    · obtain ⟨fa, fd, g, F⟩ := D.f_need_count
      exact def_ok (J := J) (hJ := hJ) T_need_count rfl F sc_need_count rfl rfl (by decide) (F.binds (ps := ["many"]) fun _ _ _ _ _ _ us hl => match us, hl with | [_], _ => rfl) g fun W E cdv A outer s H hp hr => d_need_count P w K mg base J hJ ca tk0 Z n G fa W E cdv A outer s H hp hr
    · obtain ⟨fa, fd, g, F⟩ := D.f_colouring
      exact def_ok (J := J) (hJ := hJ) T_colouring rfl F sc_colouring rfl rfl (by decide) (F.binds (ps := ["chart", "many"]) fun _ _ _ _ _ _ us hl => match us, hl with | [_, _], _ => rfl) g fun W E cdv A outer s H hp hr => d_colouring P w K mg base J hJ ca tk0 Z n G fa W E cdv A outer s H hp hr
    · obtain ⟨fa, fd, g, F⟩ := D.f_renamed
      exact def_ok (J := J) (hJ := hJ) T_renamed rfl F sc_renamed rfl rfl (by decide) (F.binds (ps := ["rows"]) fun _ _ _ _ _ _ us hl => match us, hl with | [_], _ => rfl) g fun W E cdv A outer s H hp hr => d_renamed P w K mg base J hJ ca tk0 Z n G fa W E cdv A outer s H hp hr
    · obtain ⟨fa, fd, g, F⟩ := D.f_taken_away
      exact def_ok (J := J) (hJ := hJ) T_taken_away rfl F sc_taken_away rfl rfl (by decide) (F.binds (ps := ["chart", "border"]) fun _ _ _ _ _ _ us hl => match us, hl with | [_, _], _ => rfl) g fun W E cdv A outer s H hp hr => d_taken_away P w K mg base J hJ ca tk0 Z n G fa W E cdv A outer s H hp hr
    · obtain ⟨fa, fd, g, F⟩ := D.f_without
      exact def_ok (J := J) (hJ := hJ) T_without rfl F sc_without rfl rfl (by decide) (F.binds (ps := ["chart", "border"]) fun _ _ _ _ _ _ us hl => match us, hl with | [_, _], _ => rfl) g fun W E cdv A outer s H hp hr => d_without P w K mg base J hJ ca tk0 Z n G fa W E cdv A outer s H hp hr
    · obtain ⟨fa, fd, g, F⟩ := D.f_pulled
      exact def_ok (J := J) (hJ := hJ) T_pulled rfl F sc_pulled rfl rfl (by decide) (F.binds (ps := ["chart", "border"]) fun _ _ _ _ _ _ us hl => match us, hl with | [_, _], _ => rfl) g fun W E cdv A outer s H hp hr => d_pulled P w K mg base J hJ ca tk0 Z n G fa W E cdv A outer s H hp hr
    · obtain ⟨fa, fd, g, F⟩ := D.f_need_point
      exact def_ok (J := J) (hJ := hJ) T_need_point rfl F sc_need_point rfl rfl (by decide) (F.binds (ps := ["chart", "point"]) fun _ _ _ _ _ _ us hl => match us, hl with | [_, _], _ => rfl) g fun W E cdv A outer s H hp hr => d_need_point P w K mg base J hJ ca tk0 Z n G fa W E cdv A outer s H hp hr
    · obtain ⟨fa, fd, g, F⟩ := D.f_need_land
      exact def_ok (J := J) (hJ := hJ) T_need_land rfl F sc_need_land rfl rfl (by decide) (F.binds (ps := ["chart", "land"]) fun _ _ _ _ _ _ us hl => match us, hl with | [_, _], _ => rfl) g fun W E cdv A outer s H hp hr => d_need_land P w K mg base J hJ ca tk0 Z n G fa W E cdv A outer s H hp hr
    · obtain ⟨fa, fd, g, F⟩ := D.f_distance
      exact def_ok (J := J) (hJ := hJ) T_distance rfl F sc_distance rfl rfl (by decide) (F.binds (ps := ["pairs", "start", "goal"]) fun _ _ _ _ _ _ us hl => match us, hl with | [_, _, _], _ => rfl) g fun W E cdv A outer s H hp hr => d_distance P w K mg base J hJ ca tk0 Z n G fa W E cdv A outer s H hp hr
    · obtain ⟨fa, fd, g, F⟩ := D.f_fewest_passed
      exact def_ok (J := J) (hJ := hJ) T_fewest_passed rfl F sc_fewest_passed rfl rfl (by decide) (F.binds (ps := ["chart", "point", "goal"]) fun _ _ _ _ _ _ us hl => match us, hl with | [_, _, _], _ => rfl) g fun W E cdv A outer s H hp hr => d_fewest_passed P w K mg base J hJ ca tk0 Z n G fa W E cdv A outer s H hp hr
    · obtain ⟨fa, fd, g, F⟩ := D.f_fewest_crossed
      exact def_ok (J := J) (hJ := hJ) T_fewest_crossed rfl F sc_fewest_crossed rfl rfl (by decide) (F.binds (ps := ["chart", "land", "target"]) fun _ _ _ _ _ _ us hl => match us, hl with | [_, _, _], _ => rfl) g fun W E cdv A outer s H hp hr => d_fewest_crossed P w K mg base J hJ ca tk0 Z n G fa W E cdv A outer s H hp hr
    · obtain ⟨fa, fd, g, F⟩ := D.f_need_place
      exact def_ok (J := J) (hJ := hJ) T_need_place rfl F sc_need_place rfl rfl (by decide) (F.binds (ps := ["chart", "point", "place"]) fun _ _ _ _ _ _ us hl => match us, hl with | [_, _, _], _ => rfl) g fun W E cdv A outer s H hp hr => d_need_place P w K mg base J hJ ca tk0 Z n G fa W E cdv A outer s H hp hr
    · obtain ⟨fa, fd, g, F⟩ := D.f_with_letter
      exact def_ok (J := J) (hJ := hJ) T_with_letter rfl F sc_with_letter rfl rfl (by decide) (F.binds (ps := ["chart", "point", "place", "letter"]) fun _ _ _ _ _ _ us hl => match us, hl with | [_, _, _, _], _ => rfl) g fun W E cdv A outer s H hp hr => d_with_letter P w K mg base J hJ ca tk0 Z n G fa W E cdv A outer s H hp hr
    · obtain ⟨fa, fd, g, F⟩ := D.f_parse_map
      exact def_ok (J := J) (hJ := hJ) T_parse_map rfl F sc_parse_map rfl rfl (by decide) (F.binds (ps := ["text"]) fun _ _ _ _ _ _ us hl => match us, hl with | [_], _ => rfl) g fun W E cdv A outer s H hp hr => d_parse_map P w K mg base J hJ ca tk0 Z n G fa W E cdv A outer s H hp hr
    · obtain ⟨fa, fd, g, F⟩ := D.f_taken_away
      exact def_okT (y := "border") (J := J) (hJ := hJ) T_taken_away_g rfl F sc_taken_away rfl rfl rfl (by decide) (F.binds (ps := ["chart", "border"]) fun _ _ _ _ _ _ us hl => match us, hl with | [_, _], _ => rfl) g fun W E cdv A outer s H hp hr => d_taken_away_g P w K mg base J hJ ca tk0 Z n G fa W E cdv A outer s H hp hr
    · obtain ⟨fa, fd, g, F⟩ := D.f_without
      exact def_okT (y := "border") (J := J) (hJ := hJ) T_without_g rfl F sc_without rfl rfl rfl (by decide) (F.binds (ps := ["chart", "border"]) fun _ _ _ _ _ _ us hl => match us, hl with | [_, _], _ => rfl) g fun W E cdv A outer s H hp hr => d_without_g P w K mg base J hJ ca tk0 Z n G fa W E cdv A outer s H hp hr
    · obtain ⟨fa, fd, g, F⟩ := D.f_m__init__
      exact def_init (J := J) (hJ := hJ) T_m__init__ rfl rfl F sc_m__init__ rfl rfl (by decide) (F.binds (ps := ["self", "chart"]) fun _ _ _ _ _ _ us hl => match us, hl with | [_, _], _ => rfl) g fun W E cdv A outer s H hp hr => d_m__init__ P w K mg base J hJ ca tk0 Z n G fa W E cdv A outer s H hp hr
    · obtain ⟨fa, fd, g, F⟩ := D.f_mdraw
      exact def_lck (J := J) (hJ := hJ) T_mdraw rfl F sc_mdraw rfl rfl (by decide) (F.binds (ps := ["self", "point", "place", "goal", "spot"]) fun _ _ _ _ _ _ us hl => match us, hl with | [_, _, _, _, _], _ => rfl) g fun W E cdv A outer s H hp hr => d_mdraw P w K mg base J hJ ca tk0 Z n G fa W E cdv A outer s H hp hr
    · obtain ⟨fa, fd, g, F⟩ := D.f_mredo
      exact def_lck (J := J) (hJ := hJ) T_mredo rfl F sc_mredo rfl rfl (by decide) (F.binds (ps := ["self"]) fun _ _ _ _ _ _ us hl => match us, hl with | [_], _ => rfl) g fun W E cdv A outer s H hp hr => d_mredo P w K mg base J hJ ca tk0 Z n G fa W E cdv A outer s H hp hr
    · trivial
theorem sc__law_cell : FnScope ["script", "k"] ["script", "k"] (defScope s__law_cell) := ⟨rfl, rfl, rfl, by decide +kernel, rfl, by decide +kernel, by decide +kernel⟩
theorem sc__law_rounds : FnScope ["script", "most", "k"] ["script", "most"] (defScope s__law_rounds) := ⟨rfl, rfl, rfl, by decide +kernel, rfl, by decide +kernel, by decide +kernel⟩
theorem rounds_ok (Z : Txt K mg ca tk0) (D : Defs K mg) : ∃ fa fd, mg "_law_rounds" = some (.ref fa) ∧ PySem.W.keepIn K (.ref fa) = true ∧ L2.Binds K fd ["script", "most"] [] ∧ FnOk P w K mg base (L2N.CX P w) 3 fa fd ["script", "most"] (spRounds K) := by
  obtain ⟨fc, fdc, gc, FC⟩ := D.f__law_cell
  obtain ⟨fr, fdr, gr, FR⟩ := D.f__law_rounds
  have okC := ok_cell (P := P) (w := w) (mg := mg) (base := base) FC sc__law_cell Z.b_len fun E cdv A outer s H hr => pss_cell hr.units rfl rfl (.inl rfl) (.inl rfl) (by rfl) Z.b_len
  have bC := FC.binds (ps := ["script", "k"]) fun _ _ _ _ _ _ us hl => match us, hl with | [_, _], _ => rfl
  refine ⟨fr, fdr, gr, FR.kp, FR.binds (ps := ["script", "most"]) fun _ _ _ _ _ _ us hl => match us, hl with | [_, _], _ => rfl, ok_rounds FR sc__law_rounds fun E cdv A outer s H hr => ?_⟩
  exact pss_one (ps_ret (pe_lc (X := cxOf (L2N.CX P w) P w K mg base ["script", "most", "k"] "_law_rounds" (defScope s__law_rounds) fr cdv A outer s H E) rfl (sc__law_rounds).nd (pi_range1 (by rfl) Z.b_range (pa_cons (pe_callB (call_max2 rfl) (by rfl) Z.b_max boot_max' (pa_cons pe_int (pa_cons (pe_callB (call_min2 rfl) (by rfl) Z.b_min boot_min' (pa_cons (pv 1) (pa_cons (pe_callB call_len (by rfl) Z.b_len boot_len' (pa_cons (pv 0) pa_nil)) pa_nil))) pa_nil))) pa_nil)) (blkOk_by (N := ["script", "most", "k"]) (sc := defScope s__law_rounds) (own := [("k", 2)]) (by decide +kernel)) (fun _ _ _ _ _ => pg_name (i := 2) (sc__law_rounds).nd rfl (Or.inl rfl)) (fun _ _ _ _ _ => pts_nil) (fun _ _ _ _ _ => pe_lst (pa_cons (pe_call okC hr (by rfl) gc FC.kp bC .nil (L2N.passes_call takesN0 fun _ _ _ _ h => h) (pa_cons (pv 0) (pa_cons (pv 2) pa_nil))) (pa_cons pe_int pa_nil)))))
theorem sc__law_met : FnScope ["deed", "e"] ["deed"] (defScope s__law_met) := ⟨rfl, rfl, rfl, by decide +kernel, rfl, by decide +kernel, by decide +kernel⟩
theorem sc__law_alone : FnScope ["e", "own", "some", "at"] ["e", "own"] (defScope s__law_alone) := ⟨rfl, rfl, rfl, by decide +kernel, rfl, by decide +kernel, by decide +kernel⟩
theorem met_at (D : Defs K mg) : MetAt K mg := by
  obtain ⟨f, fd, g, F⟩ := D.f__law_met
  exact ⟨f, fd, s__law_met, g, F, F.binds (ps := ["deed"]) fun _ _ _ _ _ _ us hl => match us, hl with | [_], _ => rfl, sc__law_met, by rfl, by rfl, by rfl, _, _, _, _, _, _, _, _, _, _, _, rfl⟩
theorem d_alone (Z : Txt K mg ca tk0) {M : Addr} (ZX : ExcTop K mg ca M) (fa : Addr) (c : Cfg) (a : Addr) (k : Nat) (E : XK) (cdv : Value) (A : Around) (outer : List PySem.Env) (s : Shared) (H : Hp) (hp : Free c.W [0]) (A0 : ExIn (cxOf (L2N.CX P w) P w K mg base ["e", "own", "some", "at"] "_law_alone" (defScope s__law_alone) fa cdv A outer s H E) c ca k a) (hr : Room 0 (A.deeper (PyProof.Rows.envOfC "_law_alone" (defScope s__law_alone) s.heap.objs.size fa cdv))) :
    PSs (cxOf (L2N.CX P w) P w K mg base ["e", "own", "some", "at"] "_law_alone" (defScope s__law_alone) fa cdv A outer s H E) (defBody s__law_alone) (TSv K c (aloneS k)) := by
  have nd := (sc__law_alone).nd
  have hu : (A.deeper (PyProof.Rows.envOfC "_law_alone" (defScope s__law_alone) s.heap.objs.size fa cdv)).units + 64 < cLine := hr.units
  have hc : (cxOf (L2N.CX P w) P w K mg base ["e", "own", "some", "at"] "_law_alone" (defScope s__law_alone) fa cdv A outer s H E).calm = true := rfl
  exact (ss_cons (ss_asg tg_name (sv_mkl (sa_cons (sv_is 0 (by decide) ZX A0 (by rfl) (pv 0) (pe_glob (by rfl) (ZX.g 0 (by decide)) rfl)) (sa_cons (sv_is 1 (by decide) ZX A0 (by rfl) (pv 0) (pe_glob (by rfl) (ZX.g 1 (by decide)) rfl)) (sa_cons (sv_is 2 (by decide) ZX A0 (by rfl) (pv 0) (pe_glob (by rfl) (ZX.g 2 (by decide)) rfl)) sa_nil)))) (pg_name (i := 2) nd rfl (Or.inl rfl))) (ss_cons (ss_asg tg_name (sv_add (sv_var (i := 2)) (sv_mkl (sa_cons (sv_is 3 (by decide) ZX A0 (by rfl) (pv 0) (pe_glob (by rfl) (ZX.g 3 (by decide)) rfl)) (sa_cons (sv_is 4 (by decide) ZX A0 (by rfl) (pv 0) (pe_glob (by rfl) (ZX.g 4 (by decide)) rfl)) (sa_cons (sv_is 5 (by decide) ZX A0 (by rfl) (pv 0) (pe_glob (by rfl) (ZX.g 5 (by decide)) rfl)) sa_nil))))) (pg_name (i := 2) nd rfl (Or.inl rfl))) (ss_cons (ss_asg tg_name (sv_add (sv_var (i := 2)) (sv_mkl (sa_cons (sv_is 6 (by decide) ZX A0 (by rfl) (pv 0) (pe_glob (by rfl) (ZX.g 6 (by decide)) rfl)) (sa_cons (sv_is 7 (by decide) ZX A0 (by rfl) (pv 0) (pe_glob (by rfl) (ZX.g 7 (by decide)) rfl)) (sa_cons (sv_is 8 (by decide) ZX A0 (by rfl) (pv 0) (pe_glob (by rfl) (ZX.g 8 (by decide)) rfl)) sa_nil))))) (pg_name (i := 2) nd rfl (Or.inl rfl))) (ss_cons (ss_asg tg_name (sv_add (sv_var (i := 2)) (sv_mkl (sa_cons (sv_is 9 (by decide) ZX A0 (by rfl) (pv 0) (pe_glob (by rfl) (ZX.g 9 (by decide)) rfl)) (sa_cons (sv_is 10 (by decide) ZX A0 (by rfl) (pv 0) (pe_glob (by rfl) (ZX.g 10 (by decide)) rfl)) (sa_cons (sv_is 11 (by decide) ZX A0 (by rfl) (pv 0) (pe_glob (by rfl) (ZX.g 11 (by decide)) rfl)) sa_nil))))) (pg_name (i := 2) nd rfl (Or.inl rfl))) (ss_cons (ss_asg tg_name (sv_add (sv_var (i := 2)) (sv_mkl (sa_cons (sv_is 12 (by decide) ZX A0 (by rfl) (pv 0) (pe_glob (by rfl) (ZX.g 12 (by decide)) rfl)) sa_nil))) (pg_name (i := 2) nd rfl (Or.inl rfl))) (ss_one (ss_ret (sv_and (sv_isx (te := tNil) (cv := .ty "ValueError") ZX A0 (by rfl) (pv 0) (pe_bltn (by rfl) ZX.b4 boot_VE rfl) ty_only (ZX.kitV k A0.hk)) (sv_one (sv_eq hu (sv_var (i := 2)) (sv_lc hc nd (si_range1 (by rfl) Z.b_range (sa_cons sv_int sa_nil)) (blkOk_by (N := ["e", "own", "some", "at"]) (sc := defScope s__law_alone) (own := [("at", 3)]) (by decide +kernel)) to_name rfl (fun _ _ _ _ _ => (pg_name (i := 3) nd rfl (Or.inl rfl))) (fun _ _ _ _ _ => st_nil) (fun _ _ _ _ _ => (sv_eq hu (sv_var (i := 3)) (sv_var (i := 1)))))))))))))))
theorem alone_at (hJ : ∀ H H' : Hp, (∀ b o, H b = some o → H' b = some o ∨ isMut o) → J H → J H') (Z : Txt K mg ca tk0) {M : Addr} (ZX : ExcTop K mg ca M) (D : Defs K mg) : AloneAt P w K mg base J ca := by
  obtain ⟨f, fd, g, F⟩ := D.f__law_alone
  exact alone_ok hJ F sc__law_alone (F.binds (ps := ["e", "own"]) fun _ _ _ _ _ _ us hl => match us, hl with | [_, _], _ => rfl) g fun c a k E cdv A outer s H _ hp A0 hr => d_alone P w K mg base ca tk0 Z ZX f c a k E cdv A outer s H hp A0 hr
end
theorem sc_law : FnScope ["script", "dice", "more", "one", "wide", "made", "at", "e"] ["script"] (defScope s_law) := ⟨rfl, rfl, rfl, by decide +kernel, rfl, by decide +kernel, by decide +kernel⟩
theorem law_ok {P : Program} {w : World} {K : PySem.W.Frag} {mg : Str → Option Value} {base : Heap} {ca : Nat → Addr} {tk0 : Tok} (Z : Txt K mg ca tk0) (D : Defs K mg) {fa : Addr} {fd : FuncData} (F : Fun K "law" "law" s_law fa fd) {M c PT : Addr} (hca : ca = exCa K) (ZX : ExcTop K mg ca M) (TB : TabB base mg c PT) (hfc : fd.code = .ref c) (n : Nat) (good : Good (run T n) n_law_k21 b_law_k21) :
    FnOk P w K mg base (L2N.CX P w) (n + 7) fa fd ["script"] (spLaw K (Tabs [(PT, qL)])) := by
  obtain ⟨fr, fdr, gr, kr, br, okR⟩ := rounds_ok P w K mg base ca tk0 Z D
  refine ok_law (N := ["script", "dice", "more", "one", "wide", "made", "at", "e"]) (M := 4) (b := b_law_k21) (call := run T n) (J := Tabs [(PT, qL)]) (hJ := tabs_mono) (cl := fun k => .ref (ca k)) (T := [(PT, qL)]) F sc_law (by decide) (by decide) good (fun _ h => h) fun E cdv A outer s H hcd hr0 => ?_
  · have nd := (sc_law).nd
    have hrT : Room (n + 2 + 2) (cxOf (L2N.CX P w) P w K mg base ["script", "dice", "more", "one", "wide", "made", "at", "e"] "law" (defScope s_law) fa cdv A outer s H E).A := hr0.mono (by omega)
    have hr : Room (n + 1) (cxOf (L2N.CX P w) P w K mg base ["script", "dice", "more", "one", "wide", "made", "at", "e"] "law" (defScope s_law) fa cdv A outer s H E).A := hr0.mono (by omega)
    have hu : (cxOf (L2N.CX P w) P w K mg base ["script", "dice", "more", "one", "wide", "made", "at", "e"] "law" (defScope s_law) fa cdv A outer s H E).A.units + 64 < cLine := hr.units
    have hu1 : (cxOf (L2N.CX P w) P w K mg base ["script", "dice", "more", "one", "wide", "made", "at", "e"] "law" (defScope s_law) fa cdv A outer s H E).A.units + 1 < cLine := by omega
    have hc : (cxOf (L2N.CX P w) P w K mg base ["script", "dice", "more", "one", "wide", "made", "at", "e"] "law" (defScope s_law) fa cdv A outer s H E).calm = true := rfl
    have tk : L2N.Takes (cxOf (L2N.CX P w) P w K mg base ["script", "dice", "more", "one", "wide", "made", "at", "e"] "law" (defScope s_law) fa cdv A outer s H E) (fun cls d _ H => E cls d H) := L2N.takes_of rfl rfl rfl rfl
    have hx : Passes (L2N.CX P w) (cxOf (L2N.CX P w) P w K mg base ["script", "dice", "more", "one", "wide", "made", "at", "e"] "law" (defScope s_law) fa cdv A outer s H E) E := L2N.passes_call tk (fun _ _ _ _ h => h)
    have po : PassesOwn (model P w) (cxOf (L2N.CX P w) P w K mg base ["script", "dice", "more", "one", "wide", "made", "at", "e"] "law" (defScope s_law) fa cdv A outer s H E).A (cxOf (L2N.CX P w) P w K mg base ["script", "dice", "more", "one", "wide", "made", "at", "e"] "law" (defScope s_law) fa cdv A outer s H E).env (cxOf (L2N.CX P w) P w K mg base ["script", "dice", "more", "one", "wide", "made", "at", "e"] "law" (defScope s_law) fa cdv A outer s H E).xe := passes_of rfl
    have G := at_all P w K mg base (Tabs [(PT, qL)]) tabs_mono ca tk0 Z D n
    have TO := met_at K mg D
    obtain ⟨fA, fdA, gA, kA, bA, okA⟩ := (alone_at P w K mg base (Tabs [(PT, qL)]) ca tk0 tabs_mono Z ZX D).ex
    have hcode : (cxOf (L2N.CX P w) P w K mg base ["script", "dice", "more", "one", "wide", "made", "at", "e"] "law" (defScope s_law) fa cdv A outer s H E).env.code = .ref c := by
      have e : (cxOf (L2N.CX P w) P w K mg base ["script", "dice", "more", "one", "wide", "made", "at", "e"] "law" (defScope s_law) fa cdv A outer s H E).env.code = cdv := rfl
      rw [e, ← hcd, hfc]
    have eq0 : (cxOf (L2N.CX P w) P w K mg base ["script", "dice", "more", "one", "wide", "made", "at", "e"] "law" (defScope s_law) fa cdv A outer s H E).env.qual ++ ("<lambda>" : Str) = qL := rfl
    have hmT : (PT, (cxOf (L2N.CX P w) P w K mg base ["script", "dice", "more", "one", "wide", "made", "at", "e"] "law" (defScope s_law) fa cdv A outer s H E).env.qual ++ ("<lambda>" : Str)) ∈ [(PT, qL)] := by rw [eq0]; exact List.mem_cons_self
    have hut : ∀ q ∈ [(PT, qL)], q.1 = PT → q.2 = (cxOf (L2N.CX P w) P w K mg base ["script", "dice", "more", "one", "wide", "made", "at", "e"] "law" (defScope s_law) fa cdv A outer s H E).env.qual ++ ("<lambda>" : Str) := fun q hq _ => by rw [List.mem_singleton.mp hq, eq0]
    refine pss_cons (ps_for po hc (pi_list (pe_call okR (hr0.mono (by omega)) (by rfl) gr kr br .nil hx (pa_cons (pv 0) (pa_cons pe_int pa_nil)))) (pg_name (i := 1) nd rfl (Or.inl rfl)) (pss_any _ _ _ _ _ _ fun W hp hw => ?_)) (pss_one (ps_ret pe_bl))
    have hw := hw _ List.mem_cons_self
    exact (ss_cons (ss_parC3 (pg_tup hc (pgs_names (pg_name (i := 2) nd rfl (Or.inr rfl)) (pgs_names (pg_name (i := 3) nd rfl (Or.inr rfl)) (pgs_names (pg_name (i := 4) nd rfl (Or.inr rfl)) pgs_none)))) (saf_cons (sf_val (sv_add sv_int (sv_callIO (f := 18) (G 18) hr hx (by rfl) (pv 1) (sa_cons sv_int sa_nil)))) (saf_cons (sf_val (sv_mkt (sa_cons sv_strL (sa_cons sv_strL sa_nil)))) (saf_cons (sf_val (sv_mkt (sa_cons sv_strL sa_nil))) saf_nil)))) (ss_cons (ss_metN (i := 5) nd rfl (Or.inl rfl) hca ZX TO (fun _ => Iff.rfl) hw (fun _ => rfl) TB hcode hmT hut hrT (by rfl) (lamS_by (sc := defScope s_law) (by decide +kernel)) rfl (fun _ _ _ _ _ => rfl) (fun _ _ _ _ _ _ _ _ hp hr2 hx => have hr := hr2.mono (Nat.le_succ _); (sv_call (f := 33) (G 33) hr hx (by rfl) (sa_cons (sv_mkt (sa_cons (sv_mul sv_strL (sv_var (i := 2))) sa_nil)) sa_nil))) (pg_name (i := 5) nd rfl (Or.inl rfl))) (ss_cons (ss_metA (i := 5) (pv 5) hca ZX TO (fun _ => Iff.rfl) hw (fun _ => rfl) TB hcode hmT hut hrT (by rfl) (lamS_by (sc := defScope s_law) (by decide +kernel)) rfl (fun _ _ _ _ _ => rfl) (fun _ _ _ _ _ _ _ _ hp hr2 hx => have hr := hr2.mono (Nat.le_succ _); (sv_call (f := 44) (G 44) hr hx (by rfl) (sa_cons (sv_var (i := 3)) (sa_cons (sv_mul sv_strL (sv_var (i := 2))) sa_nil))))) (ss_cons (ss_metA (i := 5) (pv 5) hca ZX TO (fun _ => Iff.rfl) hw (fun _ => rfl) TB hcode hmT hut hrT (by rfl) (lamS_by (sc := defScope s_law) (by decide +kernel)) rfl (fun _ _ _ _ _ => rfl) (fun _ _ _ _ _ _ _ _ hp hr2 hx => have hr := hr2.mono (Nat.le_succ _); (sv_call (f := 97) (G 97) hr hx (by rfl) (sa_cons (sv_var (i := 3)) (sa_cons (sv_var (i := 2)) (sa_cons sv_int sa_nil)))))) (ss_cons (ss_metA (i := 5) (pv 5) hca ZX TO (fun _ => Iff.rfl) hw (fun _ => rfl) TB hcode hmT hut hrT (by rfl) (lamS_by (sc := defScope s_law) (by decide +kernel)) rfl (fun _ _ _ _ _ => rfl) (fun _ _ _ _ _ _ _ _ hp hr2 hx => have hr := hr2.mono (Nat.le_succ _); (sv_tmp (f0 := 113) (f := 114) Z.dk (G 113) (G 114) hr2 hx (by rfl) Z.g_Desk (sa_cons (sv_var (i := 3)) sa_nil) (sa_cons sv_int (sa_cons (sv_var (i := 2)) (sa_cons sv_int (sa_cons sv_int sa_nil)))) rfl rfl (by decide) (by decide) (by decide)))) (ss_cons (ss_metA (i := 5) (pv 5) hca ZX TO (fun _ => Iff.rfl) hw (fun _ => rfl) TB hcode hmT hut hrT (by rfl) (lamS_by (sc := defScope s_law) (by decide +kernel)) rfl (fun _ _ _ _ _ => rfl) (fun _ _ _ _ _ _ _ _ hp hr2 hx => have hr := hr2.mono (Nat.le_succ _); (sv_call (f := 98) (G 98) hr hx (by rfl) (sa_cons (sv_var (i := 3)) (sa_cons sv_int (sa_cons (sv_var (i := 2)) sa_nil)))))) (ss_cons (ss_metA (i := 5) (pv 5) hca ZX TO (fun _ => Iff.rfl) hw (fun _ => rfl) TB hcode hmT hut hrT (by rfl) (lamS_by (sc := defScope s_law) (by decide +kernel)) rfl (fun _ _ _ _ _ => rfl) (fun _ _ _ _ _ _ _ _ hp hr2 hx => have hr := hr2.mono (Nat.le_succ _); (sv_call (f := 65) (G 65) hr hx (by rfl) (sa_cons (sv_var (i := 3)) (sa_cons (sv_var (i := 2)) sa_nil))))) (ss_cons (ss_metA (i := 5) (pv 5) hca ZX TO (fun _ => Iff.rfl) hw (fun _ => rfl) TB hcode hmT hut hrT (by rfl) (lamS_by (sc := defScope s_law) (by decide +kernel)) rfl (fun _ _ _ _ _ => rfl) (fun _ _ _ _ _ _ _ _ hp hr2 hx => have hr := hr2.mono (Nat.le_succ _); (sv_call (f := 107) (G 107) hr hx (by rfl) (sa_cons (sv_mul sv_strL (sv_var (i := 2))) sa_nil)))) (ss_cons (ss_metA (i := 5) (pv 5) hca ZX TO (fun _ => Iff.rfl) hw (fun _ => rfl) TB hcode hmT hut hrT (by rfl) (lamS_by (sc := defScope s_law) (by decide +kernel)) rfl (fun _ _ _ _ _ => rfl) (fun _ _ _ _ _ _ _ _ hp hr2 hx => have hr := hr2.mono (Nat.le_succ _); (sv_call (f := 73) (G 73) hr hx (by rfl) (sa_cons (sv_var (i := 3)) (sa_cons sv_strL sa_nil))))) (ss_cons (ss_metA (i := 5) (pv 5) hca ZX TO (fun _ => Iff.rfl) hw (fun _ => rfl) TB hcode hmT hut hrT (by rfl) (lamS_by (sc := defScope s_law) (by decide +kernel)) rfl (fun _ _ _ _ _ => rfl) (fun _ _ _ _ _ _ _ _ hp hr2 hx => have hr := hr2.mono (Nat.le_succ _); (sv_call (f := 74) (G 74) hr hx (by rfl) (sa_cons (sv_mkt (sa_cons sv_strL sa_nil)) (sa_cons sv_strL sa_nil))))) (ss_cons (ss_metA (i := 5) (pv 5) hca ZX TO (fun _ => Iff.rfl) hw (fun _ => rfl) TB hcode hmT hut hrT (by rfl) (lamS_by (sc := defScope s_law) (by decide +kernel)) rfl (fun _ _ _ _ _ => rfl) (fun _ _ _ _ _ _ _ _ hp hr2 hx => have hr := hr2.mono (Nat.le_succ _); (sv_call (f := 74) (G 74) hr hx (by rfl) (sa_cons (sv_var (i := 3)) (sa_cons sv_strL sa_nil))))) (ss_cons (ss_metA (i := 5) (pv 5) hca ZX TO (fun _ => Iff.rfl) hw (fun _ => rfl) TB hcode hmT hut hrT (by rfl) (lamS_by (sc := defScope s_law) (by decide +kernel)) rfl (fun _ _ _ _ _ => rfl) (fun _ _ _ _ _ _ _ _ hp hr2 hx => have hr := hr2.mono (Nat.le_succ _); (sv_tmp (f0 := 113) (f := 114) Z.dk (G 113) (G 114) hr2 hx (by rfl) Z.g_Desk (sa_cons (sv_var (i := 4)) sa_nil) (sa_cons sv_int (sa_cons sv_int (sa_cons sv_int (sa_cons sv_int sa_nil)))) rfl rfl (by decide) (by decide) (by decide)))) (ss_cons (ss_metA (i := 5) (pv 5) hca ZX TO (fun _ => Iff.rfl) hw (fun _ => rfl) TB hcode hmT hut hrT (by rfl) (lamS_by (sc := defScope s_law) (by decide +kernel)) rfl (fun _ _ _ _ _ => rfl) (fun _ _ _ _ _ _ _ _ hp hr2 hx => have hr := hr2.mono (Nat.le_succ _); (sv_tmp (f0 := 113) (f := 114) Z.dk (G 113) (G 114) hr2 hx (by rfl) Z.g_Desk (sa_cons (sv_mkt (sa_cons sv_strL sa_nil)) sa_nil) (sa_cons sv_int (sa_cons sv_int (sa_cons sv_int (sa_cons sv_int sa_nil)))) rfl rfl (by decide) (by decide) (by decide)))) (ss_cons (ss_metA (i := 5) (pv 5) hca ZX TO (fun _ => Iff.rfl) hw (fun _ => rfl) TB hcode hmT hut hrT (by rfl) (lamS_by (sc := defScope s_law) (by decide +kernel)) rfl (fun _ _ _ _ _ => rfl) (fun _ _ _ _ _ _ _ _ hp hr2 hx => have hr := hr2.mono (Nat.le_succ _); (sv_tmp0 (f0 := 113) (f := 115) Z.dk (G 113) (G 115) hr2 hx (by rfl) Z.g_Desk (sa_cons (sv_var (i := 3)) sa_nil) rfl (by decide) (by decide)))) (ss_one (ss_if (sw_not (sw_val (sv_metAll (i := 5) (ja := 6) (je := 7) hca hc nd (by rfl) Z.b_all (by rfl) Z.b_enumerate (pv 5) rfl rfl (by decide) (blkOk_by (N := ["script", "dice", "more", "one", "wide", "made", "at", "e"]) (sc := defScope s_law) (own := [("at", 6), ("e", 7)]) (by decide +kernel)) (fun _ _ _ _ _ => (pg_tup hc (pgs_names (pg_name (i := 6) nd rfl (Or.inl rfl)) (pgs_names (pg_name (i := 7) nd rfl (Or.inl rfl)) pgs_none)))) (fun _ _ _ _ _ => pe_call okA (hr.mono (by omega)) (by rfl) gA kA bA .nil (L2N.passes_call takesN0 fun _ _ _ _ h => h) (pa_cons (pv 7) (pa_cons (pv 6) pa_nil)))))) (ss_one (ss_ret sv_bool)) ss_nil))))))))))))))))
def fn0 : List He.DefD := [⟨("_wall", none), "_wall", "_wall", defArgs s__wall, defBody s__wall, defScope s__wall, [], []⟩, ⟨("is_whole", none), "is_whole", "is_whole", defArgs s_is_whole, defBody s_is_whole, defScope s_is_whole, [], []⟩, ⟨("is_drawing", none), "is_drawing", "is_drawing", defArgs s_is_drawing, defBody s_is_drawing, defScope s_is_drawing, [], []⟩, ⟨("ends_in", none), "ends_in", "ends_in", defArgs s_ends_in, defBody s_ends_in, defScope s_ends_in, [], []⟩, ⟨("letter_at", none), "letter_at", "letter_at", defArgs s_letter_at, defBody s_letter_at, defScope s_letter_at, [], []⟩, ⟨("other_end", none), "other_end", "other_end", defArgs s_other_end, defBody s_other_end, defScope s_other_end, [], []⟩, ⟨("next_around", none), "next_around", "next_around", defArgs s_next_around, defBody s_next_around, defScope s_next_around, [], []⟩, ⟨("gone_on", none), "gone_on", "gone_on", defArgs s_gone_on, defBody s_gone_on, defScope s_gone_on, [], []⟩, ⟨("least_turn", none), "least_turn", "least_turn", defArgs s_least_turn, defBody s_least_turn, defScope s_least_turn, [], []⟩, ⟨("rounds", none), "rounds", "rounds", defArgs s_rounds, defBody s_rounds, defScope s_rounds, [], []⟩]
def fn1 : List He.DefD := [⟨("reached", none), "reached", "reached", defArgs s_reached, defBody s_reached, defScope s_reached, [], []⟩, ⟨("pairs_of", none), "pairs_of", "pairs_of", defArgs s_pairs_of, defBody s_pairs_of, defScope s_pairs_of, [], []⟩, ⟨("points_of", none), "points_of", "points_of", defArgs s_points_of, defBody s_points_of, defScope s_points_of, [], []⟩, ⟨("letters_of", none), "letters_of", "letters_of", defArgs s_letters_of, defBody s_letters_of, defScope s_letters_of, [], []⟩, ⟨("is_map", none), "is_map", "is_map", defArgs s_is_map, defBody s_is_map, defScope s_is_map, [], []⟩, ⟨("need_map", none), "need_map", "need_map", defArgs s_need_map, defBody s_need_map, defScope s_need_map, [], []⟩, ⟨("need_border", none), "need_border", "need_border", defArgs s_need_border, defBody s_need_border, defScope s_need_border, [], []⟩, ⟨("need_point", none), "need_point", "need_point", defArgs s_need_point, defBody s_need_point, defScope s_need_point, [], []⟩, ⟨("need_land", none), "need_land", "need_land", defArgs s_need_land, defBody s_need_land, defScope s_need_land, [], []⟩, ⟨("land_strings", none), "land_strings", "land_strings", defArgs s_land_strings, defBody s_land_strings, defScope s_land_strings, [], []⟩]
def fn2 : List He.DefD := [⟨("partner", none), "partner", "partner", defArgs s_partner, defBody s_partner, defScope s_partner, [], []⟩, ⟨("lands_of", none), "lands_of", "lands_of", defArgs s_lands_of, defBody s_lands_of, defScope s_lands_of, [], []⟩, ⟨("between", none), "between", "between", defArgs s_between, defBody s_between, defScope s_between, [], []⟩, ⟨("renamed", none), "renamed", "renamed", defArgs s_renamed, defBody s_renamed, defScope s_renamed, [], []⟩, ⟨("taken_away", none), "taken_away", "taken_away", defArgs s_taken_away, defBody s_taken_away, defScope s_taken_away, [], []⟩, ⟨("without", none), "without", "without", defArgs s_without, defBody s_without, defScope s_without, [], []⟩, ⟨("pulled", none), "pulled", "pulled", defArgs s_pulled, defBody s_pulled, defScope s_pulled, [], []⟩, ⟨("need_count", none), "need_count", "need_count", defArgs s_need_count, defBody s_need_count, defScope s_need_count, [], []⟩, ⟨("neighbours_before", none), "neighbours_before", "neighbours_before", defArgs s_neighbours_before, defBody s_neighbours_before, defScope s_neighbours_before, [], []⟩, ⟨("coloured", none), "coloured", "coloured", defArgs s_coloured, defBody s_coloured, defScope s_coloured, [], []⟩]
def fn3 : List He.DefD := [⟨("colouring", none), "colouring", "colouring", defArgs s_colouring, defBody s_colouring, defScope s_colouring, [], []⟩, ⟨("need_place", none), "need_place", "need_place", defArgs s_need_place, defBody s_need_place, defScope s_need_place, [], []⟩, ⟨("with_letter", none), "with_letter", "with_letter", defArgs s_with_letter, defBody s_with_letter, defScope s_with_letter, [], []⟩, ⟨("parse_map", none), "parse_map", "parse_map", defArgs s_parse_map, defBody s_parse_map, defScope s_parse_map, [], []⟩, ⟨("distance", none), "distance", "distance", defArgs s_distance, defBody s_distance, defScope s_distance, [], []⟩, ⟨("fewest_passed", none), "fewest_passed", "fewest_passed", defArgs s_fewest_passed, defBody s_fewest_passed, defScope s_fewest_passed, [], []⟩, ⟨("fewest_crossed", none), "fewest_crossed", "fewest_crossed", defArgs s_fewest_crossed, defBody s_fewest_crossed, defScope s_fewest_crossed, [], []⟩, ⟨("_law_cell", none), "_law_cell", "_law_cell", defArgs s__law_cell, defBody s__law_cell, defScope s__law_cell, [], []⟩, ⟨("_law_drawn", none), "_law_drawn", "_law_drawn", defArgs s__law_drawn, defBody s__law_drawn, defScope s__law_drawn, [], []⟩, ⟨("_law_roll", none), "_law_roll", "_law_roll", defArgs s__law_roll, defBody s__law_roll, defScope s__law_roll, [], []⟩]
def fn4 : List He.DefD := [⟨("_law_rounds", none), "_law_rounds", "_law_rounds", defArgs s__law_rounds, defBody s__law_rounds, defScope s__law_rounds, [], []⟩, ⟨("_law_met", none), "_law_met", "_law_met", defArgs s__law_met, defBody s__law_met, defScope s__law_met, [], []⟩, ⟨("_law_alone", none), "_law_alone", "_law_alone", defArgs s__law_alone, defBody s__law_alone, defScope s__law_alone, [], []⟩, ⟨("law", none), "law", "law", defArgs s_law, defBody s_law, defScope s_law, [], []⟩, ⟨("Desk", some "__init__"), "__init__", "Desk.__init__", defArgs s_m__init__, defBody s_m__init__, defScope s_m__init__, [], []⟩, ⟨("Desk", some "draw"), "draw", "Desk.draw", defArgs s_mdraw, defBody s_mdraw, defScope s_mdraw, [], []⟩, ⟨("Desk", some "redo"), "redo", "Desk.redo", defArgs s_mredo, defBody s_mredo, defScope s_mredo, [], []⟩]
def fn : List He.DefD := fn0 ++ fn1 ++ fn2 ++ fn3 ++ fn4
def fa0 : List He.Fa := [.glo "MapError", .glo "InvalidMap", .glo "InvalidBorder", .glo "InvalidPoint", .glo "InvalidPlace", .glo "InvalidLand", .glo "InvalidCount", .glo "InvalidText", .glo "Bridge", .glo "Loop"]
def fa1 : List He.Fa := [.glo "LastBorder", .glo "TooLarge", .glo "OtherLand", .glo "NothingToUndo", .glo "_wall", .glo "is_whole", .glo "is_drawing", .glo "ends_in", .glo "letter_at", .glo "other_end"]
def fa2 : List He.Fa := [.glo "next_around", .glo "gone_on", .glo "least_turn", .glo "rounds", .glo "reached", .glo "pairs_of", .glo "points_of", .glo "letters_of", .glo "is_map", .glo "need_map"]
def fa3 : List He.Fa := [.glo "need_border", .glo "need_point", .glo "need_land", .glo "land_strings", .glo "partner", .glo "lands_of", .glo "between", .glo "renamed", .glo "taken_away", .glo "without"]
def fa4 : List He.Fa := [.glo "pulled", .glo "need_count", .glo "neighbours_before", .glo "coloured", .glo "colouring", .glo "need_place", .glo "with_letter", .glo "parse_map", .glo "distance", .glo "fewest_passed"]
def fa5 : List He.Fa := [.glo "fewest_crossed", .glo "_law_cell", .glo "_law_drawn", .glo "_law_roll", .glo "_law_rounds", .glo "_law_met", .glo "_law_alone", .glo "law", .str "NAMES" "abcdefgh", .free "ValueError"]
def fa6 : List He.Fa := [.free "all", .free "any", .free "bool", .free "enumerate", .free "int", .free "isinstance", .free "len", .free "max", .free "min", .free "range"]
def fa7 : List He.Fa := [.free "set", .free "sorted", .free "str", .free "sum", .free "tuple", .exc "Bridge", .exc "InvalidBorder", .exc "InvalidCount", .exc "InvalidLand", .exc "InvalidMap"]
def fa8 : List He.Fa := [.exc "InvalidPlace", .exc "InvalidPoint", .exc "InvalidText", .exc "LastBorder", .exc "Loop", .exc "NothingToUndo", .exc "OtherLand", .exc "TooLarge", .glo "Desk", .cls "Desk"]
def fa9 : List He.Fa := [.noat "Desk" "now", .noat "Desk" "earlier", .noat "Desk" "undone", .mkr "Desk", .meth "Desk" "draw", .meth "Desk" "redo"]
def fa : List He.Fa := fa0 ++ fa1 ++ fa2 ++ fa3 ++ fa4 ++ fa5 ++ fa6 ++ fa7 ++ fa8 ++ fa9
abbrev R : PySem.W.OpenRow := PySem.W.OpenLaw.row PySem.Challenge.rw_ballmaps_k21_errors_apart
abbrev hk : PySem.W.Hook := He.hookX 5 fa fn [] [("law", none)] exB
def ob (s : PySem.W.SharedT) : He.AlX := He.obsX 5 fa fn [] [("law", none)] exB (HandSHeadRun.getT s)
theorem ob_eq (s : PySem.W.SharedT) : ob s = hk.obs s.abs := He.obsX_eq (HandSHeadRun.getT_eq s)
def loose0 : List PySem.Str := ["_wall", "MapError", "InvalidMap", "InvalidBorder", "InvalidPoint", "InvalidPlace", "InvalidLand", "InvalidCount", "InvalidText", "Bridge", "Loop", "LastBorder", "TooLarge", "OtherLand", "NothingToUndo", "NAMES", "is_whole", "is_drawing", "ends_in", "letter_at"]
def loose1 : List PySem.Str := ["other_end", "next_around", "gone_on", "least_turn", "rounds", "reached", "pairs_of", "points_of", "letters_of", "is_map", "need_map", "need_border", "need_point", "need_land", "land_strings", "partner", "lands_of", "between", "renamed", "taken_away"]
def loose2 : List PySem.Str := ["without", "pulled", "need_count", "neighbours_before", "coloured", "colouring", "need_place", "with_letter", "Desk", "parse_map", "distance", "fewest_passed", "fewest_crossed", "_law_cell", "_law_drawn", "_law_roll", "_law_rounds", "_law_met", "_law_alone"]
def loose : List PySem.Str := loose0 ++ loose1 ++ loose2
set_option maxHeartbeats 0 in
theorem run_head (w : World) : HandSHeadRun.RunEq R (PySem.W.view R.prog [67]) hk ob 8000 loose w := by
  intro os
  kernel_rfl
theorem txt_of {w : World} {K : PySem.W.Frag} {h : Heap} {mg : Str → Option Value} (X : K.In h) (G : h.Ns mainGlobals mg) (c : He.SaysD fa fn K) : ∃ tk0, Txt K mg (caK K) tk0 ∧ Defs K mg := by
  obtain ⟨tk0, hN⟩ := He.str_ok X G (c.fact 58 (f := .str "NAMES" "abcdefgh") rfl)
  exact ⟨tk0, ⟨(He.free_ok X G (c.fact 59 (f := .free "ValueError") rfl)), (He.free_ok X G (c.fact 60 (f := .free "all") rfl)), (He.free_ok X G (c.fact 61 (f := .free "any") rfl)), (He.free_ok X G (c.fact 62 (f := .free "bool") rfl)), (He.free_ok X G (c.fact 63 (f := .free "enumerate") rfl)), (He.free_ok X G (c.fact 64 (f := .free "int") rfl)), (He.free_ok X G (c.fact 65 (f := .free "isinstance") rfl)), (He.free_ok X G (c.fact 66 (f := .free "len") rfl)), (He.free_ok X G (c.fact 67 (f := .free "max") rfl)), (He.free_ok X G (c.fact 68 (f := .free "min") rfl)), (He.free_ok X G (c.fact 69 (f := .free "range") rfl)), (He.free_ok X G (c.fact 70 (f := .free "set") rfl)), (He.free_ok X G (c.fact 71 (f := .free "sorted") rfl)), (He.free_ok X G (c.fact 72 (f := .free "str") rfl)), (He.free_ok X G (c.fact 73 (f := .free "sum") rfl)), (He.free_ok X G (c.fact 74 (f := .free "tuple") rfl)), hN, (excAt_of (C := caK K 7) rfl (He.glo_ok X G (c.fact 8 (f := .glo "Bridge") rfl)) (c.fact 75 (f := .exc "Bridge") rfl)), (excAt_of (C := caK K 1) rfl (He.glo_ok X G (c.fact 2 (f := .glo "InvalidBorder") rfl)) (c.fact 76 (f := .exc "InvalidBorder") rfl)), (excAt_of (C := caK K 5) rfl (He.glo_ok X G (c.fact 6 (f := .glo "InvalidCount") rfl)) (c.fact 77 (f := .exc "InvalidCount") rfl)), (excAt_of (C := caK K 4) rfl (He.glo_ok X G (c.fact 5 (f := .glo "InvalidLand") rfl)) (c.fact 78 (f := .exc "InvalidLand") rfl)), (excAt_of (C := caK K 0) rfl (He.glo_ok X G (c.fact 1 (f := .glo "InvalidMap") rfl)) (c.fact 79 (f := .exc "InvalidMap") rfl)), (excAt_of (C := caK K 3) rfl (He.glo_ok X G (c.fact 4 (f := .glo "InvalidPlace") rfl)) (c.fact 80 (f := .exc "InvalidPlace") rfl)), (excAt_of (C := caK K 2) rfl (He.glo_ok X G (c.fact 3 (f := .glo "InvalidPoint") rfl)) (c.fact 81 (f := .exc "InvalidPoint") rfl)), (excAt_of (C := caK K 6) rfl (He.glo_ok X G (c.fact 7 (f := .glo "InvalidText") rfl)) (c.fact 82 (f := .exc "InvalidText") rfl)), (excAt_of (C := caK K 9) rfl (He.glo_ok X G (c.fact 10 (f := .glo "LastBorder") rfl)) (c.fact 83 (f := .exc "LastBorder") rfl)), (excAt_of (C := caK K 8) rfl (He.glo_ok X G (c.fact 9 (f := .glo "Loop") rfl)) (c.fact 84 (f := .exc "Loop") rfl)), (excAt_of (C := caK K 12) rfl (He.glo_ok X G (c.fact 13 (f := .glo "NothingToUndo") rfl)) (c.fact 85 (f := .exc "NothingToUndo") rfl)), (excAt_of (C := caK K 11) rfl (He.glo_ok X G (c.fact 12 (f := .glo "OtherLand") rfl)) (c.fact 86 (f := .exc "OtherLand") rfl)), (excAt_of (C := caK K 10) rfl (He.glo_ok X G (c.fact 11 (f := .glo "TooLarge") rfl)) (c.fact 87 (f := .exc "TooLarge") rfl)), ⟨(He.cls_ok (c.fact 89 (f := .cls "Desk") rfl)), (He.noat_ok (c.fact 90 (f := .noat "Desk" "now") rfl)), (He.noat_ok (c.fact 91 (f := .noat "Desk" "earlier") rfl)), (He.noat_ok (c.fact 92 (f := .noat "Desk" "undone") rfl))⟩, (He.glo_ok X G (c.fact 88 (f := .glo "Desk") rfl))⟩, ⟨⟨_, _, (He.glo_ok X G (c.fact 14 (f := .glo "_wall") rfl)), fun_of (st := s__wall) (c.def_ 0 (d := ⟨("_wall", none), "_wall", "_wall", defArgs s__wall, defBody s__wall, defScope s__wall, [], []⟩) rfl).choose_spec⟩, ⟨_, _, (He.glo_ok X G (c.fact 15 (f := .glo "is_whole") rfl)), fun_of (st := s_is_whole) (c.def_ 1 (d := ⟨("is_whole", none), "is_whole", "is_whole", defArgs s_is_whole, defBody s_is_whole, defScope s_is_whole, [], []⟩) rfl).choose_spec⟩, ⟨_, _, (He.glo_ok X G (c.fact 16 (f := .glo "is_drawing") rfl)), fun_of (st := s_is_drawing) (c.def_ 2 (d := ⟨("is_drawing", none), "is_drawing", "is_drawing", defArgs s_is_drawing, defBody s_is_drawing, defScope s_is_drawing, [], []⟩) rfl).choose_spec⟩, ⟨_, _, (He.glo_ok X G (c.fact 17 (f := .glo "ends_in") rfl)), fun_of (st := s_ends_in) (c.def_ 3 (d := ⟨("ends_in", none), "ends_in", "ends_in", defArgs s_ends_in, defBody s_ends_in, defScope s_ends_in, [], []⟩) rfl).choose_spec⟩, ⟨_, _, (He.glo_ok X G (c.fact 18 (f := .glo "letter_at") rfl)), fun_of (st := s_letter_at) (c.def_ 4 (d := ⟨("letter_at", none), "letter_at", "letter_at", defArgs s_letter_at, defBody s_letter_at, defScope s_letter_at, [], []⟩) rfl).choose_spec⟩, ⟨_, _, (He.glo_ok X G (c.fact 19 (f := .glo "other_end") rfl)), fun_of (st := s_other_end) (c.def_ 5 (d := ⟨("other_end", none), "other_end", "other_end", defArgs s_other_end, defBody s_other_end, defScope s_other_end, [], []⟩) rfl).choose_spec⟩, ⟨_, _, (He.glo_ok X G (c.fact 20 (f := .glo "next_around") rfl)), fun_of (st := s_next_around) (c.def_ 6 (d := ⟨("next_around", none), "next_around", "next_around", defArgs s_next_around, defBody s_next_around, defScope s_next_around, [], []⟩) rfl).choose_spec⟩, ⟨_, _, (He.glo_ok X G (c.fact 21 (f := .glo "gone_on") rfl)), fun_of (st := s_gone_on) (c.def_ 7 (d := ⟨("gone_on", none), "gone_on", "gone_on", defArgs s_gone_on, defBody s_gone_on, defScope s_gone_on, [], []⟩) rfl).choose_spec⟩, ⟨_, _, (He.glo_ok X G (c.fact 22 (f := .glo "least_turn") rfl)), fun_of (st := s_least_turn) (c.def_ 8 (d := ⟨("least_turn", none), "least_turn", "least_turn", defArgs s_least_turn, defBody s_least_turn, defScope s_least_turn, [], []⟩) rfl).choose_spec⟩, ⟨_, _, (He.glo_ok X G (c.fact 23 (f := .glo "rounds") rfl)), fun_of (st := s_rounds) (c.def_ 9 (d := ⟨("rounds", none), "rounds", "rounds", defArgs s_rounds, defBody s_rounds, defScope s_rounds, [], []⟩) rfl).choose_spec⟩, ⟨_, _, (He.glo_ok X G (c.fact 24 (f := .glo "reached") rfl)), fun_of (st := s_reached) (c.def_ 10 (d := ⟨("reached", none), "reached", "reached", defArgs s_reached, defBody s_reached, defScope s_reached, [], []⟩) rfl).choose_spec⟩, ⟨_, _, (He.glo_ok X G (c.fact 25 (f := .glo "pairs_of") rfl)), fun_of (st := s_pairs_of) (c.def_ 11 (d := ⟨("pairs_of", none), "pairs_of", "pairs_of", defArgs s_pairs_of, defBody s_pairs_of, defScope s_pairs_of, [], []⟩) rfl).choose_spec⟩, ⟨_, _, (He.glo_ok X G (c.fact 26 (f := .glo "points_of") rfl)), fun_of (st := s_points_of) (c.def_ 12 (d := ⟨("points_of", none), "points_of", "points_of", defArgs s_points_of, defBody s_points_of, defScope s_points_of, [], []⟩) rfl).choose_spec⟩, ⟨_, _, (He.glo_ok X G (c.fact 27 (f := .glo "letters_of") rfl)), fun_of (st := s_letters_of) (c.def_ 13 (d := ⟨("letters_of", none), "letters_of", "letters_of", defArgs s_letters_of, defBody s_letters_of, defScope s_letters_of, [], []⟩) rfl).choose_spec⟩, ⟨_, _, (He.glo_ok X G (c.fact 28 (f := .glo "is_map") rfl)), fun_of (st := s_is_map) (c.def_ 14 (d := ⟨("is_map", none), "is_map", "is_map", defArgs s_is_map, defBody s_is_map, defScope s_is_map, [], []⟩) rfl).choose_spec⟩, ⟨_, _, (He.glo_ok X G (c.fact 29 (f := .glo "need_map") rfl)), fun_of (st := s_need_map) (c.def_ 15 (d := ⟨("need_map", none), "need_map", "need_map", defArgs s_need_map, defBody s_need_map, defScope s_need_map, [], []⟩) rfl).choose_spec⟩, ⟨_, _, (He.glo_ok X G (c.fact 30 (f := .glo "need_border") rfl)), fun_of (st := s_need_border) (c.def_ 16 (d := ⟨("need_border", none), "need_border", "need_border", defArgs s_need_border, defBody s_need_border, defScope s_need_border, [], []⟩) rfl).choose_spec⟩, ⟨_, _, (He.glo_ok X G (c.fact 31 (f := .glo "need_point") rfl)), fun_of (st := s_need_point) (c.def_ 17 (d := ⟨("need_point", none), "need_point", "need_point", defArgs s_need_point, defBody s_need_point, defScope s_need_point, [], []⟩) rfl).choose_spec⟩, ⟨_, _, (He.glo_ok X G (c.fact 32 (f := .glo "need_land") rfl)), fun_of (st := s_need_land) (c.def_ 18 (d := ⟨("need_land", none), "need_land", "need_land", defArgs s_need_land, defBody s_need_land, defScope s_need_land, [], []⟩) rfl).choose_spec⟩, ⟨_, _, (He.glo_ok X G (c.fact 33 (f := .glo "land_strings") rfl)), fun_of (st := s_land_strings) (c.def_ 19 (d := ⟨("land_strings", none), "land_strings", "land_strings", defArgs s_land_strings, defBody s_land_strings, defScope s_land_strings, [], []⟩) rfl).choose_spec⟩, ⟨_, _, (He.glo_ok X G (c.fact 34 (f := .glo "partner") rfl)), fun_of (st := s_partner) (c.def_ 20 (d := ⟨("partner", none), "partner", "partner", defArgs s_partner, defBody s_partner, defScope s_partner, [], []⟩) rfl).choose_spec⟩, ⟨_, _, (He.glo_ok X G (c.fact 35 (f := .glo "lands_of") rfl)), fun_of (st := s_lands_of) (c.def_ 21 (d := ⟨("lands_of", none), "lands_of", "lands_of", defArgs s_lands_of, defBody s_lands_of, defScope s_lands_of, [], []⟩) rfl).choose_spec⟩, ⟨_, _, (He.glo_ok X G (c.fact 36 (f := .glo "between") rfl)), fun_of (st := s_between) (c.def_ 22 (d := ⟨("between", none), "between", "between", defArgs s_between, defBody s_between, defScope s_between, [], []⟩) rfl).choose_spec⟩, ⟨_, _, (He.glo_ok X G (c.fact 37 (f := .glo "renamed") rfl)), fun_of (st := s_renamed) (c.def_ 23 (d := ⟨("renamed", none), "renamed", "renamed", defArgs s_renamed, defBody s_renamed, defScope s_renamed, [], []⟩) rfl).choose_spec⟩, ⟨_, _, (He.glo_ok X G (c.fact 38 (f := .glo "taken_away") rfl)), fun_of (st := s_taken_away) (c.def_ 24 (d := ⟨("taken_away", none), "taken_away", "taken_away", defArgs s_taken_away, defBody s_taken_away, defScope s_taken_away, [], []⟩) rfl).choose_spec⟩, ⟨_, _, (He.glo_ok X G (c.fact 39 (f := .glo "without") rfl)), fun_of (st := s_without) (c.def_ 25 (d := ⟨("without", none), "without", "without", defArgs s_without, defBody s_without, defScope s_without, [], []⟩) rfl).choose_spec⟩, ⟨_, _, (He.glo_ok X G (c.fact 40 (f := .glo "pulled") rfl)), fun_of (st := s_pulled) (c.def_ 26 (d := ⟨("pulled", none), "pulled", "pulled", defArgs s_pulled, defBody s_pulled, defScope s_pulled, [], []⟩) rfl).choose_spec⟩, ⟨_, _, (He.glo_ok X G (c.fact 41 (f := .glo "need_count") rfl)), fun_of (st := s_need_count) (c.def_ 27 (d := ⟨("need_count", none), "need_count", "need_count", defArgs s_need_count, defBody s_need_count, defScope s_need_count, [], []⟩) rfl).choose_spec⟩, ⟨_, _, (He.glo_ok X G (c.fact 42 (f := .glo "neighbours_before") rfl)), fun_of (st := s_neighbours_before) (c.def_ 28 (d := ⟨("neighbours_before", none), "neighbours_before", "neighbours_before", defArgs s_neighbours_before, defBody s_neighbours_before, defScope s_neighbours_before, [], []⟩) rfl).choose_spec⟩, ⟨_, _, (He.glo_ok X G (c.fact 43 (f := .glo "coloured") rfl)), fun_of (st := s_coloured) (c.def_ 29 (d := ⟨("coloured", none), "coloured", "coloured", defArgs s_coloured, defBody s_coloured, defScope s_coloured, [], []⟩) rfl).choose_spec⟩, ⟨_, _, (He.glo_ok X G (c.fact 44 (f := .glo "colouring") rfl)), fun_of (st := s_colouring) (c.def_ 30 (d := ⟨("colouring", none), "colouring", "colouring", defArgs s_colouring, defBody s_colouring, defScope s_colouring, [], []⟩) rfl).choose_spec⟩, ⟨_, _, (He.glo_ok X G (c.fact 45 (f := .glo "need_place") rfl)), fun_of (st := s_need_place) (c.def_ 31 (d := ⟨("need_place", none), "need_place", "need_place", defArgs s_need_place, defBody s_need_place, defScope s_need_place, [], []⟩) rfl).choose_spec⟩, ⟨_, _, (He.glo_ok X G (c.fact 46 (f := .glo "with_letter") rfl)), fun_of (st := s_with_letter) (c.def_ 32 (d := ⟨("with_letter", none), "with_letter", "with_letter", defArgs s_with_letter, defBody s_with_letter, defScope s_with_letter, [], []⟩) rfl).choose_spec⟩, ⟨_, _, (He.glo_ok X G (c.fact 47 (f := .glo "parse_map") rfl)), fun_of (st := s_parse_map) (c.def_ 33 (d := ⟨("parse_map", none), "parse_map", "parse_map", defArgs s_parse_map, defBody s_parse_map, defScope s_parse_map, [], []⟩) rfl).choose_spec⟩, ⟨_, _, (He.glo_ok X G (c.fact 48 (f := .glo "distance") rfl)), fun_of (st := s_distance) (c.def_ 34 (d := ⟨("distance", none), "distance", "distance", defArgs s_distance, defBody s_distance, defScope s_distance, [], []⟩) rfl).choose_spec⟩, ⟨_, _, (He.glo_ok X G (c.fact 49 (f := .glo "fewest_passed") rfl)), fun_of (st := s_fewest_passed) (c.def_ 35 (d := ⟨("fewest_passed", none), "fewest_passed", "fewest_passed", defArgs s_fewest_passed, defBody s_fewest_passed, defScope s_fewest_passed, [], []⟩) rfl).choose_spec⟩, ⟨_, _, (He.glo_ok X G (c.fact 50 (f := .glo "fewest_crossed") rfl)), fun_of (st := s_fewest_crossed) (c.def_ 36 (d := ⟨("fewest_crossed", none), "fewest_crossed", "fewest_crossed", defArgs s_fewest_crossed, defBody s_fewest_crossed, defScope s_fewest_crossed, [], []⟩) rfl).choose_spec⟩, ⟨_, _, (He.glo_ok X G (c.fact 51 (f := .glo "_law_cell") rfl)), fun_of (st := s__law_cell) (c.def_ 37 (d := ⟨("_law_cell", none), "_law_cell", "_law_cell", defArgs s__law_cell, defBody s__law_cell, defScope s__law_cell, [], []⟩) rfl).choose_spec⟩, ⟨_, _, (He.glo_ok X G (c.fact 52 (f := .glo "_law_drawn") rfl)), fun_of (st := s__law_drawn) (c.def_ 38 (d := ⟨("_law_drawn", none), "_law_drawn", "_law_drawn", defArgs s__law_drawn, defBody s__law_drawn, defScope s__law_drawn, [], []⟩) rfl).choose_spec⟩, ⟨_, _, (He.glo_ok X G (c.fact 53 (f := .glo "_law_roll") rfl)), fun_of (st := s__law_roll) (c.def_ 39 (d := ⟨("_law_roll", none), "_law_roll", "_law_roll", defArgs s__law_roll, defBody s__law_roll, defScope s__law_roll, [], []⟩) rfl).choose_spec⟩, ⟨_, _, (He.glo_ok X G (c.fact 54 (f := .glo "_law_rounds") rfl)), fun_of (st := s__law_rounds) (c.def_ 40 (d := ⟨("_law_rounds", none), "_law_rounds", "_law_rounds", defArgs s__law_rounds, defBody s__law_rounds, defScope s__law_rounds, [], []⟩) rfl).choose_spec⟩, ⟨_, _, (He.glo_ok X G (c.fact 55 (f := .glo "_law_met") rfl)), fun_of (st := s__law_met) (c.def_ 41 (d := ⟨("_law_met", none), "_law_met", "_law_met", defArgs s__law_met, defBody s__law_met, defScope s__law_met, [], []⟩) rfl).choose_spec⟩, ⟨_, _, (He.glo_ok X G (c.fact 56 (f := .glo "_law_alone") rfl)), fun_of (st := s__law_alone) (c.def_ 42 (d := ⟨("_law_alone", none), "_law_alone", "_law_alone", defArgs s__law_alone, defBody s__law_alone, defScope s__law_alone, [], []⟩) rfl).choose_spec⟩, ⟨_, _, (He.mkr_ok (c.fact 93 (f := .mkr "Desk") rfl)), fun_of (st := s_m__init__) (c.def_ 44 (d := ⟨("Desk", some "__init__"), "__init__", "Desk.__init__", defArgs s_m__init__, defBody s_m__init__, defScope s_m__init__, [], []⟩) rfl).choose_spec⟩, ⟨_, _, (He.meth_ok (c.fact 94 (f := .meth "Desk" "draw") rfl)), fun_of (st := s_mdraw) (c.def_ 45 (d := ⟨("Desk", some "draw"), "draw", "Desk.draw", defArgs s_mdraw, defBody s_mdraw, defScope s_mdraw, [], []⟩) rfl).choose_spec⟩, ⟨_, _, (He.meth_ok (c.fact 95 (f := .meth "Desk" "redo") rfl)), fun_of (st := s_mredo) (c.def_ 46 (d := ⟨("Desk", some "redo"), "redo", "Desk.redo", defArgs s_mredo, defBody s_mredo, defScope s_mredo, [], []⟩) rfl).choose_spec⟩⟩⟩
theorem ex_of {K : PySem.W.Frag} {h : Heap} {mg : Str → Option Value} (X : K.In h) (G : h.Ns mainGlobals mg) (c : He.SaysD fa fn K) (e : exB K = true) : ExcTop K mg (caK K) (He.ga K "MapError") := by
  refine exB_ok e (fun j hj => ?_) (He.glo_ok X G (c.fact 0 (f := .glo "MapError") rfl)) (He.free_ok X G (c.fact 65 (f := .free "isinstance") rfl)) (He.free_ok X G (c.fact 73 (f := .free "sum") rfl)) (He.free_ok X G (c.fact 64 (f := .free "int") rfl)) (He.free_ok X G (c.fact 59 (f := .free "ValueError") rfl))
  match j, hj with
  | 0, _ => exact (He.glo_ok X G (c.fact 1 (f := .glo "InvalidMap") rfl))
  | 1, _ => exact (He.glo_ok X G (c.fact 2 (f := .glo "InvalidBorder") rfl))
  | 2, _ => exact (He.glo_ok X G (c.fact 3 (f := .glo "InvalidPoint") rfl))
  | 3, _ => exact (He.glo_ok X G (c.fact 4 (f := .glo "InvalidPlace") rfl))
  | 4, _ => exact (He.glo_ok X G (c.fact 5 (f := .glo "InvalidLand") rfl))
  | 5, _ => exact (He.glo_ok X G (c.fact 6 (f := .glo "InvalidCount") rfl))
  | 6, _ => exact (He.glo_ok X G (c.fact 7 (f := .glo "InvalidText") rfl))
  | 7, _ => exact (He.glo_ok X G (c.fact 8 (f := .glo "Bridge") rfl))
  | 8, _ => exact (He.glo_ok X G (c.fact 9 (f := .glo "Loop") rfl))
  | 9, _ => exact (He.glo_ok X G (c.fact 10 (f := .glo "LastBorder") rfl))
  | 10, _ => exact (He.glo_ok X G (c.fact 11 (f := .glo "TooLarge") rfl))
  | 11, _ => exact (He.glo_ok X G (c.fact 12 (f := .glo "OtherLand") rfl))
  | 12, _ => exact (He.glo_ok X G (c.fact 13 (f := .glo "NothingToUndo") rfl))
theorem law_at (good : Good (run T 20) n_law_k21 b_law_k21) {w : World} {K : PySem.W.Frag} {h : Heap} {mg : Str → Option Value} {fa0 : Addr} (X : K.In h) (G : h.Ns mainGlobals mg) (hfa : mg ("law" : Str) = some (.ref fa0)) (sx : He.SaysX fa fn [] [("law", none)] exB w h K) :
    LawAtS PySem.Challenge.rw_ballmaps_k21_errors_apart w K (L2N.CX PySem.Challenge.rw_ballmaps_k21_errors_apart.prog w) 27 63 "script" mg fa0 h := by
  have c : He.SaysD fa fn K := sx.t.d
  obtain ⟨tk0, Z, D⟩ := txt_of (w := w) X G c
  obtain ⟨fd, F0⟩ := c.def_ 43 (d := ⟨("law", none), "law", "law", defArgs s_law, defBody s_law, defScope s_law, [], []⟩) rfl
  have F : Fun K "law" "law" s_law _ _ := fun_of (st := s_law) F0
  have e := hfa.symm.trans (He.glo_ok X G (c.fact 57 (f := .glo "law") rfl))
  cases e
  have b := FunD.bindsA (ps := ["script"]) F0 fun _ _ _ _ _ _ us hl => match us, hl with | [_], _ => rfl
  have ZX := ex_of X G c sx.more
  have e1 : He.fAd K ("law", none) = He.ga K "law" := rfl
  obtain ⟨oc, od, kV, doc, pm, an, cdv, ct, osl, efd, lk, hcd⟩ := F.ex
  obtain ⟨cc, ecc⟩ := He.codeIn_ref hcd
  have ecode : He.codeOf K ("law", none) = cc := He.codeOf_eq lk (by rw [efd]; exact ecc)
  refine ⟨fd, [He.cT K ("law", none)], spLaw K (Tabs [((He.cT K ("law", none)).2, qL)]), fun q hq => ?_, fun q hq => ?_, fun q hq => ?_, fun s u => ?_, fun H a nz hl _ hT hS => ?_, fun base hKb hNb hTB => ?_⟩
  · rw [List.mem_singleton.mp hq]; exact sx.empty _ List.mem_cons_self
  · rw [List.mem_singleton.mp hq]; exact sx.out _ List.mem_cons_self
  · rw [List.mem_singleton.mp hq]; exact PySem.W.codeHd_of_K X (sx.hd _ List.mem_cons_self)
  · exact b s [u] rfl
  · exact ⟨a, nz, rfl, hS, hl, fun q hq => by rw [List.mem_singleton.mp hq]; exact TabS.nil (hT _ List.mem_cons_self), fun _ => rfl⟩
  · exact law_ok Z D F caK_ex ZX (hTB _ List.mem_cons_self) (by rw [efd]; show cdv = _; rw [ecc]; show _ = Value.ref (He.codeOf K ("law", none)); rw [ecode]) 20 good
set_option maxHeartbeats 0 in
open PySem.W PySem.Calls PyProof.Rows in
theorem holds_of (good : Good (run T 20) n_law_k21 b_law_k21) : PySem.Challenge.rw_ballmaps_k21_errors_apart.Holds := by
  w_on; o_law
  refine HandSHeadRun.head_any (r := OpenLaw.row PySem.Challenge.rw_ballmaps_k21_errors_apart) (q := view (OpenLaw.row PySem.Challenge.rw_ballmaps_k21_errors_apart).prog [67]) (H := hk) (ob := ob) (M := 8000) (loose := loose) (d := HandSHeadRun.topDef (OpenLaw.row PySem.Challenge.rw_ballmaps_k21_errors_apart).prog 67) (kwd := []) ob_eq
    (by kernel_rfl) (fun s => by kernel_rfl) run_head (by kernel_rfl) (by kernel_rfl) (by kernel_rfl) (by rfl) (by first | assumption | decide +kernel) (by decide +kernel) ⟨rfl, rfl, rfl, rfl, rfl, by decide +kernel⟩ ?hw ?hc
  case hw => w_witness2
  case hc =>
    refine LamX.walk_ofTsE (l := PySem.Challenge.rw_ballmaps_k21_errors_apart) (n := 63) (k := 27) (x := "script") (CX := fun w => L2N.CX PySem.Challenge.rw_ballmaps_k21_errors_apart.prog w) rfl (by decide) (by kernel_rfl) ⟨rfl, by decide, by decide⟩ ?F (fun _ _ _ _ _ z => ?_)
    · intro w mg fa0 h Y G hmg0
      obtain ⟨K, KX, sx⟩ := Y
      have hmg : mg ("law" : PySem.Str) = some (.ref fa0) := by
        have e : (HandSHeadRun.topDef (OpenLaw.row PySem.Challenge.rw_ballmaps_k21_errors_apart).prog 67).name = ("law" : PySem.Str) := by kernel_rfl
        rw [← e]
        exact hmg0
      exact ⟨K, KX, law_at good KX G hmg sx⟩
    · obtain ⟨_, _, _, _, _, _, _, _, _, _, _, _, no⟩ := z
      exact no.elim
end Bm.Lk21
end
section
set_option Elab.async false
set_option linter.all false
set_option maxRecDepth 100000
set_option maxHeartbeats 1000000
namespace Bm
open PySem
abbrev Chart := List (List Nat)
theorem run_fn {n f : Nat} {fd : FDef} {args : List D} (hT : T f = some fd) (hio : fd.io = false) (hl : args.length = fd.np) : run T (n + 1) f none args = endOf 0 none (denS (run T n) fd.body (args.map .sh ++ List.replicate (fd.ns - fd.np) .un)) := by
  simp only [run, hT, entry, if_pos (And.intro hio hl)]
theorem run_io {n f : Nat} {fd : FDef} {args m : List D} (hT : T f = some fd) (hio : fd.io = true) (hl : args.length + 1 = fd.np) : run T (n + 1) f (some m) args = endOf 0 (some m) (denS (run T n) fd.body (.own m :: args.map .sh ++ List.replicate (fd.ns - fd.np) .un)) := by
  simp only [run, hT, entry, if_pos (And.intro hio hl)]
theorem e_var {call : CallS} {i : Nat} {r : Env} : den call (.var i) r = match getS r i with
    | .sh d => .ok (d, r)
    | .own l => .ok (.list l, putS r i (.sh (.list l)))
    | _ => .stuck := rfl
theorem e_lit {call : CallS} {d : D} {r : Env} : den call (.lit d) r = .ok (d, r) := rfl
theorem e_nil {call : CallS} {r : Env} : den call .nil r = .ok (.list [], r) := rfl
theorem e_cons {call : CallS} {a b : E} {r : Env} : den call (.cons a b) r = (den call a r).bind fun (x, r1) => (den call b r1).bind fun (y, r2) => match y with
    | .list l => .ok (.list (x :: l), r2)
    | _ => .stuck := rfl
theorem e_op {call : CallS} {o : Op} {a : E} {r : Env} : den call (.op o a) r = (den call a r).bind fun (x, r1) => match x with
    | .list l => (R.opt (opD o l)).bind fun d => .ok (d, r1)
    | _ => .stuck := rfl
theorem e_call {call : CallS} {f : Nat} {a : E} {r : Env} : den call (.call f a) r = (den call a r).bind fun (x, r1) => match x with
    | .list l => (call f none l).bind fun (d, _) => .ok (d, r1)
    | _ => .stuck := rfl
def endsFrom : Nat → Chart → List (Nat × Nat)
  | _, [] => []
  | k, row :: r => (List.range row.length).map (fun q => (k, q)) ++ endsFrom (k + 1) r
abbrev ends (ch : Chart) : List (Nat × Nat) := endsFrom 0 ch
def otherFrom (c : Nat) (e : Nat × Nat) : Nat → Chart → Option (Nat × Nat)
  | _, [] => none
  | k, row :: r => match (match posOf c row with | some q => if (k, q) = e then posFrom c row (q + 1) else some q | none => none) with
    | some q => some (k, q)
    | none => otherFrom c e (k + 1) r
def letterAt (ch : Chart) (e : Nat × Nat) : Nat := (ch.getD e.1 []).getD e.2 0
def otherEnd (ch : Chart) (e : Nat × Nat) : Nat × Nat := (otherFrom (letterAt ch e) e 0 ch).getD e
theorem posOf_lt {c : Nat} : ∀ {l : List Nat} {q : Nat}, posOf c l = some q → q < l.length
  | [], _, h => by cases h
  | a :: r, q, h => by
    simp only [posOf] at h
    by_cases ha : a = c
    · rw [if_pos ha] at h; cases h; simp
    · rw [if_neg ha] at h
      cases hr : posOf c r with
      | none => rw [hr] at h; cases h
      | some k =>
        rw [hr] at h
        cases h
        have := posOf_lt hr
        simp; omega
def Val (ch : Chart) (e : Nat × Nat) : Prop := ∃ row, ch[e.1]? = some row ∧ e.2 < row.length
theorem posFrom_lt {c : Nat} {l : List Nat} {k q : Nat} (h : posFrom c l k = some q) : q < l.length ∧ k ≤ q := by
  unfold posFrom at h
  cases hr : posOf c (l.drop k) with
  | none => rw [hr] at h; cases h
  | some j =>
    rw [hr] at h
    cases h
    have := posOf_lt hr
    rw [List.length_drop] at this
    show j + k < l.length ∧ k ≤ j + k
    omega
theorem otherFrom_val {c : Nat} {e : Nat × Nat} : ∀ {rows : Chart} {k : Nat} {x : Nat × Nat}, otherFrom c e k rows = some x → ∃ row, k ≤ x.1 ∧ rows[x.1 - k]? = some row ∧ x.2 < row.length
  | [], k, x, h => by cases h
  | row :: rows, k, x, h => by
    simp only [otherFrom] at h
    cases hm : (match posOf c row with | some q => if (k, q) = e then posFrom c row (q + 1) else some q | none => none) with
    | some q =>
      rw [hm] at h
      cases h
      refine ⟨row, Nat.le_refl _, by simp, ?_⟩
      cases hp : posOf c row with
      | none => rw [hp] at hm; cases hm
      | some q' =>
        rw [hp] at hm
        simp only at hm
        by_cases he : (k, q') = e
        · rw [if_pos he] at hm; exact (posFrom_lt hm).1
        · rw [if_neg he] at hm; cases hm; exact posOf_lt hp
    | none =>
      rw [hm] at h
      obtain ⟨row', h1, h2, h3⟩ := otherFrom_val h
      refine ⟨row', by omega, ?_, h3⟩
      have : x.1 - k = (x.1 - (k + 1)) + 1 := by omega
      rw [this, List.getElem?_cons_succ]
      exact h2
theorem otherEnd_val {ch : Chart} {e : Nat × Nat} (h : Val ch e) : Val ch (otherEnd ch e) := by
  unfold otherEnd
  cases ho : otherFrom (letterAt ch e) e 0 ch with
  | none => exact h
  | some x =>
    obtain ⟨row, _, h2, h3⟩ := otherFrom_val ho
    exact ⟨row, by simpa using h2, h3⟩
def nextA (ch : Chart) (e : Nat × Nat) : Nat × Nat := (e.1, (e.2 + 1) % (ch.getD e.1 []).length)
theorem nextA_val {ch : Chart} {e : Nat × Nat} (h : Val ch e) : Val ch (nextA ch e) := by
  obtain ⟨row, h1, h2⟩ := h
  refine ⟨row, h1, ?_⟩
  simp only [nextA, List.getD_eq_getElem?_getD, h1, Option.getD_some]
  exact Nat.mod_lt _ (by omega)
def phi (ch : Chart) (e : Nat × Nat) : Nat × Nat := nextA ch (otherEnd ch e)
theorem phi_val {ch : Chart} {e : Nat × Nat} (h : Val ch e) : Val ch (phi ch e) := nextA_val (otherEnd_val h)
end Bm
end
section
set_option Elab.async false
set_option linter.all false
set_option maxRecDepth 100000
set_option maxHeartbeats 1000000
namespace Bm
open PySem
abbrev End := Nat × Nat
/-- from e on while it is not seen -/
def goOn (ch : Chart) : Nat → List End → List End → End → Option (List End × List End × End)
  | 0, _, _, _ => none
  | n + 1, seen, sm, e => if e ∈ seen then some (seen, sm, e) else goOn ch n (seen ++ [e]) (sm ++ [e]) (phi ch e)
end Bm
end
section
set_option Elab.async false
set_option linter.all false
set_option maxRecDepth 100000
set_option maxHeartbeats 1000000
namespace Bm
open PySem
end Bm
end
section
set_option Elab.async false
set_option linter.all false
set_option maxRecDepth 100000
set_option maxHeartbeats 1000000
namespace Bm
open PySem
theorem nodup_le {α : Type} [DecidableEq α] : ∀ {l m : List α}, l.Nodup → (∀ x ∈ l, x ∈ m) → l.length ≤ m.length
  | [], m, _, _ => Nat.zero_le _
  | a :: l, m, h, hs => by
    have ha := hs a List.mem_cons_self
    have hd := List.nodup_cons.mp h
    have := nodup_le (m := m.erase a) hd.2 fun x hx => by
      have hne : x ≠ a := fun z => hd.1 (z ▸ hx)
      exact (List.mem_erase_of_ne hne).mpr (hs x (List.mem_cons_of_mem _ hx))
    have hl := List.length_erase_of_mem ha
    have hp : 0 < m.length := List.length_pos_of_mem ha
    simp only [List.length_cons]
    omega
theorem mem_endsFrom {e : End} : ∀ {rows : Chart} {k : Nat}, e ∈ endsFrom k rows ↔ k ≤ e.1 ∧ ∃ row, rows[e.1 - k]? = some row ∧ e.2 < row.length
  | [], k => by simp [endsFrom]
  | row :: rows, k => by
    rw [endsFrom, List.mem_append, mem_endsFrom (rows := rows) (k := k + 1)]
    constructor
    · rintro (h | ⟨h1, row', h2, h3⟩)
      · obtain ⟨q, hq, rfl⟩ := List.mem_map.mp h
        exact ⟨Nat.le_refl _, row, by simp, List.mem_range.mp hq⟩
      · refine ⟨by omega, row', ?_, h3⟩
        have : e.1 - k = (e.1 - (k + 1)) + 1 := by omega
        rw [this, List.getElem?_cons_succ]; exact h2
    · rintro ⟨h1, row', h2, h3⟩
      by_cases hk : e.1 = k
      · rw [hk, Nat.sub_self] at h2
        simp only [List.getElem?_cons_zero, Option.some.injEq] at h2
        subst h2
        exact .inl (List.mem_map.mpr ⟨e.2, List.mem_range.mpr h3, by rw [← hk]⟩)
      · refine .inr ⟨by omega, row', ?_, h3⟩
        have : e.1 - k = (e.1 - (k + 1)) + 1 := by omega
        rw [this, List.getElem?_cons_succ] at h2; exact h2
theorem mem_ends {ch : Chart} {e : End} : e ∈ ends ch ↔ Val ch e := by
  unfold Val
  rw [mem_endsFrom]
  simp
theorem nodup_endsFrom : ∀ (rows : Chart) (k : Nat), (endsFrom k rows).Nodup
  | [], k => List.nodup_nil
  | row :: rows, k => by
    rw [endsFrom]
    refine List.nodup_append.mpr ⟨?_, nodup_endsFrom rows (k + 1), fun x hx y hy => ?_⟩
    · have := List.nodup_range (n := row.length)
      rw [List.nodup_iff_pairwise_ne, List.pairwise_map]
      exact this.imp fun h z => h (by cases z; rfl)
    · obtain ⟨q, _, rfl⟩ := List.mem_map.mp hx
      have := (mem_endsFrom.mp hy).1
      intro z
      rw [← z] at this
      exact absurd this (by show ¬ k + 1 ≤ k; omega)
/-- the walk w from e to e' -/
def Path (ch : Chart) : List End → End → End → Prop
  | [], e, e' => e = e'
  | x :: w, e, e' => x = e ∧ Path ch w (phi ch e) e'
theorem goOn_spec {ch : Chart} : ∀ (m : Nat) (seen sm seen' sm' : List End) (e e' : End), goOn ch m seen sm e = some (seen', sm', e') → seen.Nodup → Val ch e →
    ∃ w, seen' = seen ++ w ∧ sm' = sm ++ w ∧ Path ch w e e' ∧ seen'.Nodup ∧ e' ∈ seen' ∧ (∀ x ∈ w, Val ch x) ∧ (e ∉ seen → w ≠ [])
  | 0, _, _, _, _, _, _, h, _, _ => by cases h
  | m + 1, seen, sm, seen', sm', e, e', h, hn, hv => by
    simp only [goOn] at h
    by_cases he : e ∈ seen
    · rw [if_pos he] at h
      cases h
      exact ⟨[], by simp, by simp, rfl, hn, he, (fun x hx => by cases hx), fun z => absurd he z⟩
    · rw [if_neg he] at h
      have hn' : (seen ++ [e]).Nodup := List.nodup_append.mpr ⟨hn, by simp, fun x hx y hy => by rw [List.mem_singleton.mp hy]; exact fun z => he (z ▸ hx)⟩
      obtain ⟨w, h1, h2, h3, h4, h5, h6, _⟩ := goOn_spec m _ _ _ _ _ _ h hn' (phi_val hv)
      refine ⟨e :: w, by rw [h1, List.append_assoc]; rfl, by rw [h2, List.append_assoc]; rfl, ⟨rfl, h3⟩, h4, h5, fun x hx => ?_, fun _ z => by cases z⟩
      rcases List.mem_cons.mp hx with z | z
      · rw [z]; exact hv
      · exact h6 x z
theorem goOn_some {ch : Chart} : ∀ (m : Nat) (seen sm : List End) (e : End), seen.Nodup → (∀ x ∈ seen, Val ch x) → Val ch e → (ends ch).length < seen.length + m → ∃ p, goOn ch m seen sm e = some p
  | 0, seen, sm, e, hn, hs, hv, h => by
    have := nodup_le hn (m := ends ch) fun x hx => mem_ends.mpr (hs x hx)
    omega
  | m + 1, seen, sm, e, hn, hs, hv, h => by
    simp only [goOn]
    by_cases he : e ∈ seen
    · rw [if_pos he]; exact ⟨_, rfl⟩
    · rw [if_neg he]
      refine goOn_some m _ _ _ (List.nodup_append.mpr ⟨hn, by simp, fun x hx y hy => by rw [List.mem_singleton.mp hy]; exact fun z => he (z ▸ hx)⟩) (fun x hx => ?_) (phi_val hv) (by simp only [List.length_append, List.length_cons, List.length_nil]; omega)
      rcases List.mem_append.mp hx with z | z
      · exact hs x z
      · rw [List.mem_singleton.mp z]; exact hv
end Bm
end
section
set_option Elab.async false
set_option linter.all false
set_option maxRecDepth 100000
set_option maxHeartbeats 1000000
namespace Bm
open PySem
/-- a step over one end: its round is walked if it is not seen -/
def wstep (ch : Chart) (s : List End × List (List End)) (e : End) : List End × List (List End) :=
  if e ∈ s.1 then s else match goOn ch 200 s.1 [] e with
    | some p => (p.1, s.2 ++ [p.2.1])
    | none => s
def walksOf (ch : Chart) (es : List End) : List End × List (List End) := es.foldl (wstep ch) ([], [])
def walks (ch : Chart) : List (List End) := (walksOf ch (ends ch)).2
/-- what holds between two ends -/
structure WOkS (ch : Chart) (s : List End × List (List End)) : Prop where
  nd : s.1.Nodup
  val : ∀ x ∈ s.1, Val ch x
  len : s.2.length ≤ s.1.length
  fl : s.2.flatten = s.1
  ne : ∀ w ∈ s.2, w ≠ []
theorem wstep_ok {ch : Chart} (hE : (ends ch).length ≤ 100) {s : List End × List (List End)} {e : End} (h : WOkS ch s) (hv : Val ch e) : WOkS ch (wstep ch s e) := by
  unfold wstep
  by_cases he : e ∈ s.1
  · rw [if_pos he]; exact h
  · rw [if_neg he]
    obtain ⟨p, hp⟩ := goOn_some (ch := ch) 200 s.1 [] e h.nd h.val hv (by omega)
    rw [hp]
    obtain ⟨seen', w, e'⟩ := p
    obtain ⟨w', h1, h2, h3, h4, h5, h6, h7⟩ := goOn_spec 200 s.1 [] seen' w e e' hp h.nd hv
    simp only [List.nil_append] at h2
    subst h2
    have hw := h7 he
    refine ⟨h4, fun x hx => ?_, ?_, ?_, fun v hv => ?_⟩
    · rw [h1] at hx
      rcases List.mem_append.mp hx with z | z
      · exact h.val x z
      · exact h6 x z
    · show (s.2 ++ [w]).length ≤ seen'.length
      rw [h1]
      simp only [List.length_append, List.length_cons, List.length_nil]
      have := h.len
      have : 0 < w.length := List.length_pos_iff.mpr hw
      omega
    · show (s.2 ++ [w]).flatten = seen'
      rw [h1, List.flatten_append, h.fl]; simp
    · rcases List.mem_append.mp hv with z | z
      · exact h.ne v z
      · rw [List.mem_singleton.mp z]; exact hw
theorem wstart_ok {ch : Chart} : WOkS ch ([], []) := ⟨List.nodup_nil, (fun x hx => by cases hx), Nat.le_refl _, rfl, (fun w hw => by cases hw)⟩
end Bm
end
section
set_option Elab.async false
set_option linter.all false
set_option maxRecDepth 100000
set_option maxHeartbeats 1000000
namespace Bm
open PySem
theorem walksOf_ok {ch : Chart} (hE : (ends ch).length ≤ 100) : ∀ es : List End, (∀ e ∈ es, Val ch e) → ∀ s, WOkS ch s → WOkS ch (es.foldl (wstep ch) s)
  | [], _, _, h => h
  | e :: es, hv, s, h => walksOf_ok hE es (fun x hx => hv x (List.mem_cons_of_mem _ hx)) _ (wstep_ok hE h (hv e List.mem_cons_self))
theorem walks_ok {ch : Chart} (hE : (ends ch).length ≤ 100) : WOkS ch (walksOf ch (ends ch)) := walksOf_ok hE _ (fun e he => mem_ends.mp he) _ wstart_ok
end Bm
end
section
set_option Elab.async false
set_option linter.all false
set_option maxRecDepth 100000
set_option maxHeartbeats 1000000
namespace Bm
open PySem
theorem e_oitem {call : CallS} {i : Nat} {a : E} {r : Env} : den call (.oitem i a) r = if isOwnL (getS r i) then (den call a r).bind fun (x, r1) => match x, getS r1 i with
    | .int k, .own l => (R.opt ((ixOf l.length k).bind fun j => l[j]?)).bind fun d => .ok (d, r1)
    | _, _ => .stuck
    else .stuck := rfl
def NM : List Nat := [97, 98, 99, 100, 101, 102, 103, 104]
def twice (n : Nat) : List Nat := NM.take n ++ NM.take n
end Bm
end
section
set_option Elab.async false
set_option linter.all false
set_option maxRecDepth 100000
set_option maxHeartbeats 1000000
namespace Bm
open PySem
def cnt (c : Nat) (row : List Nat) : Nat := (row.filter fun x => x == c).length
def ptsFrom (c : Nat) : Nat → Chart → List Nat
  | _, [] => []
  | k, row :: r => List.replicate (cnt c row) k ++ ptsFrom c (k + 1) r
def ptsOf (ch : Chart) (c : Nat) : List Nat := ptsFrom c 0 ch
end Bm
end
section
set_option Elab.async false
set_option linter.all false
set_option maxRecDepth 100000
set_option maxHeartbeats 1000000
namespace Bm
open PySem
end Bm
end
section
set_option Elab.async false
set_option linter.all false
set_option maxRecDepth 100000
set_option maxHeartbeats 1000000
namespace Bm
open PySem
/-- a drawing of n borders -/
structure Draw (ch : Chart) (n : Nat) : Prop where
  ne : ∀ r ∈ ch, r ≠ []
  n1 : 1 ≤ n
  n8 : n ≤ 8
  pm : ch.flatten.Perm (twice n)
theorem twice_len {n : Nat} (h : n ≤ 8) : (twice n).length = 2 * n := by
  unfold twice
  rw [List.length_append, List.length_take]
  have : NM.length = 8 := rfl
  omega
theorem Draw.len {ch : Chart} {n : Nat} (h : Draw ch n) : ch.flatten.length = 2 * n := by rw [h.pm.length_eq, twice_len h.n8]
theorem cnt_app (c : Nat) (a b : List Nat) : cnt c (a ++ b) = cnt c a + cnt c b := by simp [cnt]
theorem pts_length (c : Nat) : ∀ (rows : Chart) (k : Nat), (ptsFrom c k rows).length = cnt c rows.flatten
  | [], k => rfl
  | row :: r, k => by simp only [ptsFrom, List.length_append, List.length_replicate, pts_length c r (k + 1), List.flatten_cons, cnt_app]
theorem cnt_perm {c : Nat} {a b : List Nat} (h : a.Perm b) : cnt c a = cnt c b := (h.filter _).length_eq
theorem cnt_twice : ∀ n, n ≤ 8 → ∀ c ∈ NM.take n, cnt c (twice n) = 2 := by decide +kernel
theorem Draw.two {ch : Chart} {n c : Nat} (h : Draw ch n) (hc : c ∈ NM.take n) : (ptsOf ch c).length = 2 := by
  unfold ptsOf
  rw [pts_length, cnt_perm h.pm, cnt_twice n h.n8 c hc]
theorem ends_len : ∀ (rows : Chart) (k : Nat), (endsFrom k rows).length = rows.flatten.length
  | [], k => rfl
  | row :: r, k => by simp [endsFrom, ends_len r (k + 1)]
theorem Draw.ends {ch : Chart} {n : Nat} (h : Draw ch n) : (ends ch).length = 2 * n := by rw [ends_len, h.len]
theorem len_str {l : List Nat} (h : l.length ≤ 1000) : dop_len [dS l] = some (dI l.length) := by
  have : l.length ≤ lim := Nat.le_trans h (by decide)
  simp [dop_len, guardO, this]
end Bm
end
section
set_option Elab.async false
set_option linter.all false
set_option maxRecDepth 100000
set_option maxHeartbeats 1000000
namespace Bm
open PySem
theorem posOf_some {c : Nat} : ∀ {l : List Nat} {q : Nat}, posOf c l = some q → l[q]? = some c
  | [], _, h => by cases h
  | a :: r, q, h => by
    simp only [posOf] at h
    by_cases ha : a = c
    · rw [if_pos ha] at h; cases h; simp [ha]
    · rw [if_neg ha] at h
      cases hr : posOf c r with
      | none => rw [hr] at h; cases h
      | some k =>
        rw [hr] at h
        cases h
        simpa using posOf_some hr
theorem posOf_none {c : Nat} : ∀ {l : List Nat}, posOf c l = none → ∀ q : Nat, l[q]? ≠ some c
  | [], _, q => by simp
  | a :: r, h, q => by
    simp only [posOf] at h
    by_cases ha : a = c
    · rw [if_pos ha] at h; cases h
    · rw [if_neg ha] at h
      cases hr : posOf c r with
      | some k => rw [hr] at h; cases h
      | none =>
        cases q with
        | zero => simp [ha]
        | succ q => simpa using posOf_none hr q
theorem posOf_first {c : Nat} : ∀ {l : List Nat} {q : Nat}, posOf c l = some q → ∀ j, j < q → l[j]? ≠ some c
  | [], _, h, _, _ => by cases h
  | a :: r, q, h, j, hj => by
    simp only [posOf] at h
    by_cases ha : a = c
    · rw [if_pos ha] at h; cases h; omega
    · rw [if_neg ha] at h
      cases hr : posOf c r with
      | none => rw [hr] at h; cases h
      | some k =>
        rw [hr] at h
        cases h
        cases j with
        | zero => simp [ha]
        | succ j => simpa using posOf_first hr j (by show j < k; have : j + 1 < k + 1 := hj; omega)
theorem posFrom_some {c : Nat} {l : List Nat} {k q : Nat} (h : posFrom c l k = some q) : l[q]? = some c ∧ k ≤ q := by
  unfold posFrom at h
  cases hr : posOf c (l.drop k) with
  | none => rw [hr] at h; cases h
  | some j =>
    rw [hr] at h
    cases h
    have := posOf_some hr
    rw [List.getElem?_drop] at this
    refine ⟨?_, by show k ≤ j + k; omega⟩
    show l[j + k]? = some c
    rw [Nat.add_comm]; exact this
theorem posFrom_none {c : Nat} {l : List Nat} {k : Nat} (h : posFrom c l k = none) : ∀ q, k ≤ q → l[q]? ≠ some c := by
  intro q hq
  unfold posFrom at h
  cases hr : posOf c (l.drop k) with
  | some j => rw [hr] at h; cases h
  | none =>
    have := posOf_none hr (q - k)
    rw [List.getElem?_drop] at this
    have e : k + (q - k) = q := by omega
    rwa [e] at this
def pick (c : Nat) (e : End) (k : Nat) (row : List Nat) : Option Nat := (posOf c row).elim none fun q => if (k, q) = e then posFrom c row (q + 1) else some q
theorem otherFrom_cons {c k : Nat} {e : End} {row : List Nat} {rows : Chart} : otherFrom c e k (row :: rows) = (pick c e k row).elim (otherFrom c e (k + 1) rows) fun q => some (k, q) := by
  unfold pick
  rw [otherFrom]
  cases posOf c row with
  | none => rfl
  | some q =>
    simp only [Option.elim_some]
    by_cases h : (k, q) = e
    · rw [if_pos h]
      cases posFrom c row (q + 1) <;> rfl
    · rw [if_neg h]; rfl
theorem otherFrom_some {c : Nat} {e : End} : ∀ {rows : Chart} {k : Nat} {x : End}, otherFrom c e k rows = some x → k ≤ x.1 ∧ (∃ row, rows[x.1 - k]? = some row ∧ row[x.2]? = some c) ∧ x ≠ e
  | [], k, x, h => by cases h
  | row :: rows, k, x, h => by
    rw [otherFrom_cons] at h
    cases hm : pick c e k row with
    | some q =>
      rw [hm] at h
      simp only [Option.elim_some, Option.elim_none] at h
      cases h
      cases hp : posOf c row with
      | none => unfold pick at hm; rw [hp] at hm; cases hm
      | some q' =>
        unfold pick at hm
        rw [hp] at hm
        simp only [Option.elim_some] at hm
        by_cases he : (k, q') = e
        · rw [if_pos he] at hm
          have h1 := posFrom_some hm
          refine ⟨Nat.le_refl _, ⟨row, by simp, h1.1⟩, fun z => ?_⟩
          rw [← he] at z
          have : q = q' := congrArg Prod.snd z
          omega
        · rw [if_neg he] at hm; cases hm
          exact ⟨Nat.le_refl _, ⟨row, by simp, posOf_some hp⟩, he⟩
    | none =>
      rw [hm] at h
      simp only [Option.elim_some, Option.elim_none] at h
      obtain ⟨h1, ⟨row', h2, h3⟩, h4⟩ := otherFrom_some h
      refine ⟨by omega, ⟨row', ?_, h3⟩, h4⟩
      have : x.1 - k = (x.1 - (k + 1)) + 1 := by omega
      rw [this, List.getElem?_cons_succ]; exact h2
theorem otherFrom_none {c : Nat} {e : End} : ∀ {rows : Chart} {k : Nat}, otherFrom c e k rows = none → ∀ x : End, k ≤ x.1 → (∃ row, rows[x.1 - k]? = some row ∧ row[x.2]? = some c) → x = e
  | [], k, h, x, _, hx => by obtain ⟨row, h1, _⟩ := hx; simp at h1
  | row :: rows, k, h, x, hk, hx => by
    rw [otherFrom_cons] at h
    cases hm : pick c e k row with
    | some q => rw [hm] at h; cases h
    | none =>
      rw [hm] at h
      simp only [Option.elim_some, Option.elim_none] at h
      obtain ⟨row', h1, h2⟩ := hx
      by_cases hxk : x.1 = k
      · rw [hxk, Nat.sub_self, List.getElem?_cons_zero] at h1
        cases h1
        cases hp : posOf c row with
        | none => exact absurd h2 (posOf_none hp _)
        | some q' =>
          unfold pick at hm
          rw [hp] at hm
          simp only [Option.elim_some] at hm
          by_cases he : (k, q') = e
          · rw [if_pos he] at hm
            have h3 : x.2 = q' := by
              rcases Nat.lt_trichotomy x.2 q' with z | z | z
              · exact absurd h2 (posOf_first hp _ z)
              · exact z
              · exact absurd h2 (posFrom_none hm _ z)
            rw [← he, ← h3, ← hxk]
          · rw [if_neg he] at hm; cases hm
      · refine otherFrom_none h x (by omega) ⟨row', ?_, h2⟩
        have : x.1 - k = (x.1 - (k + 1)) + 1 := by omega
        rw [this, List.getElem?_cons_succ] at h1; exact h1
theorem val_letter {ch : Chart} {e : End} (h : Val ch e) : ∃ row, ch[e.1]? = some row ∧ row[e.2]? = some (letterAt ch e) := by
  obtain ⟨row, h1, h2⟩ := h
  refine ⟨row, h1, ?_⟩
  unfold letterAt
  simp only [List.getD_eq_getElem?_getD, h1, Option.getD_some, List.getElem?_eq_getElem h2]
theorem letter_of {ch : Chart} {e : End} {row : List Nat} {c : Nat} (h1 : ch[e.1]? = some row) (h2 : row[e.2]? = some c) : Val ch e ∧ letterAt ch e = c := by
  refine ⟨⟨row, h1, (List.getElem?_eq_some_iff.mp h2).1⟩, ?_⟩
  unfold letterAt
  simp only [List.getD_eq_getElem?_getD, h1, Option.getD_some, h2]
/-- the letters of all ends, in order -/
theorem map_letterFrom {ch : Chart} : ∀ (rows : Chart) (k : Nat), (∀ i, ch[k + i]? = rows[i]?) → (endsFrom k rows).map (letterAt ch) = rows.flatten
  | [], k, _ => rfl
  | row :: rows, k, h => by
    have h0 : ch[k]? = some row := by simpa using h 0
    simp only [endsFrom, List.map_append, List.map_map, List.flatten_cons]
    congr 1
    · refine List.ext_getElem? fun q => ?_
      rw [List.getElem?_map]
      by_cases hq : q < row.length
      · rw [List.getElem?_range hq]
        simp only [Option.map_some, Function.comp]
        have := val_letter (ch := ch) (e := (k, q)) ⟨row, h0, hq⟩
        obtain ⟨row', h1, h2⟩ := this
        rw [h0] at h1
        cases h1
        exact h2.symm
      · rw [List.getElem?_eq_none (by simpa using hq), List.getElem?_eq_none (by simpa using hq)]
        rfl
    · exact map_letterFrom rows (k + 1) fun i => by
        have := h (i + 1)
        rw [List.getElem?_cons_succ] at this
        rw [← this]
        congr 1
        omega
theorem map_letter (ch : Chart) : (ends ch).map (letterAt ch) = ch.flatten := map_letterFrom ch 0 fun i => by simp
theorem cnt_map (ch : Chart) (c : Nat) : ((ends ch).filter fun x => letterAt ch x == c).length = cnt c ch.flatten := by
  rw [← map_letter]
  unfold cnt
  rw [List.filter_map, List.length_map]
  rfl
theorem nodup_two {α : Type} {l : List α} (h : l.Nodup) (h2 : l.length = 2) {a : α} (ha : a ∈ l) : ∃ b, b ∈ l ∧ b ≠ a ∧ ∀ x ∈ l, x = a ∨ x = b := by
  match l, h2 with
  | [x, y], _ =>
    have hxy : x ≠ y := by
      have := (List.nodup_cons.mp h).1
      exact fun z => this (by simp [z])
    rcases List.mem_cons.mp ha with rfl | ha
    · exact ⟨y, by simp, hxy.symm, fun z hz => by simpa using hz⟩
    · have : a = y := by simpa using ha
      subst this
      exact ⟨x, by simp, hxy, fun z hz => by
        have : z = x ∨ z = a := by simpa using hz
        exact this.symm⟩
structure IsOther (ch : Chart) (e x : End) : Prop where
  val : Val ch x
  ne : x ≠ e
  let_ : letterAt ch x = letterAt ch e
  all : ∀ y, Val ch y → letterAt ch y = letterAt ch e → y = e ∨ y = x
theorem flat_mem {ch : Chart} {e : End} (h : Val ch e) : letterAt ch e ∈ ch.flatten := by
  rw [← map_letter]
  exact List.mem_map_of_mem (mem_ends.mpr h)
theorem twice_mem {n c : Nat} (h : c ∈ twice n) : c ∈ NM.take n := (List.mem_append.mp h).elim id id
theorem Draw.let_mem {ch : Chart} {n : Nat} (D : Draw ch n) {e : End} (h : Val ch e) : letterAt ch e ∈ NM.take n := twice_mem (D.pm.subset (flat_mem h))
theorem Draw.other {ch : Chart} {n : Nat} (D : Draw ch n) {e : End} (h : Val ch e) : IsOther ch e (otherEnd ch e) := by
  have hc := cnt_map ch (letterAt ch e)
  rw [cnt_perm D.pm, cnt_twice n D.n8 _ (D.let_mem h)] at hc
  have hnd : ((Bm.ends ch).filter fun x => letterAt ch x == letterAt ch e).Nodup := (nodup_endsFrom ch 0).filter _
  obtain ⟨b, hb, hne, hall⟩ := nodup_two hnd hc (a := e) (List.mem_filter.mpr ⟨mem_ends.mpr h, by simp⟩)
  have hb' := List.mem_filter.mp hb
  have hbv := mem_ends.mp hb'.1
  have hbl : letterAt ch b = letterAt ch e := by simpa using hb'.2
  have hall' : ∀ y, Val ch y → letterAt ch y = letterAt ch e → y = e ∨ y = b := fun y hy hl => hall y (List.mem_filter.mpr ⟨mem_ends.mpr hy, by simp [hl]⟩)
  have key : otherEnd ch e = b := by
    unfold otherEnd
    cases ho : otherFrom (letterAt ch e) e 0 ch with
    | none =>
      obtain ⟨row, h1, h2⟩ := val_letter hbv
      rw [hbl] at h2
      exact absurd (otherFrom_none ho b (Nat.zero_le _) ⟨row, by simpa using h1, h2⟩) hne
    | some x =>
      obtain ⟨_, ⟨row, h1, h2⟩, h3⟩ := otherFrom_some ho
      rw [Nat.sub_zero] at h1
      obtain ⟨v, l⟩ := letter_of h1 h2
      exact (hall' x v l).resolve_left h3
  rw [key]
  exact ⟨hbv, hne, hbl, hall'⟩
theorem IsOther.unique {ch : Chart} {e x y : End} (h : IsOther ch e x) (hv : Val ch y) (hn : y ≠ e) (hl : letterAt ch y = letterAt ch e) : y = x := (h.all y hv hl).resolve_left hn
theorem Draw.other_other {ch : Chart} {n : Nat} (D : Draw ch n) {e : End} (h : Val ch e) : otherEnd ch (otherEnd ch e) = e := by
  have o := D.other h
  have o2 := D.other o.val
  exact ((o2.all e h o.let_.symm).resolve_left o.ne.symm).symm
theorem nextA_inj {ch : Chart} {a b : End} (ha : Val ch a) (hb : Val ch b) (h : nextA ch a = nextA ch b) : a = b := by
  obtain ⟨ra, a1, a2⟩ := ha
  obtain ⟨rb, b1, b2⟩ := hb
  unfold nextA at h
  have h1 : a.1 = b.1 := (Prod.mk.inj h).1
  rw [h1, b1] at a1
  cases a1
  have h2 : (a.2 + 1) % (ch.getD a.1 []).length = (b.2 + 1) % (ch.getD b.1 []).length   := (Prod.mk.inj h).2
  rw [h1, List.getD_eq_getElem?_getD, b1, Option.getD_some] at h2
  have h3 : a.2 = b.2 := by
    by_cases ea : a.2 + 1 = ra.length
    · rw [ea, Nat.mod_self] at h2
      by_cases eb : b.2 + 1 = ra.length
      · omega
      · rw [Nat.mod_eq_of_lt (by omega)] at h2; omega
    · rw [Nat.mod_eq_of_lt (by omega)] at h2
      by_cases eb : b.2 + 1 = ra.length
      · rw [eb, Nat.mod_self] at h2; omega
      · rw [Nat.mod_eq_of_lt (by omega)] at h2; omega
  exact Prod.ext h1 h3
theorem Draw.phi_inj {ch : Chart} {n : Nat} (D : Draw ch n) {a b : End} (ha : Val ch a) (hb : Val ch b) (h : phi ch a = phi ch b) : a = b := by
  have h1 := nextA_inj (D.other ha).val (D.other hb).val h
  rw [← D.other_other ha, h1, D.other_other hb]
end Bm
end
section
set_option Elab.async false
set_option linter.all false
set_option maxRecDepth 100000
set_option maxHeartbeats 1000000
namespace Bm
open PySem
section
variable {α : Type} {f : α → α}
def rot1 : List α → List α
  | [] => []
  | a :: l => l ++ [a]
def Cyc (f : α → α) (w : List α) : Prop := w ≠ [] ∧ w.map f = rot1 w
theorem Cyc.one {a : α} {l : List α} (h : Cyc f (a :: l)) : Cyc f (l ++ [a]) := by
  refine ⟨by simp, ?_⟩
  have h2 : f a :: l.map f = l ++ [a] := h.2
  cases l with
  | nil =>
    simp only [List.map_nil, List.nil_append] at h2
    simp only [List.nil_append, List.map_cons, List.map_nil, rot1, h2]
  | cons b m =>
    simp only [List.map_cons, List.cons_append, List.cons.injEq] at h2
    simp only [List.cons_append, List.map_cons, List.map_append, List.map_nil, rot1]
    rw [← h2.2, ← h2.1]
    simp
theorem Cyc.rot : ∀ {u v : List α}, Cyc f (u ++ v) → Cyc f (v ++ u)
  | [], v, h => by simpa using h
  | a :: u, v, h => by
    have h1 : Cyc f ((u ++ v) ++ [a]) := Cyc.one h
    rw [List.append_assoc] at h1
    have := Cyc.rot (u := u) (v := v ++ [a]) h1
    simpa using this
theorem Cyc.at {w : List α} {x : α} (h : Cyc f w) (hx : x ∈ w) : ∃ u v, w = u ++ x :: v ∧ Cyc f (x :: (v ++ u)) := by
  obtain ⟨u, v, rfl⟩ := List.append_of_mem hx
  exact ⟨u, v, rfl, by simpa using Cyc.rot h⟩
theorem Cyc.pre {w : List α} {x : α} (h : Cyc f w) (hx : x ∈ w) : ∃ y ∈ w, f y = x := by
  have : x ∈ w.map f := by
    rw [h.2]
    cases w with
    | nil => cases hx
    | cons a l =>
      rcases List.mem_cons.mp hx with rfl | hx
      · simp [rot1]
      · simp [rot1, hx]
  obtain ⟨y, hy, e⟩ := List.mem_map.mp this
  exact ⟨y, hy, e⟩
theorem Cyc.nxt {w : List α} {x : α} (h : Cyc f w) (hx : x ∈ w) : f x ∈ w := by
  have : f x ∈ w.map f := List.mem_map_of_mem hx
  rw [h.2] at this
  cases w with
  | nil => cases hx
  | cons a l =>
    simp only [rot1, List.mem_append, List.mem_singleton] at this
    rcases this with z | z
    · exact List.mem_cons_of_mem _ z
    · rw [z]; exact List.mem_cons_self
theorem chain_sub {v : List α} (hv : ∀ x ∈ v, f x ∈ v) : ∀ (l : List α) (x z : α), (x :: l).map f = l ++ [z] → x ∈ v → ∀ y ∈ l, y ∈ v
  | [], _, _, _, _, y, hy => by cases hy
  | b :: l, x, z, h, hx, y, hy => by
    simp only [List.map_cons, List.cons_append, List.cons.injEq] at h
    have hb : b ∈ v := h.1 ▸ hv x hx
    rcases List.mem_cons.mp hy with rfl | hy
    · exact hb
    · exact chain_sub hv l b z (by simp only [List.map_cons]; exact h.2) hb y hy
theorem Cyc.sub {w v : List α} {x : α} (h : Cyc f w) (hv : Cyc f v) (hx : x ∈ w) (hxv : x ∈ v) : ∀ y ∈ w, y ∈ v := by
  obtain ⟨a, b, rfl, h'⟩ := h.at hx
  have := chain_sub (f := f) (fun z hz => hv.nxt hz) (b ++ a) x x h'.2 hxv
  intro y hy
  rcases List.mem_append.mp hy with z | z
  · exact this y (List.mem_append_right _ z)
  · rcases List.mem_cons.mp z with z | z
    · rw [z]; exact hxv
    · exact this y (List.mem_append_left _ z)
theorem nodup_of_flat {ws : List (List α)} {w : List α} (h : ws.flatten.Nodup) (hw : w ∈ ws) : w.Nodup := by
  obtain ⟨u, v, rfl⟩ := List.append_of_mem hw
  rw [List.flatten_append, List.flatten_cons] at h
  exact (List.nodup_append.mp (List.nodup_append.mp h).2.1).1
theorem dec_len [DecidableEq α] : ∀ {ws vs : List (List α)}, ws.flatten.Nodup → ws.flatten.Perm vs.flatten → (∀ w ∈ ws, Cyc f w) → (∀ v ∈ vs, Cyc f v) → ws.length = vs.length
  | [], vs, _, hp, _, hv => by
    cases vs with
    | nil => rfl
    | cons v vs =>
      have := hp.length_eq
      have h0 := (hv v List.mem_cons_self).1
      have : 0 < v.length := List.length_pos_iff.mpr h0
      simp only [List.flatten_nil, List.length_nil, List.flatten_cons, List.length_append] at *
      omega
  | w :: ws, vs, hn, hp, hw, hv => by
    have cw := hw w List.mem_cons_self
    obtain ⟨x, hx⟩ := List.exists_mem_of_ne_nil _ cw.1
    have hxv : x ∈ vs.flatten := hp.subset (by rw [List.flatten_cons]; exact List.mem_append_left _ hx)
    obtain ⟨v, hvm, hxv⟩ := List.mem_flatten.mp hxv
    have cv := hv v hvm
    have nv : v.Nodup := nodup_of_flat (hp.nodup hn) hvm
    have nw : w.Nodup := nodup_of_flat hn List.mem_cons_self
    have pwv : w.Perm v := (List.perm_ext_iff_of_nodup nw nv).mpr fun y => ⟨cw.sub cv hx hxv y, cv.sub cw hxv hx y⟩
    have pe : vs.Perm (v :: vs.erase v) := List.perm_cons_erase hvm
    have h1 : (w ++ ws.flatten).Perm (v ++ (vs.erase v).flatten) := by
      have := hp.trans pe.flatten
      simpa using this
    have h2 : ws.flatten.Perm (vs.erase v).flatten := (List.perm_append_left_iff w).mp (h1.trans ((pwv.append_right _).symm))
    have ih := dec_len (ws := ws) (vs := vs.erase v) (List.nodup_append.mp (by simpa using hn)).2.1 h2 (fun u hu => hw u (List.mem_cons_of_mem _ hu)) (fun u hu => hv u (List.mem_of_mem_erase hu))
    rw [List.length_erase_of_mem hvm] at ih
    have : 0 < vs.length := List.length_pos_of_mem hvm
    simp only [List.length_cons]
    omega
end
structure Dec (ch : Chart) (ws : List (List End)) : Prop where
  pm : ws.flatten.Perm (ends ch)
  cyc : ∀ w ∈ ws, Cyc (phi ch) w
theorem Dec.nd {ch : Chart} {ws : List (List End)} (h : Dec ch ws) : ws.flatten.Nodup := h.pm.symm.nodup (nodup_endsFrom ch 0)
theorem Dec.len {ch : Chart} {ws vs : List (List End)} (h : Dec ch ws) (h' : Dec ch vs) : ws.length = vs.length := dec_len h.nd (h.pm.trans h'.pm.symm) h.cyc h'.cyc
theorem path_map {ch : Chart} : ∀ (w : List End) (x e e' : End), Path ch (x :: w) e e' → x = e ∧ (x :: w).map (phi ch) = w ++ [e']
  | [], x, e, e', h => by
    obtain ⟨h1, h2⟩ := h
    have h2 : phi ch e = e' := h2
    exact ⟨h1, by simp [h1, h2]⟩
  | y :: w, x, e, e', h => by
    obtain ⟨h1, h2⟩ := h
    obtain ⟨h3, h4⟩ := path_map w y _ _ h2
    refine ⟨h1, ?_⟩
    rw [List.map_cons, h4, h1, ← h3]
    rfl
theorem wstep_cyc {ch : Chart} {n : Nat} (D : Draw ch n) {s : List End × List (List End)} {e : End} (h : WOkS ch s) (hc : ∀ w ∈ s.2, Cyc (phi ch) w) (hv : Val ch e) : (∀ w ∈ (wstep ch s e).2, Cyc (phi ch) w) ∧ e ∈ (wstep ch s e).1 ∧ ∀ x ∈ s.1, x ∈ (wstep ch s e).1 := by
  have hE : (ends ch).length ≤ 100 := by rw [D.ends]; have := D.n8; omega
  unfold wstep
  by_cases he : e ∈ s.1
  · rw [if_pos he]; exact ⟨hc, he, fun x hx => hx⟩
  · rw [if_neg he]
    obtain ⟨p, hp⟩ := goOn_some (ch := ch) 200 s.1 [] e h.nd h.val hv (by omega)
    rw [hp]
    obtain ⟨seen', w, e'⟩ := p
    obtain ⟨w', h1, h2, h3, h4, h5, h6, h7⟩ := goOn_spec 200 s.1 [] seen' w e e' hp h.nd hv
    simp only [List.nil_append] at h2
    subst h2
    cases w with
    | nil => exact absurd rfl (h7 he)
    | cons x l =>
      obtain ⟨ex, em⟩ := path_map l x e e' h3
      subst ex
      have hnw : (x :: l).Nodup := (List.nodup_append.mp (h1 ▸ h4)).2.1
      have hno : ∀ y ∈ x :: l, y ∉ s.1 := fun y hy z => (List.nodup_append.mp (h1 ▸ h4)).2.2 y z y hy rfl
      have pre : ∀ y, Val ch y → phi ch y ∈ s.1 → y ∈ s.1 := fun y hy hz => by
        rw [← h.fl] at hz
        obtain ⟨u, hu, hyu⟩ := List.mem_flatten.mp hz
        obtain ⟨z, hzu, ez⟩ := (hc u hu).pre hyu
        have hzs : z ∈ s.1 := by rw [← h.fl]; exact List.mem_flatten.mpr ⟨u, hu, hzu⟩
        rw [← D.phi_inj (h.val z hzs) hy ez]; exact hzs
      have e'mem : e' ∈ (x :: l).map (phi ch) := by rw [em]; simp
      obtain ⟨y, hy, ey⟩ := List.mem_map.mp e'mem
      have hns : e' ∉ s.1 := fun z => hno y hy (pre y (h6 y hy) (ey ▸ z))
      have hin : e' ∈ x :: l := by
        rw [h1] at h5
        exact (List.mem_append.mp h5).resolve_left hns
      have hnm : (l ++ [e']).Nodup := by
        rw [← em]
        rw [List.nodup_iff_pairwise_ne, List.pairwise_map]
        exact (List.nodup_iff_pairwise_ne.mp hnw).imp_of_mem fun {a b} ha hb hne z => hne (D.phi_inj (h6 a ha) (h6 b hb) z)
      have hee : e' = x := by
        rcases List.mem_cons.mp hin with z | z
        · exact z
        · exact absurd rfl ((List.nodup_append.mp hnm).2.2 e' z e' (by simp))
      refine ⟨fun u hu => ?_, ?_, fun z hz => ?_⟩
      · rcases List.mem_append.mp hu with z | z
        · exact hc u z
        · rw [List.mem_singleton.mp z]
          exact ⟨by simp, by rw [em, hee]; rfl⟩
      · show x ∈ seen'
        rw [h1]; simp
      · show z ∈ seen'
        rw [h1]; exact List.mem_append_left _ hz
theorem walksOf_cyc {ch : Chart} {n : Nat} (D : Draw ch n) : ∀ (es : List End) (s : List End × List (List End)), (∀ e ∈ es, Val ch e) → WOkS ch s → (∀ w ∈ s.2, Cyc (phi ch) w) →
    (∀ w ∈ (es.foldl (wstep ch) s).2, Cyc (phi ch) w) ∧ (∀ e ∈ es, e ∈ (es.foldl (wstep ch) s).1) ∧ ∀ x ∈ s.1, x ∈ (es.foldl (wstep ch) s).1
  | [], s, _, _, hc => ⟨hc, (fun e he => by cases he), fun x hx => hx⟩
  | e :: es, s, hv, h, hc => by
    have hE : (ends ch).length ≤ 100 := by rw [D.ends]; have := D.n8; omega
    obtain ⟨h1, h2, h3⟩ := wstep_cyc D h hc (hv e List.mem_cons_self)
    obtain ⟨i1, i2, i3⟩ := walksOf_cyc D es (wstep ch s e) (fun x hx => hv x (List.mem_cons_of_mem _ hx)) (wstep_ok hE h (hv e List.mem_cons_self)) h1
    refine ⟨i1, fun x hx => ?_, fun x hx => i3 x (h3 x hx)⟩
    rcases List.mem_cons.mp hx with rfl | hx
    · exact i3 _ h2
    · exact i2 x hx
theorem Draw.dec {ch : Chart} {n : Nat} (D : Draw ch n) : Dec ch (walks ch) := by
  have hE : (Bm.ends ch).length ≤ 100 := by rw [D.ends]; have := D.n8; omega
  have ok := walks_ok hE
  obtain ⟨h1, h2, _⟩ := walksOf_cyc D (Bm.ends ch) ([], []) (fun e he => mem_ends.mp he) wstart_ok (fun w hw => by cases hw)
  refine ⟨?_, h1⟩
  have e : (walks ch).flatten = (walksOf ch (Bm.ends ch)).1 := ok.fl
  rw [e]
  exact (List.perm_ext_iff_of_nodup ok.nd (nodup_endsFrom ch 0)).mpr fun x => ⟨fun hx => mem_ends.mpr (ok.val x hx), h2 x⟩
end Bm
end
section
set_option Elab.async false
set_option linter.all false
set_option maxRecDepth 100000
set_option maxHeartbeats 1000000
namespace Bm
open PySem
def insAt (row : List Nat) (q c : Nat) : List Nat := row.take q ++ c :: row.drop q
def put (ch : Chart) (d : End) (c : Nat) : Chart := ch.set d.1 (insAt (ch.getD d.1 []) d.2 c)
def sh (d x : End) : End := if x.1 = d.1 ∧ d.2 ≤ x.2 then (x.1, x.2 + 1) else x
theorem ins_len (row : List Nat) (q c : Nat) : (insAt row q c).length = row.length + 1 := by
  unfold insAt
  simp only [List.length_append, List.length_take, List.length_cons, List.length_drop]
  omega
theorem ins_lt {row : List Nat} {q c j : Nat} (hq : q ≤ row.length) (h : j < q) : (insAt row q c)[j]? = row[j]? := by
  unfold insAt
  rw [List.getElem?_append_left (by rw [List.length_take]; omega), List.getElem?_take_of_lt h]
theorem ins_gt {row : List Nat} {q c j : Nat} (hq : q ≤ row.length) (h : q ≤ j) : (insAt row q c)[j + 1]? = row[j]? := by
  unfold insAt
  rw [List.getElem?_append_right (by rw [List.length_take]; omega), List.length_take, Nat.min_eq_left hq]
  have e : j + 1 - q = (j - q) + 1 := by omega
  rw [e, List.getElem?_cons_succ, List.getElem?_drop]
  congr 1
  omega
/-- d is a place of ch -/
structure Plc (ch : Chart) (d : End) (row : List Nat) : Prop where
  at_ : ch[d.1]? = some row
  le : d.2 ≤ row.length
theorem Plc.of {ch : Chart} {d : End} (h : Val ch d) : ∃ row, Plc ch d row ∧ d.2 < row.length := by
  obtain ⟨row, h1, h2⟩ := h
  exact ⟨row, ⟨h1, Nat.le_of_lt h2⟩, h2⟩
theorem put_row {ch : Chart} {d : End} {row : List Nat} {c : Nat} (h : Plc ch d row) : (put ch d c)[d.1]? = some (insAt row d.2 c) := by
  unfold put
  have hl := (List.getElem?_eq_some_iff.mp h.at_).1
  rw [List.getElem?_set_self hl, List.getD_eq_getElem?_getD, h.at_]
  rfl
theorem put_other {ch : Chart} {d : End} {c p : Nat} (h : p ≠ d.1) : (put ch d c)[p]? = ch[p]? := by
  unfold put
  rw [List.getElem?_set_ne (Ne.symm h)]
theorem sh_fst (d x : End) : (sh d x).1 = x.1 := by unfold sh; split <;> rfl
/-- what stands at the shifted end -/
theorem put_get {ch : Chart} {d : End} {row : List Nat} {c : Nat} (h : Plc ch d row) {x : End} {r : List Nat} (hr : ch[x.1]? = some r) : ∃ r', (put ch d c)[x.1]? = some r' ∧ r'[(sh d x).2]? = r[x.2]? ∧ r'.length = (if x.1 = d.1 then r.length + 1 else r.length) := by
  by_cases hx : x.1 = d.1
  · have e : r = row := by rw [hx, h.at_] at hr; cases hr; rfl
    subst e
    refine ⟨insAt r d.2 c, by rw [hx]; exact put_row h, ?_, by rw [if_pos hx, ins_len]⟩
    unfold sh
    by_cases h2 : d.2 ≤ x.2
    · rw [if_pos ⟨hx, h2⟩]
      exact ins_gt h.le h2
    · rw [if_neg (fun z => h2 z.2)]
      exact ins_lt h.le (by omega)
  · refine ⟨r, by rw [put_other hx]; exact hr, ?_, by rw [if_neg hx]⟩
    unfold sh
    rw [if_neg (fun z => hx z.1)]
theorem put_sh {ch : Chart} {d : End} {row : List Nat} {c : Nat} (h : Plc ch d row) {x : End} (hx : Val ch x) : Val (put ch d c) (sh d x) ∧ letterAt (put ch d c) (sh d x) = letterAt ch x := by
  obtain ⟨r, h1, h2⟩ := val_letter hx
  obtain ⟨r', h3, h4, _⟩ := put_get (c := c) h h1
  rw [h2] at h4
  exact letter_of (by rw [sh_fst]; exact h3) h4
end Bm
end
section
set_option Elab.async false
set_option linter.all false
set_option maxRecDepth 100000
set_option maxHeartbeats 1000000
namespace Bm
open PySem
/-- ch' is ch with two ends more, N1 and N2, of the letter c -/
structure Ext (ch ch' : Chart) (t : End → End) (N1 N2 : End) (c : Nat) : Prop where
  val : ∀ x, Val ch x → Val ch' (t x) ∧ letterAt ch' (t x) = letterAt ch x
  inj : ∀ x y, t x = t y → x = y
  v1 : Val ch' N1
  v2 : Val ch' N2
  l1 : letterAt ch' N1 = c
  l2 : letterAt ch' N2 = c
  ne : N1 ≠ N2
  n1 : ∀ x, Val ch x → t x ≠ N1
  n2 : ∀ x, Val ch x → t x ≠ N2
  back : ∀ x, Val ch' x → x = N1 ∨ x = N2 ∨ ∃ y, Val ch y ∧ x = t y
section
variable {ch ch' : Chart} {t : End → End} {N1 N2 : End} {c n m : Nat}
theorem nodup_map_inj {α β : Type} {f : α → β} (h : ∀ x y, f x = f y → x = y) {l : List α} (hl : l.Nodup) : (l.map f).Nodup := by
  rw [List.nodup_iff_pairwise_ne, List.pairwise_map]
  exact (List.nodup_iff_pairwise_ne.mp hl).imp fun hne z => hne (h _ _ z)
theorem Ext.ends (X : Ext ch ch' t N1 N2 c) : (Bm.ends ch').Perm (N1 :: N2 :: (Bm.ends ch).map t) := by
  refine (List.perm_ext_iff_of_nodup (nodup_endsFrom ch' 0) ?_).mpr fun x => ?_
  · refine List.nodup_cons.mpr ⟨fun z => ?_, List.nodup_cons.mpr ⟨fun z => ?_, nodup_map_inj X.inj (nodup_endsFrom ch 0)⟩⟩
    · rcases List.mem_cons.mp z with z | z
      · exact X.ne z
      · obtain ⟨y, hy, e⟩ := List.mem_map.mp z; exact X.n1 y (mem_ends.mp hy) e
    · obtain ⟨y, hy, e⟩ := List.mem_map.mp z; exact X.n2 y (mem_ends.mp hy) e
  · rw [mem_ends]
    constructor
    · intro h
      rcases X.back x h with rfl | rfl | ⟨y, hy, rfl⟩
      · simp
      · simp
      · exact List.mem_cons_of_mem _ (List.mem_cons_of_mem _ (List.mem_map_of_mem (mem_ends.mpr hy)))
    · intro h
      rcases List.mem_cons.mp h with rfl | h
      · exact X.v1
      · rcases List.mem_cons.mp h with rfl | h
        · exact X.v2
        · obtain ⟨y, hy, rfl⟩ := List.mem_map.mp h
          exact (X.val y (mem_ends.mp hy)).1
theorem Ext.other (X : Ext ch ch' t N1 N2 c) (D : Draw ch n) (D' : Draw ch' m) {x : End} (h : Val ch x) : otherEnd ch' (t x) = t (otherEnd ch x) := by
  have o := D.other h
  have o' := D'.other (X.val x h).1
  refine (o'.unique (X.val _ o.val).1 (fun z => o.ne (X.inj _ _ z)) ?_).symm
  rw [(X.val _ o.val).2, (X.val x h).2, o.let_]
theorem cyc_map {f g : End → End} {w : List End} (h : Cyc f w) (e : ∀ x ∈ w, g (t x) = t (f x)) : Cyc g (w.map t) := by
  refine ⟨by simp [h.1], ?_⟩
  rw [List.map_map]
  have e1 : w.map (g ∘ t) = (w.map f).map t := by
    rw [List.map_map]
    exact List.map_congr_left fun x hx => e x hx
  rw [e1, h.2]
  cases w with
  | nil => rfl
  | cons a l => simp [rot1]
/-- one round is replaced by new ones -/
theorem Ext.dec (X : Ext ch ch' t N1 N2 c) {U V new : List (List End)} {w : List End} (h : Dec ch (U ++ w :: V)) (hp : new.flatten.Perm (N1 :: N2 :: w.map t)) (hc : ∀ v ∈ new, Cyc (phi ch') v) (he : ∀ x, Val ch x → phi ch x ∉ w → phi ch' (t x) = t (phi ch x)) :
    Dec ch' (new ++ (U ++ V).map (List.map t)) := by
  have hn := h.nd
  have hdis : ∀ v, v ∈ U ∨ v ∈ V → ∀ x ∈ v, x ∉ w := fun v hv x hx hw => by
    rw [List.flatten_append, List.flatten_cons] at hn
    rcases hv with hv | hv
    · exact (List.nodup_append.mp hn).2.2 x (List.mem_flatten.mpr ⟨v, hv, hx⟩) x (List.mem_append_left _ hw) rfl
    · exact (List.nodup_append.mp (List.nodup_append.mp hn).2.1).2.2 x hw x (List.mem_flatten.mpr ⟨v, hv, hx⟩) rfl
  refine ⟨?_, fun v hv => ?_⟩
  · have e1 : ((U ++ V).map (List.map t)).flatten = (U ++ V).flatten.map t := by rw [List.map_flatten]
    rw [List.flatten_append, e1]
    refine (hp.append_right _).trans ?_
    refine List.Perm.trans ?_ X.ends.symm
    show (N1 :: N2 :: (w.map t ++ (U ++ V).flatten.map t)).Perm _
    refine List.Perm.cons _ (List.Perm.cons _ ?_)
    rw [← List.map_append]
    refine List.Perm.map _ (List.Perm.trans ?_ h.pm)
    rw [List.flatten_append, List.flatten_append, List.flatten_cons]
    have := List.perm_append_comm (l₁ := w) (l₂ := U.flatten)
    have h2 := this.append_right V.flatten
    rw [List.append_assoc, List.append_assoc] at h2
    exact h2
  · rcases List.mem_append.mp hv with hv | hv
    · exact hc v hv
    · obtain ⟨u, hu, rfl⟩ := List.mem_map.mp hv
      have hu' := List.mem_append.mp hu
      have cu : Cyc (phi ch) u := h.cyc u (hu'.elim (fun z => List.mem_append_left _ z) fun z => List.mem_append_right _ (List.mem_cons_of_mem _ z))
      refine cyc_map cu fun x hx => he x ?_ fun z => hdis u hu' _ (cu.nxt hx) z
      have : x ∈ (U ++ w :: V).flatten := List.mem_flatten.mpr ⟨u, hu'.elim (fun z => List.mem_append_left _ z) fun z => List.mem_append_right _ (List.mem_cons_of_mem _ z), hx⟩
      exact mem_ends.mp (h.pm.subset this)
/-- where going on is not what it was -/
def gTo (t : End → End) (d1 d2 N1 N2 : End) (y : End) : End := if y = d1 then N1 else if y = d2 then N2 else t y
theorem gTo_ne {d1 d2 y : End} (h1 : y ≠ d1) (h2 : y ≠ d2) : gTo t d1 d2 N1 N2 y = t y := by
  unfold gTo
  rw [if_neg h1, if_neg h2]
theorem map_g {d1 d2 : End} {l : List End} (h1 : d1 ∉ l) (h2 : d2 ∉ l) : l.map (gTo t d1 d2 N1 N2) = l.map t := by
  refine List.map_congr_left fun x hx => ?_
  exact gTo_ne (fun z => h1 (z ▸ hx)) (fun z => h2 (z ▸ hx))
/-- an inner border between two corners -/
theorem Ext.split (X : Ext ch ch' t N1 N2 c) {ws : List (List End)} {w : List End} {d1 d2 : End} (h : Dec ch ws) (hw : w ∈ ws) (h1 : d1 ∈ w) (h2 : d2 ∈ w) (hne : d1 ≠ d2)
    (hg : ∀ x, Val ch x → phi ch' (t x) = gTo t d1 d2 N1 N2 (phi ch x)) (p1 : phi ch' N1 = t d2) (p2 : phi ch' N2 = t d1) : ∃ ws', Dec ch' ws' ∧ ws'.length = ws.length + 1 := by
  obtain ⟨U, V, rfl⟩ := List.append_of_mem hw
  have cw := h.cyc w hw
  have nw := nodup_of_flat h.nd hw
  obtain ⟨u, v, rfl, cr⟩ := cw.at h1
  have h2' : d2 ∈ v ++ u := by
    rcases List.mem_append.mp h2 with z | z
    · exact List.mem_append_right _ z
    · rcases List.mem_cons.mp z with z | z
      · exact absurd z.symm hne
      · exact List.mem_append_left _ z
  obtain ⟨A, B, eAB⟩ := List.append_of_mem h2'
  rw [eAB] at cr
  have pr : (u ++ d1 :: v).Perm (d1 :: (A ++ d2 :: B)) := by
    rw [← eAB]
    exact List.perm_middle.trans (List.Perm.cons _ List.perm_append_comm)
  have nr : (d1 :: (A ++ d2 :: B)).Nodup := pr.nodup nw
  have vx : ∀ x ∈ d1 :: (A ++ d2 :: B), Val ch x := fun x hx => mem_ends.mp (h.pm.subset (List.mem_flatten.mpr ⟨_, hw, pr.symm.subset hx⟩))
  have n1 := (List.nodup_cons.mp nr).1
  have n2 := (List.nodup_append.mp (List.nodup_cons.mp nr).2)
  have d2A : d2 ∉ A := fun z => n2.2.2 d2 z d2 List.mem_cons_self rfl
  have d2B : d2 ∉ B := (List.nodup_cons.mp n2.2.1).1
  have d1A : d1 ∉ A := fun z => n1 (List.mem_append_left _ z)
  have d1B : d1 ∉ B := fun z => n1 (List.mem_append_right _ (List.mem_cons_of_mem _ z))
  have em : (d1 :: A).map (phi ch) ++ (d2 :: B).map (phi ch) = (A ++ [d2]) ++ (B ++ [d1]) := by
    have := cr.2
    simp only [rot1] at this
    rw [← List.map_append]
    simpa using this
  obtain ⟨em1, em2⟩ := List.append_inj em (by simp)
  have mp : ∀ l : List End, (∀ x ∈ l, Val ch x) → (l.map t).map (phi ch') = (l.map (phi ch)).map (gTo t d1 d2 N1 N2) := fun l hl => by
    rw [List.map_map, List.map_map]
    exact List.map_congr_left fun x hx => hg x (hl x hx)
  have g1 : gTo t d1 d2 N1 N2 d1 = N1 := by unfold gTo; rw [if_pos rfl]
  have g2 : gTo t d1 d2 N1 N2 d2 = N2 := by unfold gTo; rw [if_neg hne.symm, if_pos rfl]
  have c1 : Cyc (phi ch') (N1 :: (d2 :: B).map t) := by
    refine ⟨by simp, ?_⟩
    rw [List.map_cons, mp _ (fun x hx => vx x (List.mem_cons_of_mem _ (List.mem_append_right _ hx))), em2, List.map_append, map_g d1B d2B, p1]
    simp [rot1, g1]
  have c2 : Cyc (phi ch') (N2 :: (d1 :: A).map t) := by
    refine ⟨by simp, ?_⟩
    rw [List.map_cons, mp _ (fun x hx => vx x (by
      rcases List.mem_cons.mp hx with z | z
      · rw [z]; exact List.mem_cons_self
      · exact List.mem_cons_of_mem _ (List.mem_append_left _ z))), em1, List.map_append, map_g d1A d2A, p2]
    simp [rot1, g2]
  refine ⟨_, X.dec (new := [N1 :: (d2 :: B).map t, N2 :: (d1 :: A).map t]) h ?_ (fun v hv => ?_) (fun x hx hn => ?_), ?_⟩
  · have e : ([N1 :: (d2 :: B).map t, N2 :: (d1 :: A).map t] : List (List End)).flatten = N1 :: ((d2 :: B).map t ++ N2 :: (d1 :: A).map t) := by simp
    rw [e]
    refine List.Perm.cons _ (List.perm_middle.trans (List.Perm.cons _ ?_))
    rw [← List.map_append]
    refine List.Perm.map _ (List.Perm.trans ?_ pr.symm)
    have := List.perm_append_comm (l₁ := d2 :: B) (l₂ := d1 :: A)
    simpa using this
  · rcases List.mem_cons.mp hv with rfl | hv
    · exact c1
    · rw [List.mem_singleton.mp hv]; exact c2
  · rw [hg x hx]
    exact gTo_ne (fun z => hn (by rw [z]; exact h1)) (fun z => hn (by rw [z]; exact h2))
  · simp only [List.length_append, List.length_map, List.length_cons, List.length_nil]; omega
end
end Bm
end
section
set_option Elab.async false
set_option linter.all false
set_option maxRecDepth 100000
set_option maxHeartbeats 1000000
namespace Bm
open PySem
/-- reached from the first point, over ends -/
inductive RE (ch : Chart) : Nat → Prop
  | zero : RE ch 0
  | step {e : End} : RE ch e.1 → Val ch e → RE ch (otherEnd ch e).1
theorem RE.lt {ch : Chart} {n : Nat} (D : Draw ch n) {p : Nat} (h : RE ch p) : p < ch.length := by
  cases h with
  | zero =>
    have := D.len
    have := D.n1
    cases ch with
    | nil => simp at *; omega
    | cons _ _ => simp
  | step _ hv =>
    obtain ⟨row, h1, _⟩ := (D.other hv).val
    exact (List.getElem?_eq_some_iff.mp h1).1
def ltE (a b : End) : Prop := a.1 < b.1 ∨ (a.1 = b.1 ∧ a.2 < b.2)
theorem ltE.ne {a b : End} (h : ltE a b) : a ≠ b := fun z => by
  subst z
  rcases h with z | z <;> omega
end Bm
end
section
set_option Elab.async false
set_option linter.all false
set_option maxRecDepth 100000
set_option maxHeartbeats 1000000
namespace Bm
open PySem
theorem mul_small {a b : Int} (h : -(2 ^ 64) < b ∧ b < 2 ^ 64) : dop_mul [.int a, .int b] = some (.int (a * b)) := by
  simp only [dop_mul, guardO]
  rw [if_pos (by rw [Bool.or_eq_true]; exact .inr (decide_eq_true h))]
theorem mul_wide {a b : Int} (ha : a.natAbs < 2 ^ 200) (hb : b.natAbs < 2 ^ 200) : dop_mul [.int a, .int b] = some (.int (a * b)) := by
  simp only [dop_mul, guardO]
  have h : (2 : Nat) ^ 200 < 2 ^ 400 := by decide +kernel
  rw [if_pos (by rw [Bool.or_eq_true]; exact .inl (decide_eq_true ⟨Nat.lt_trans ha h, Nat.lt_trans hb h⟩))]
theorem mod_pos {a b : Int} (h : 0 < b) : dop_mod [.int a, .int b] = some (.int (a % b)) := by
  simp only [dop_mod, guardO, decide_eq_true h, if_true]
theorem fdiv_pos {a b : Int} (h : 0 < b) (h2 : b.natAbs < 2 ^ 200) : dop_fdiv [.int a, .int b] = some (.int (a / b)) := by
  have h3 : (2 : Nat) ^ 200 < 2 ^ 400 := by decide +kernel
  simp only [dop_fdiv, guardO, decide_eq_true (And.intro h (Nat.lt_trans h2 h3)), if_true]
theorem abs_mod {a b : Int} {k : Nat} (h : 0 < b) (hb : b.natAbs < 2 ^ k) : (a % b).natAbs < 2 ^ k := by
  have h1 := Int.emod_nonneg a (by omega : b ≠ 0)
  have h2 := Int.emod_lt_of_pos a h
  omega
theorem m_drawn {n : Nat} (c k : Int) : ∃ v : Int, run T (n + 1) 17 none [.int c, .int k] = .ok (.int v, []) := by
  rw [run_fn T__law_drawn rfl rfl]
  unfold b__law_drawn
  have a1 : dop_mul [.int c, .int 6364136223846793005] = some (.int (c * 6364136223846793005)) := mul_small (by decide)
  have a2 : dop_mul [.int (k + 1), .int 1442695040888963407] = some (.int ((k + 1) * 1442695040888963407)) := mul_small (by decide)
  have a3 : dop_mod [.int (c * 6364136223846793005 + (k + 1) * 1442695040888963407), .int 340282366920938463463374607431768211507] = some (.int ((c * 6364136223846793005 + (k + 1) * 1442695040888963407) % 340282366920938463463374607431768211507)) := mod_pos (by decide)
  have b1 : ((c * 6364136223846793005 + (k + 1) * 1442695040888963407) % 340282366920938463463374607431768211507).natAbs < 2 ^ 200 := abs_mod (by decide) (by decide +kernel)
  generalize (c * 6364136223846793005 + (k + 1) * 1442695040888963407) % 340282366920938463463374607431768211507 = m1 at *
  have a4 := mul_wide b1 b1
  have a5 : dop_mod [.int (m1 * m1), .int 340282366920938463463374607431768211297] = some (.int ((m1 * m1) % 340282366920938463463374607431768211297)) := mod_pos (by decide)
  have b2 : ((m1 * m1) % 340282366920938463463374607431768211297).natAbs < 2 ^ 130 := abs_mod (by decide) (by decide +kernel)
  have b3 : 0 ≤ (m1 * m1) % 340282366920938463463374607431768211297 := Int.emod_nonneg _ (by decide)
  generalize (m1 * m1) % 340282366920938463463374607431768211297 = m2 at *
  have a6 : dop_mod [.int m2, .int 18446744073709551557] = some (.int (m2 % 18446744073709551557)) := mod_pos (by decide)
  have a7 : dop_fdiv [.int m2, .int 18446744073709551557] = some (.int (m2 / 18446744073709551557)) := fdiv_pos (by decide) (by decide +kernel)
  have b4 : 0 ≤ m2 % 18446744073709551557 ∧ m2 % 18446744073709551557 < 18446744073709551557 := ⟨Int.emod_nonneg _ (by decide), Int.emod_lt_of_pos _ (by decide)⟩
  have b5 : 0 ≤ m2 / 18446744073709551557 ∧ m2 / 18446744073709551557 ≤ m2 := ⟨Int.ediv_nonneg b3 (by decide), Int.ediv_le_self _ b3⟩
  generalize m2 % 18446744073709551557 = p at *
  generalize m2 / 18446744073709551557 = q at *
  have p130 : (2 : Nat) ^ 130 = 1361129467683753853853498429727072845824 := by decide +kernel
  have p200 : (2 : Nat) ^ 200 = 1606938044258990275541962092341162602522202993782792835301376 := by decide +kernel
  rw [p130] at b2
  have b6 : (p + 1).natAbs < 2 ^ 200 := by rw [p200]; omega
  have b7 : (q + 1).natAbs < 2 ^ 200 := by rw [p200]; omega
  have a8 := mul_wide b6 b7
  have b8 : ((p + 1) * (q + 1)).natAbs < 2 ^ 200 := by
    rw [Int.natAbs_mul]
    have h1 : (p + 1).natAbs ≤ 18446744073709551557 := by omega
    have h2 : (q + 1).natAbs ≤ 1361129467683753853853498429727072845824 := by omega
    calc (p + 1).natAbs * (q + 1).natAbs ≤ 18446744073709551557 * 1361129467683753853853498429727072845824 := Nat.mul_le_mul h1 h2
      _ < 2 ^ 200 := by decide +kernel
  have b9 : m2.natAbs < 2 ^ 200 := by rw [p200]; omega
  have a9 := mul_wide b8 b9
  have a10 : dop_mod [.int ((p + 1) * (q + 1) * m2), .int 340282366920938463463374607431768211507] = some (.int ((p + 1) * (q + 1) * m2 % 340282366920938463463374607431768211507)) := mod_pos (by decide)
  refine ⟨(p + 1) * (q + 1) * m2 % 340282366920938463463374607431768211507, ?_⟩
  simp [denS, e_op, e_cons, e_nil, e_var, e_lit, getS, opD, a1, a2, a3, a4, a5, a6, a7, a8, a9, a10, dop_add, bindT, putS, endOf]
theorem m_roll {n : Nat} (c k : Int) {m : Nat} (h0 : 0 < m) (h1 : m ≤ 1000) : ∃ v : Nat, ∃ c' k' : Int, v < m ∧ run T (n + 2) 18 (some [.int c, .int k]) [dI m] = .ok (dI v, [.int c', .int k']) := by
  rw [run_io T__law_roll rfl rfl]
  unfold b__law_roll
  have hp : dop_pow [.int 10, .int 18] = some (.int 1000000000000000000) := by simp [dop_pow, guardO]
  have hm : (0 : Int) < (m : Int) := by omega
  have hb : ((m : Int)).natAbs < 2 ^ 200 := Nat.lt_of_le_of_lt (show _ ≤ 1000 by omega) (by decide +kernel)
  by_cases hc : (1000000000000000000 : Int) ≤ c
  · have a1 : dop_mod [.int c, dI m] = some (dI (c % m).toNat) := by
      have := mod_pos (a := c) hm
      have h2 := Int.emod_nonneg c (by omega : (m : Int) ≠ 0)
      have e : (((c % (m : Int)).toNat : Nat) : Int) = c % (m : Int) := Int.toNat_of_nonneg h2
      show dop_mod [.int c, .int (m : Int)] = some (.int ((c % (m : Int)).toNat : Nat))
      rw [this, e]
    have a2 : dop_fdiv [.int c, dI m] = some (.int (c / m)) := fdiv_pos hm hb
    refine ⟨(c % m).toNat, c / m, k, ?_, ?_⟩
    · have := Int.emod_nonneg c (by omega : (m : Int) ≠ 0)
      have := Int.emod_lt_of_pos c hm
      omega
    · generalize (c % (m : Int)).toNat = v at *
      simp [denS, e_op, e_cons, e_nil, e_var, e_lit, e_oitem, getS, isOwnL, opD, hp, dop_ge, hc, a1, a2, ixOf, bindT, putS, nd, endOf]
  · obtain ⟨v, hv⟩ := m_drawn (n := n) c (k + 1)
    have a1 : dop_fdiv [.int v, .int 8] = some (.int (v / 8)) := fdiv_pos (by decide) (by decide +kernel)
    have a2 : dop_mod [.int (v / 8), dI m] = some (dI (v / 8 % m).toNat) := by
      have := mod_pos (a := v / 8) hm
      have h2 := Int.emod_nonneg (v / 8) (by omega : (m : Int) ≠ 0)
      have e : (((v / 8 % (m : Int)).toNat : Nat) : Int) = v / 8 % (m : Int) := Int.toNat_of_nonneg h2
      show dop_mod [.int (v / 8), .int (m : Int)] = some (.int ((v / 8 % (m : Int)).toNat : Nat))
      rw [this, e]
    refine ⟨(v / 8 % m).toNat, c, k + 1, ?_, ?_⟩
    · have := Int.emod_nonneg (v / 8) (by omega : (m : Int) ≠ 0)
      have := Int.emod_lt_of_pos (v / 8) hm
      omega
    · generalize (v / 8 % (m : Int)).toNat = u at *
      simp [denS, e_op, e_cons, e_nil, e_var, e_lit, e_oitem, e_call, getS, isOwnL, opD, hp, dop_ge, hc, hv, a1, a2, ixOf, bindT, putS, nd, dop_add, endOf]
end Bm
end
section
set_option Elab.async false
set_option linter.all false
set_option maxRecDepth 100000
set_option maxHeartbeats 1000000
namespace Bm
open PySem
namespace Q21
def isX (x : R (D × Env)) (k : Nat) : Bool := match x with
  | .exc c => c == k
  | _ => false
theorem isX_ok {x : R (D × Env)} {k : Nat} (h : isX x k = true) : x = .exc k := by
  cases x with
  | exc c => simp only [isX, beq_iff_eq] at h; rw [h]
  | ok p => cases h
  | stuck => cases h
def one : D := .tuple [dS [97], dS [97]]
def wide : D := .tuple [dS [97, 97, 98, 98, 99, 99, 100, 100, 101, 101, 102, 102, 103, 103, 104, 104]]
def R0 (v : Nat) : Env := [.un, .un, .sh (.int (9 + (v : Int))), .sh one, .sh wide, .un, .un, .un]
def nthS : Nat → S → S
  | 0, .seq a _ => a
  | n + 1, .seq _ b => nthS n b
  | _, s => s
def metE : S → E
  | .metN _ e => e
  | .metA _ e => e
  | _ => .nil
def ex (j : Nat) : E := metE (nthS (j + 1) b_law_k21)
theorem x0 : ∀ v, v < 90 → isX (den (run T 20) (ex 0) (R0 v)) 0 = true := by decide +kernel
theorem x1 : ∀ v, v < 90 → isX (den (run T 20) (ex 1) (R0 v)) 1 = true := by decide +kernel
theorem x2 : ∀ v, v < 90 → isX (den (run T 20) (ex 2) (R0 v)) 2 = true := by decide +kernel
theorem x3 : ∀ v, v < 90 → isX (den (run T 20) (ex 3) (R0 v)) 3 = true := by decide +kernel
theorem x4 : ∀ v, v < 90 → isX (den (run T 20) (ex 4) (R0 v)) 4 = true := by decide +kernel
theorem x5 : ∀ v, v < 90 → isX (den (run T 20) (ex 5) (R0 v)) 5 = true := by decide +kernel
theorem x6 : ∀ v, v < 90 → isX (den (run T 20) (ex 6) (R0 v)) 6 = true := by decide +kernel
/-- the calls that do not look at the number -/
theorem x7 (v : Nat) : isX (den (run T 20) (ex 7) (R0 v)) 7 = true := by kernel_rfl
theorem x8 (v : Nat) : isX (den (run T 20) (ex 8) (R0 v)) 8 = true := by kernel_rfl
theorem x9 (v : Nat) : isX (den (run T 20) (ex 9) (R0 v)) 9 = true := by kernel_rfl
theorem x10 (v : Nat) : isX (den (run T 20) (ex 10) (R0 v)) 10 = true := by kernel_rfl
theorem x11 (v : Nat) : isX (den (run T 20) (ex 11) (R0 v)) 11 = true := by kernel_rfl
theorem x12 (v : Nat) : isX (den (run T 20) (ex 12) (R0 v)) 12 = true := by kernel_rfl
theorem metN_step {call : CallS} {i k : Nat} {e : E} {r h : Env} (hh : hidE r = h) (hk : k < 13) (x : isX (den call e h) k = true) : denS call (.metN i e) r = .nxt (putS r i (.exs [k])) := by
  simp only [denS, hh, isX_ok x, if_pos hk]
theorem metA_step {call : CallS} {i k : Nat} {e : E} {r h : Env} {l : List Nat} (hh : hidE r = h) (hl : getS r i = .exs l) (hk : k < 13 ∧ l.length < 1000) (x : isX (den call e h) k = true) : denS call (.metA i e) r = .nxt (putS r i (.exs (l ++ [k]))) := by
  simp only [denS, hh, hl, isX_ok x, if_pos hk]
theorem seq_step {call : CallS} {a b : S} {r r1 : Env} (h : denS call a r = .nxt r1) : denS call (.seq a b) r = denS call b r1 := by
  simp only [denS, h]
def R1 (c k : Int) (v : Nat) (s : Slot) : Env := [.un, .own [.int c, .int k], .sh (.int (9 + (v : Int))), .sh one, .sh wide, s, .un, .un]
theorem hid1 (c k : Int) (v : Nat) (l : List Nat) : hidE (R1 c k v (.exs l)) = R0 v := rfl
theorem stepA {c k : Int} {v j : Nat} {l : List Nat} {e : E} {b : S} (hj : j < 13) (hl : l.length < 1000) (x : isX (den (run T 20) e (R0 v)) j = true) : denS (run T 20) (.seq (.metA 5 e) b) (R1 c k v (.exs l)) = denS (run T 20) b (R1 c k v (.exs (l ++ [j]))) :=
  seq_step (metA_step (i := 5) (hid1 c k v l) rfl ⟨hj, hl⟩ x)
def eA : E := .op .mkt (.cons (.lit (dS [97])) (.cons (.lit (dS [97])) .nil))
def eB : E := .op .mkt (.cons (.lit (dS [97, 97, 98, 98, 99, 99, 100, 100, 101, 101, 102, 102, 103, 103, 104, 104])) .nil)
theorem den_A {call : CallS} {r : Env} : den call eA r = .ok (one, r) := rfl
theorem den_B {call : CallS} {r : Env} : den call eB r = .ok (wide, r) := rfl
theorem par_gen {call : CallS} {x a b : E} {r r1 : Env} {v : Nat} {da db : D} (e : den call x r = .ok (dI v, r1)) (ha : den call a r1 = .ok (da, r1)) (hb : den call b r1 = .ok (db, r1)) :
    denS call (.par [(2, 0), (3, 0), (4, 0)] (.cons (.op .add (.cons (.lit (.int 9)) (.cons x .nil))) (.cons a (.cons b .nil)))) r = .nxt (putS (putS (putS r1 2 (.sh (.int (9 + (v : Int))))) 3 (.sh da)) 4 (.sh db)) := by
  have o : opD .add [.int 9, dI v] = some (.int (9 + (v : Int))) := rfl
  simp only [denS, den, e, ha, hb, R.ok_bind, o, R.opt_some, putPar, slotM]
theorem io_step {call : CallS} {c a b : Int} {v : Nat} (hr : call 18 (some [.int c, .int 0]) [.int 90] = .ok (dI v, [.int a, .int b])) : den call (.callIO 18 1 (.cons (.lit (.int 90)) .nil)) (env0 8 c) = .ok (dI v, [.un, .own [.int a, .int b], .un, .un, .un, .un, .un, .un]) := by
  have e1 : getS (env0 8 c) 1 = .own [.int c, .int 0] := rfl
  simp only [den, e1, isOwnL, if_true, R.ok_bind, hr]
  rfl
theorem par_step (c : Int) : ∃ v : Nat, v < 90 ∧ ∃ c' k' : Int, denS (run T 20) (nthS 0 b_law_k21) (env0 8 c) = .nxt (R1 c' k' v .un) := by
  obtain ⟨v, c', k', hv, hr⟩ := m_roll (n := 18) c 0 (m := 90) (by decide) (by decide)
  refine ⟨v, hv, c', k', ?_⟩
  exact par_gen (x := .callIO 18 1 (.cons (.lit (.int 90)) .nil)) (a := eA) (b := eB) (io_step hr) den_A den_B
end Q21
open Q21 in
theorem k21_good : Good (run T 20) 8 b_law_k21 := by
  intro c
  obtain ⟨v, hv, c', k', h⟩ := par_step c
  refine ⟨R1 c' k' v (.exs [0, 1, 2, 3, 4, 5, 6, 7, 8, 9, 10, 11, 12]), ?_, rfl⟩
  refine (seq_step (a := nthS 0 b_law_k21) h).trans ?_
  refine (seq_step (a := .metN 5 (ex 0)) (metN_step (i := 5) (h := R0 v) rfl (by decide) (x0 v hv))).trans ?_
  refine (stepA (e := ex 1) (l := [0]) (by decide) (by decide) (x1 v hv)).trans ?_
  refine (stepA (e := ex 2) (l := [0, 1]) (by decide) (by decide) (x2 v hv)).trans ?_
  refine (stepA (e := ex 3) (l := [0, 1, 2]) (by decide) (by decide) (x3 v hv)).trans ?_
  refine (stepA (e := ex 4) (l := [0, 1, 2, 3]) (by decide) (by decide) (x4 v hv)).trans ?_
  refine (stepA (e := ex 5) (l := [0, 1, 2, 3, 4]) (by decide) (by decide) (x5 v hv)).trans ?_
  refine (stepA (e := ex 6) (l := [0, 1, 2, 3, 4, 5]) (by decide) (by decide) (x6 v hv)).trans ?_
  refine (stepA (e := ex 7) (l := [0, 1, 2, 3, 4, 5, 6]) (by decide) (by decide) (x7 v)).trans ?_
  refine (stepA (e := ex 8) (l := [0, 1, 2, 3, 4, 5, 6, 7]) (by decide) (by decide) (x8 v)).trans ?_
  refine (stepA (e := ex 9) (l := [0, 1, 2, 3, 4, 5, 6, 7, 8]) (by decide) (by decide) (x9 v)).trans ?_
  refine (stepA (e := ex 10) (l := [0, 1, 2, 3, 4, 5, 6, 7, 8, 9]) (by decide) (by decide) (x10 v)).trans ?_
  refine (stepA (e := ex 11) (l := [0, 1, 2, 3, 4, 5, 6, 7, 8, 9, 10]) (by decide) (by decide) (x11 v)).trans ?_
  refine (stepA (e := ex 12) (l := [0, 1, 2, 3, 4, 5, 6, 7, 8, 9, 10, 11]) (by decide) (by decide) (x12 v)).trans ?_
  rfl
end Bm
end
set_option maxRecDepth 100000 in
set_option maxHeartbeats 0 in
theorem PySem.Challenge.cw_ballmaps_k21_errors_apart_holds : PySem.Challenge.rw_ballmaps_k21_errors_apart.Holds := by
  exact Bm.Lk21.holds_of Bm.k21_good
