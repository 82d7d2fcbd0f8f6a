import PyProof.Rows.All
import Wide.All
import OpenK.AllK
import Wide.FinOn
import KE.KStateDown
import Lean
import HandS.Base
import HandS.Head0
import HandS.Head1
import HandS.Head2
import HandS.HeadEnd
import HandS.ForMost
import HandS.Evl
import HandS.TupAny
import HandS.TupMul
import HandS.IsInst
import HandS.Wide
import HandS.RaiseMore
import HandS.Style
import HandS.Walk
import HandS.Zip
import KE.GoesEnum
import KE.GoesMore
import HandS.Rev
import HandS.ReSub
import HandS.DictComp
import HandS.ExcOwn
import HandS.TryMany
import HandS.Small
import KE.KExcSuper
import KE.KSuper
import HandS.ExcSuper
import HandS.Lambda
import HandS.EndBits
import HandS.HeadHook4
import PySem.Challenge.RW_standsfirm_k56_whole_towers
set_option Elab.async false
set_option linter.all false
set_option maxRecDepth 100000
set_option maxHeartbeats 0
set_option exponentiation.threshold 10000
/-! A small language of immutable data, and how it runs: plain Lean, no machine in sight. -/
namespace SF
open PySem

abbrev D := PyData

/-- how a run ends: a value, an exception of an own class (by its place) with its arguments, or nothing that is told -/
inductive R (α : Type) where
  | ok (a : α)
  | ex (c : Nat) (ds : List D)
  | no
def R.bind {α β : Type} : R α → (α → R β) → R β
  | .ok a, f => f a
  | .ex c ds, _ => .ex c ds
  | .no, _ => .no
/-- exceptions become nothing (a comprehension lets none out) -/
def R.calm {α : Type} : R α → R α
  | .ok a => .ok a
  | _ => .no
def R.of {α : Type} : Option α → R α
  | some a => .ok a
  | none => .no
@[simp] theorem R.bind_ok {α β : Type} (a : α) (f : α → R β) : (R.ok a).bind f = f a := rfl
@[simp] theorem R.bind_ex {α β : Type} (c : Nat) (ds : List D) (f : α → R β) : (R.ex c ds : R α).bind f = .ex c ds := rfl
@[simp] theorem R.bind_no {α β : Type} (f : α → R β) : (R.no : R α).bind f = .no := rfl
theorem R.bind_assoc {α β γ : Type} (r : R α) (f : α → R β) (g : β → R γ) : (r.bind f).bind g = r.bind fun a => (f a).bind g := by cases r <;> rfl
@[simp] theorem R.calm_ok {α : Type} (a : α) : (R.ok a).calm = .ok a := rfl
@[simp] theorem R.calm_ex {α : Type} (c : Nat) (ds : List D) : (R.ex c ds : R α).calm = .no := rfl
@[simp] theorem R.calm_no {α : Type} : (R.no : R α).calm = .no := rfl
@[simp] theorem R.of_some {α : Type} (a : α) : R.of (some a) = .ok a := rfl
@[simp] theorem R.of_none {α : Type} : R.of (none : Option α) = .no := rfl

/-- a local name: not there; a value that may be shared; a list or dict that this frame alone holds; one that the caller lent to be changed -/
inductive Slot where
  | emp
  | val (d : D)
  | own (d : D)
  | io (d : D)
abbrev Nv := List Slot
def Slot.d : Slot → Option D
  | .emp => none
  | .val d => some d
  | .own d => some d
  | .io d => some d
/-- the value of a name, as a thing that is only looked at -/
def peek (nv : Nv) (i : Nat) : R D := R.of (nv[i]?.bind Slot.d)
/-- the value of a name, as a thing that may be kept elsewhere -/
def leak (nv : Nv) (i : Nat) : R (D × Nv) :=
  match nv[i]? with
  | some (.val d) => .ok (d, nv)
  | some (.own d) => .ok (d, nv.set i (.val d))
  | _ => .no
def put (nv : Nv) (i : Nat) (d : D) (ow : Bool) : R Nv :=
  match nv[i]? with
  | some (.io _) => .no
  | some _ => .ok (nv.set i (if ow then .own d else .val d))
  | none => .no
/-- a change of a list or dict that is held -/
def alter (nv : Nv) (i : Nat) (f : D → R D) : R Nv :=
  match nv[i]? with
  | some (.own d) => (f d).bind fun e => .ok (nv.set i (.own e))
  | some (.io d) => (f d).bind fun e => .ok (nv.set i (.io e))
  | _ => .no

inductive Ty where
  | int | bool | str | tuple | list
  deriving DecidableEq, Repr
inductive Op1 where
  | neg | len | abs | int | str | repr | all | any | sum | min | max | sorted | tuple | list | isi (t : Ty) | isN | notN | rev
  deriving Repr
inductive Op2 where
  | add | sub | mul | fdiv | mod | pow | shl | shr | band | bor
  | eq | ne | lt | le | gt | ge | isin | notin
  | at | min | max | get | index | count | join
  deriving DecidableEq, Repr
inductive Op3 where
  | get
  deriving DecidableEq, Repr

mutual
inductive Tg where
  | n (i : Nat)
  | t (l : Tgs)
inductive Tgs where
  | nil
  | cons (a : Tg) (l : Tgs)
end
mutual
inductive CE where
  | k (d : D)
  | v (i : Nat)
  | g (x : Str) (d : D)
  | o1 (o : Op1) (a : CE)
  | o2 (o : Op2) (a b : CE)
  | o3 (o : Op3) (a b c : CE)
  | sl (a : CE) (lo hi : CO)
  | ch (o p : Op2) (a b c : CE)
  | and (a b : CE)
  | or (a b : CE)
  | not (a : CE)
  | ite (t a b : CE)
  | tup (es : CEs)
  | lst (es : CEs)
  | dct (kvs : CEs)
  | call (f : Nat) (es : CEs)
  | lc (own : List Nat) (tg : Tg) (it : CI) (cond elt : CE)
  | dc (own : List Nat) (tg : Tg) (it : CI) (cond key elt : CE)
  | pop0 (i : Nat)
  | pop (i : Nat) (a : CE)
inductive CEs where
  | nil
  | cons (e : CE) (es : CEs)
inductive CO where
  | no
  | so (e : CE)
inductive CI where
  | seq (e : CE)
  | rng (es : CEs)
  | enm (e : CE)
  | zip2 (a b : CE)
  | rev (e : CE)
end
mutual
inductive CS where
  | set (tg : Tg) (e : CE)
  | aug (i : Nat) (o : Op2) (e : CE)
  | app (i : Nat) (e : CE)
  | put (i : Nat) (k e : CE)
  | expr (e : CE)
  | ret (e : CE)
  | mv (i : Nat)
  | retN
  | ite (t : CE) (a b : CSs)
  | for (tg : Tg) (it : CI) (body : CSs)
  | whl (t : CE) (body : CSs)
  | raise (c : Nat) (es : CEs)
  | try (body : CSs) (hs : List (Nat × Hx))
  | brk
  | cont
  | pass
inductive CSs where
  | nil
  | cons (s : CS) (ss : CSs)
/-- what an except suite hands back: a text, an attribute of the error (by its place), a tuple of such -/
inductive Hx where
  | k (d : D)
  | a (j : Nat)
  | t (l : List Hx)
end

/-! ### operations on data -/
def lim : Nat := 10000000
def asInts : List D → Option (List Int)
  | [] => some []
  | .int i :: l => (asInts l).map (i :: ·)
  | _ :: _ => none
def asStrs : List D → Option (List Str)
  | [] => some []
  | .str i :: l => (asStrs l).map (i :: ·)
  | _ :: _ => none
def asBools : List D → Option (List Bool)
  | [] => some []
  | .bool i :: l => (asBools l).map (i :: ·)
  | _ :: _ => none
def asPairs : List D → Option (List (Int × Int))
  | [] => some []
  | .tuple [.int a, .int b] :: l => (asPairs l).map ((a, b) :: ·)
  | _ :: _ => none
def isTy : Ty → D → Bool
  | .int, .int _ => true
  | .int, .bool _ => true
  | .bool, .bool _ => true
  | .str, .str _ => true
  | .tuple, .tuple _ => true
  | .list, .list _ => true
  | _, _ => false
def truth : D → Option Bool
  | .none => some false
  | .bool b => some b
  | .int i => some (i != 0)
  | .str s => if s.length ≤ lim then some ((s.length : Int) != 0) else none
  | .list l => some (!l.isEmpty)
  | .tuple l => some (!l.isEmpty)
  | .dict l => some (!l.isEmpty)
/-- the items of what is walked -/
def items : D → Option (List D)
  | .list l => some l
  | .tuple l => some l
  | .str s => some (s.cps.toList.map fun c => .str ⟨#[c]⟩)
  | _ => none
def maxL : Int → List Int → Int
  | m, [] => m
  | m, a :: l => maxL (if a > m then a else m) l
def minL : Int → List Int → Int
  | m, [] => m
  | m, a :: l => minL (if a < m then a else m) l
def insBy {α : Type} (le : α → α → Bool) (x : α) : List α → List α
  | [] => [x]
  | y :: l => if le x y then x :: y :: l else y :: insBy le x l
/-- sorting, stable -/
def sortBy {α : Type} (le : α → α → Bool) : List α → List α
  | [] => []
  | x :: l => insBy le x (sortBy le l)
def pairLe (a b : Int × Int) : Bool := decide (a.1 < b.1) || (decide (a.1 = b.1) && decide (a.2 ≤ b.2))
def strLe (a b : Str) : Bool := !decide (b.cps.toList < a.cps.toList)
def isFlat : D → Bool
  | .none => true
  | .bool _ => true
  | .int _ => true
  | .str _ => true
  | _ => false
def eqOk (d e : D) : Bool := (isFlat d && isFlat e) || (SeqAt.shaped d && SeqAt.shaped e)
/-- keys of a dict: asInts and texts, or tuples of them -/
def isKey : D → Bool
  | .int _ => true
  | .str _ => true
  | _ => false
def isKeyT : D → Bool
  | .tuple l => l.all isKey
  | _ => false
def keyEq : D → D → Bool
  | .int a, .int b => a == b
  | .str a, .str b => a == b
  | .tuple a, .tuple b => a.length == b.length && (a.zip b).all fun p => match p with
    | (.int x, .int y) => x == y
    | (.str x, .str y) => x == y
    | _ => false
  | _, _ => false
def dGet (k : D) : List (D × D) → Option D
  | [] => none
  | (a, b) :: l => if keyEq k a then some b else dGet k l
def dPut (k v : D) (l : List (D × D)) : List (D × D) := if l.any (fun p => keyEq k p.1) then l.map (fun p => if keyEq k p.1 then (p.1, v) else p) else l ++ [(k, v)]
def dPuts : List (D × D) → List (D × D) → List (D × D)
  | acc, [] => acc
  | acc, (k, v) :: l => dPuts (dPut k v acc) l
/-- k1, v1, k2, v2, .. -/
def twos : List D → Option (List (D × D))
  | [] => some []
  | a :: b :: l => (twos l).map ((a, b) :: ·)
  | _ => none
abbrev O := R (D × Bool)
def val (d : D) : O := .ok (d, false)
def new (d : D) : O := .ok (d, true)
def op1 : Op1 → D → O
  | .neg, .int i => val (.int (-i))
  | .len, .list l => val (.int l.length)
  | .len, .tuple l => val (.int l.length)
  | .len, .str s => if s.length ≤ lim then val (.int s.length) else .no
  | .len, .dict l => val (.int l.length)
  | .abs, .int i => val (.int (if i < 0 then -i else i))
  | .int, .int i => val (.int i)
  | .int, .bool b => val (.int (if b then 1 else 0))
  | .str, .int i => if i.natAbs.log2 < 1920 then val (.str (toString i)) else .no
  | .str, .str s => val (.str s)
  | .repr, d => if d.showable && !d.hasDict && decide (d.depth ≤ 64) && decide (d.shown.length ≤ sizeLine) then val (.str d.shown) else .no
  | .all, .list l => (R.of (asBools l)).bind fun bs => val (.bool (bs.all id))
  | .any, .list l => (R.of (asBools l)).bind fun bs => val (.bool (bs.any id))
  | .sum, .list l => (R.of (asInts l)).bind fun is => val (.int is.sum)
  | .min, .list l => (R.of (asInts l)).bind fun is => match is with
    | [] => .no
    | a :: r => val (.int (minL a r))
  | .max, .list l => (R.of (asInts l)).bind fun is => match is with
    | [] => .no
    | a :: r => val (.int (maxL a r))
  | .tuple, .list l => val (.tuple l)
  | .tuple, .tuple l => val (.tuple l)
  | .list, .list l => new (.list l)
  | .list, .tuple l => new (.list l)
  | .isi t, d => val (.bool (isTy t d))
  | .isN, .none => val (.bool true)
  | .isN, _ => val (.bool false)
  | .notN, .none => val (.bool false)
  | .notN, _ => val (.bool true)
  | _, _ => .no
def orderI : Op2 → Int → Int → Option Bool
  | .lt, i, j => some (decide (i < j))
  | .le, i, j => some (decide (i ≤ j))
  | .gt, i, j => some (decide (j < i))
  | .ge, i, j => some (decide (j ≤ i))
  | _, _, _ => none
def orderS : Op2 → Str → Str → Option Bool
  | .lt, i, j => some (decide (i.cps.toList < j.cps.toList))
  | .le, i, j => some (!decide (j.cps.toList < i.cps.toList))
  | .gt, i, j => some (decide (j.cps.toList < i.cps.toList))
  | .ge, i, j => some (!decide (i.cps.toList < j.cps.toList))
  | _, _, _ => none
def order (o : Op2) : D → D → O
  | .int i, .int j => (R.of (orderI o i j)).bind fun b => val (.bool b)
  | .str i, .str j => (R.of (orderS o i j)).bind fun b => val (.bool b)
  | _, _ => .no
/-- x in what: a dict's keys, a list or tuple of like things, a text's signs -/
def isin (d : D) : D → R Bool
  | .dict l => if isKey d then .ok (dGet d l).isSome else .no
  | .list l => if isFlat d && l.all isFlat then .ok (l.any fun e => PyData.eqv e d) else .no
  | .tuple l => if isFlat d && l.all isFlat then .ok (l.any fun e => PyData.eqv e d) else .no
  | .str s => match d with
    | .str ⟨#[c]⟩ => .ok (decide (c ∈ s.cps.toList))
    | _ => .no
  | _ => .no
def op2 : Op2 → D → D → O
  | .add, .int i, .int j => val (.int (i + j))
  | .add, .str i, .str j => if i.length + j.length ≤ lim then val (.str (i ++ j)) else .no
  | .add, .list i, .list j => if i.length + j.length ≤ lim then new (.list (i ++ j)) else .no
  | .add, .tuple i, .tuple j => if i.length + j.length ≤ lim then val (.tuple (i ++ j)) else .no
  | .sub, .int i, .int j => val (.int (i - j))
  | .mul, .int i, .int j => if i.natAbs.log2 + j.natAbs.log2 < 1000000 then val (.int (i * j)) else .no
  | .mul, .list l, .int k => if 0 ≤ k ∧ k ≤ 1000 ∧ l.length ≤ 1000 then new (.list (List.replicate k.toNat l).flatten) else .no
  | .mul, .tuple l, .int k => if 1 ≤ k ∧ k ≤ 1000 ∧ 1 ≤ l.length ∧ l.length ≤ 1000 then val (.tuple (List.replicate k.toNat l).flatten) else .no
  | .mul, .str l, .int k => if 2 ≤ k ∧ k ≤ 1000 ∧ 1 ≤ l.length ∧ l.length ≤ 1000 then val (.str ⟨(List.replicate k.toNat l.cps).foldl (· ++ ·) #[]⟩) else .no
  | .fdiv, .int i, .int j => if 0 < j then (if j.natAbs.log2 < 9000 then val (.int (i / j)) else .no) else if j ≠ 0 ∧ j.natAbs < 1073741824 then val (.int (i.fdiv j)) else .no
  | .mod, .int i, .int j => if 0 < j then val (.int (i % j)) else if j ≠ 0 then val (.int (i.fmod j)) else .no
  | .pow, .int i, .int j => if 0 ≤ j ∧ j ≤ 1000000 ∧ i.natAbs < 2 ^ 64 then val (.int (i ^ j.toNat)) else .no
  | .shl, .int i, .int j => if 0 ≤ j ∧ j ≤ 1000000 ∧ i.natAbs < 2 ^ 64 then val (.int (i * 2 ^ j.toNat)) else .no
  | .shr, .int i, .int j => if 0 ≤ j then val (.int (i / 2 ^ j.toNat)) else .no
  | .band, .int i, .int j => val (.int (Builtin.bitAnd i j))
  | .bor, .int i, .int j => val (.int (Builtin.bitOr i j))
  | .eq, d, e => if eqOk d e then val (.bool (PyData.eqv d e)) else .no
  | .ne, d, e => if eqOk d e then val (.bool (!PyData.eqv d e)) else .no
  | .isin, d, e => (isin d e).bind fun b => val (.bool b)
  | .notin, d, e => (isin d e).bind fun b => val (.bool (!b))
  | .at, .list l, .int i => (R.of (L2.atI l i)).bind val
  | .at, .tuple l, .int i => (R.of (L2.atI l i)).bind val
  | .at, .str s, .int i => if s.length ≤ lim then (R.of (L2.atI s.cps.toList i)).bind fun c => val (.str ⟨#[c]⟩) else .no
  | .at, .dict l, k => if isKey k then (R.of (dGet k l)).bind val else .no
  | .min, .int i, .int j => val (.int (if j < i then j else i))
  | .max, .int i, .int j => val (.int (if j > i then j else i))
  | .lt, d, e => order .lt d e
  | .le, d, e => order .le d e
  | .gt, d, e => order .gt d e
  | .ge, d, e => order .ge d e
  | _, _, _ => .no
def cutL {α : Type} (xs : List α) (lo hi : Option Int) : List α := (xs.drop (HT.sIx xs.length 0 lo)).take (HT.sIx xs.length xs.length hi - HT.sIx xs.length 0 lo)
def cutD (d : D) (lo hi : Option Int) : O := match d with
  | .list l => new (.list (cutL l lo hi))
  | .tuple l => val (.tuple (cutL l lo hi))
  | .str s => if s.length ≤ lim then val (.str ⟨(cutL s.cps.toList lo hi).toArray⟩) else .no
  | _ => .no
/-- values without a list or dict within -/
def still : D → Bool
  | .list _ => false
  | .dict _ => false
  | .tuple l => stillAll l
  | _ => true
where stillAll : List D → Bool
  | [] => true
  | d :: l => still d && stillAll l

/-- .. in a list or dict -/
def stillIn : D → Bool
  | .list l => still.stillAll l
  | .dict l => l.all fun p => still p.2
  | _ => true
def op3 : Op3 → D → D → D → O
  | .get, .dict l, k, x => if isKey k && still x then val ((dGet k l).getD x) else .no
  | _, _, _, _ => .no
/-! ### running -/
mutual
/-- a value is given to a target (name slots of the io kind are never stored) -/
def asg : Tg → D → Bool → Nv → R Nv
  | .n i, d, ow, nv => put nv i d ow
  | .t l, .tuple ds, _, nv => asgs l ds nv
  | .t _, _, _, _ => .no
def asgs : Tgs → List D → Nv → R Nv
  | .nil, [], nv => .ok nv
  | .cons a l, d :: ds, nv => (asg a d false nv).bind fun nv1 => asgs l ds nv1
  | _, _, _ => .no
end
/-- a list that this frame holds, or was lent to be changed -/
def listAt (nv : Nv) (i : Nat) : Bool := match nv[i]? with
  | some (.own (.list _)) => true
  | some (.io (.list _)) => true
  | _ => false
structure Ret where
  d : D
  ow : Bool
  outs : List D
abbrev Call := Nat → List D → R Ret
/-- an operand that is a name is read when all have been reckoned -/
def fin (e : CE) (nv : Nv) (d : D) : R D := match e with
  | .v i => peek nv i
  | _ => .ok d
def fins : CEs → Nv → List D → R (List D)
  | .nil, _, [] => .ok []
  | .cons e es, nv, d :: ds => (fin e nv d).bind fun x => (fins es nv ds).bind fun xs => .ok (x :: xs)
  | _, _, _ => .no
/-- comprehensions: the own names are empty at each turn; what they held comes back at the end -/
def blank : List Nat → Nv → Nv
  | [], nv => nv
  | i :: l, nv => (blank l nv).set i .emp
def blankOk (own : List Nat) (nv : Nv) : Bool := own.all fun i => match nv[i]? with
  | some .emp => true
  | some (.val _) => true
  | _ => false
def back : List Nat → Nv → Nv → Nv
  | [], _, nv => nv
  | i :: l, old, nv => (back l old nv).set i (old.getD i .emp)
/-- the names of a target -/
def tgAll (p : Nat → Bool) : Tg → Bool
  | .n i => p i
  | .t l => tgsAll l
where tgsAll : Tgs → Bool
  | .nil => true
  | .cons a l => tgAll p a && tgsAll l
def lcR (turn : D → Nv → R (Option D × Nv)) : List D → List D → Nv → R (List D × Nv)
  | [], acc, nv => .ok (acc, nv)
  | d :: ds, acc, nv => (turn d nv).bind fun r => match r.1 with
    | some x => if acc.length < lim then lcR turn ds (acc ++ [x]) r.2 else .no
    | none => lcR turn ds acc r.2
def dcR (turn : D → Nv → R (Option (D × D) × Nv)) : List D → List (D × D) → Nv → R (List (D × D) × Nv)
  | [], acc, nv => .ok (acc, nv)
  | d :: ds, acc, nv => (turn d nv).bind fun r => match r.1 with
    | some kx => if isKey kx.1 && decide (acc.length < lim) then dcR turn ds (dPut kx.1 kx.2 acc) r.2 else .no
    | none => dcR turn ds acc r.2
def enumL (l : List D) : List D := l.zipIdx.map fun p => .tuple [.int (p.2 : Nat), p.1]
def rangeL (a b : Int) : List D := (List.range (b - a).toNat).map fun i => .int (a + (i : Nat))
/-- range(a, b, -1) -/
def rangeD (a b : Int) : List D := (List.range (a - b).toNat).map fun i => .int (a + (i : Nat) * (-1))
def smallI (a : Int) : Bool := decide (-(2 ^ 40) ≤ a) && decide (a < 2 ^ 40)
def argAt : CEs → Nat → Option CE
  | .nil, _ => none
  | .cons e _, 0 => some e
  | .cons _ es, j + 1 => argAt es j
def CEs.len : CEs → Nat
  | .nil => 0
  | .cons _ es => es.len + 1
def Slot.own? : Slot → Bool
  | .own _ => true
  | _ => false
def Slot.holds : Slot → Bool
  | .own _ => true
  | .io _ => true
  | _ => false
def holdsAt (nv : Nv) (i : Nat) : Bool := match nv[i]? with
  | some s => s.holds
  | none => false
def ownAt (nv : Nv) (i : Nat) : Bool := match nv[i]? with
  | some s => s.own?
  | none => false
/-- the name that stands at an argument's place -/
def nameAt (es : CEs) (j : Nat) : Option Nat := match argAt es j with
  | some (.v i) => some i
  | _ => none
/-- the names whose things are lent, not to be changed -/
def lent (io : List Nat) (nv : Nv) (es : CEs) : List Nat := (List.range es.len).filterMap fun j => if io.contains j then none else (nameAt es j).bind fun i => if holdsAt nv i then some i else none
/-- a lent thing that may be held elsewhere behind the call is shared from then on -/
def share : List Nat → Nv → Nv
  | [], nv => nv
  | i :: l, nv => match (share l nv)[i]? with
    | some (.own d) => (share l nv).set i (.val d)
    | _ => share l nv
def handOut : List (Nat × D) → Nv → R Nv
  | [], nv => .ok nv
  | (i, d) :: l, nv => match nv[i]? with
    | some (.own _) => handOut l (nv.set i (.own d))
    | some (.io _) => handOut l (nv.set i (.io d))
    | _ => .no
structure Fn where
  n : Nat
  np : Nat
  io : List Nat
  body : CSs
section
variable (T : List Fn) (call : Call)
/-- what is lent and what is changed are told apart -/
def callOk (io : List Nat) (nv : Nv) (es : CEs) : Bool :=
  (io.all fun j => match nameAt es j with
    | some i => holdsAt nv i && !(lent io nv es).contains i
    | none => false) && (lent io nv es).all (ownAt nv) && decide io.Nodup && io.all fun j => io.all fun k => j == k || !(nameAt es j == nameAt es k)
/-- behind the arguments: the call, and what it leaves of the names -/
def callFn (f : Nat) (es : CEs) (ds : List D) (nv : Nv) : R (D × Bool × Nv) :=
  (R.of (T[f]?)).bind fun fn => if callOk fn.io nv es then (call f ds).bind fun r =>
      if r.outs.length = fn.io.length then (handOut ((fn.io.map fun j => (nameAt es j).getD 0).zip r.outs) (if still r.d && r.outs.all stillIn then nv else share (lent fn.io nv es) nv)).bind fun nv2 => .ok (r.d, r.ow, nv2) else .no
    else .no
/-- a value's way, and a test's way -/
structure EvB where
  v : Nv → R (D × Bool × Nv)
  t : Nv → R (Bool × Nv)
def EvB.plain (f : Nv → R (D × Bool × Nv)) : EvB := ⟨f, fun nv => (f nv).bind fun r => (R.of (truth r.1)).bind fun b => .ok (b, r.2.2)⟩
/-- an operand: a name is looked at, not leaked -/
def opd (e : CE) (f : Nv → R (D × Bool × Nv)) (nv : Nv) : R (D × Nv) := match e with
  | .v i => (peek nv i).bind fun d => .ok (d, nv)
  | _ => (f nv).bind fun r => .ok (r.1, r.2.2)
mutual
def evB : CE → EvB
  | .k d => .plain fun nv => .ok (d, false, nv)
  | .v i => ⟨fun nv => (leak nv i).bind fun r => .ok (r.1, false, r.2), fun nv => (peek nv i).bind fun d => (R.of (truth d)).bind fun b => .ok (b, nv)⟩
  | .g _ d => .plain fun nv => .ok (d, false, nv)
  | .o1 o a => .plain fun nv => (opd a (evB a).v nv).bind fun r => (fin a r.2 r.1).bind fun x => (op1 o x).bind fun q => .ok (q.1, q.2, r.2)
  | .o2 o a b => .plain fun nv => (opd a (evB a).v nv).bind fun r => (opd b (evB b).v r.2).bind fun r2 => (fin a r2.2 r.1).bind fun x => (fin b r2.2 r2.1).bind fun y => (op2 o x y).bind fun q => .ok (q.1, q.2, r2.2)
  | .o3 o a b c => .plain fun nv => (opd a (evB a).v nv).bind fun r => (opd b (evB b).v r.2).bind fun r2 => (opd c (evB c).v r2.2).bind fun r3 =>
      (fin a r3.2 r.1).bind fun x => (fin b r3.2 r2.1).bind fun y => (fin c r3.2 r3.1).bind fun z => (op3 o x y z).bind fun q => .ok (q.1, q.2, r3.2)
  | .ch o p a b c => .plain fun nv => (opd a (evB a).v nv).bind fun r => (opd b (evB b).v r.2).bind fun r2 => (fin a r2.2 r.1).bind fun x => (fin b r2.2 r2.1).bind fun y => (op2 o x y).bind fun q => match q.1 with
      | .bool true => (opd c (evB c).v r2.2).bind fun r3 => (fin b r3.2 r2.1).bind fun y => (fin c r3.2 r3.1).bind fun z => (op2 p y z).bind fun q => .ok (q.1, q.2, r3.2)
      | .bool false => .ok (.bool false, false, r2.2)
      | _ => .no
  | .sl a lo hi => .plain fun nv => (opd a (evB a).v nv).bind fun r => (evP lo r.2).bind fun l => (evP hi l.2).bind fun h => (fin a h.2 r.1).bind fun x => (cutD x l.1 h.1).bind fun q => .ok (q.1, q.2, h.2)
  | .and a b => ⟨fun nv => ((evB a).v nv).bind fun r => match r.1 with
      | .bool true => (evB b).v r.2.2
      | .bool false => .ok (.bool false, false, r.2.2)
      | _ => .no, fun nv => ((evB a).t nv).bind fun r => if r.1 then (evB b).t r.2 else .ok (false, r.2)⟩
  | .or a b => ⟨fun nv => ((evB a).v nv).bind fun r => match r.1 with
      | .bool false => (evB b).v r.2.2
      | .bool true => .ok (.bool true, false, r.2.2)
      | _ => .no, fun nv => ((evB a).t nv).bind fun r => if r.1 then .ok (true, r.2) else (evB b).t r.2⟩
  | .not a => ⟨fun nv => ((evB a).v nv).bind fun r => match r.1 with
      | .bool b => .ok (.bool !b, false, r.2.2)
      | _ => .no, fun nv => ((evB a).t nv).bind fun r => .ok (!r.1, r.2)⟩
  | .ite t a b => ⟨fun nv => ((evB t).t nv).bind fun r => if r.1 then (evB a).v r.2 else (evB b).v r.2, fun nv => ((evB t).t nv).bind fun r => if r.1 then (evB a).t r.2 else (evB b).t r.2⟩
  | .tup es => .plain fun nv => (evs es nv).bind fun r => .ok (.tuple r.1, false, r.2)
  | .lst es => .plain fun nv => (evs es nv).bind fun r => .ok (.list r.1, true, r.2)
  | .dct kvs => .plain fun nv => (evs kvs nv).bind fun r => (R.of (twos r.1)).bind fun ps => if ps.all (fun p => isKey p.1) && decide (ps.length ≤ 15) then .ok (.dict (dPuts [] ps), true, r.2) else .no
  | .call f es => .plain fun nv => (evAs es nv).bind fun r => (fins es r.2 r.1).bind fun ds => callFn T call f es ds r.2
  | .lc own tg it cond elt => .plain fun nv => (evI it nv).bind fun r => if blankOk own r.2 then
      ((lcR (fun d n => (asg tg d false (blank own n)).bind fun n1 => ((evB cond).t n1).bind fun b => if b.1 then ((evB elt).v b.2).bind fun x => .ok (some x.1, x.2.2) else .ok (none, b.2)) r.1 [] r.2).calm).bind
        fun q => .ok (.list q.1, true, back own r.2 q.2)
    else .no
  | .dc own tg it cond key elt => .plain fun nv => (evI it nv).bind fun r => if blankOk own r.2 then
      ((dcR (fun d n => (asg tg d false (blank own n)).bind fun n1 => ((evB cond).t n1).bind fun b => if b.1 then ((evB key).v b.2).bind fun k => ((evB elt).v k.2.2).bind fun x => .ok (some (k.1, x.1), x.2.2) else .ok (none, b.2)) r.1 [] r.2).calm).bind
        fun q => .ok (.dict q.1, true, back own r.2 q.2)
    else .no
  | .pop0 i => .plain fun nv => (peek nv i).bind fun d => match d with
      | .list l => (R.of l.getLast?).bind fun x => (alter nv i fun _ => .ok (.list l.dropLast)).bind fun nv1 => .ok (x, false, nv1)
      | _ => .no
  | .pop i a => .plain fun nv => ((evB a).v nv).bind fun r => (peek r.2.2 i).bind fun d => match d, r.1 with
      | .list l, .int j => if smallI j then (R.of (seqIndex? j l.length)).bind fun m => (R.of l[m]?).bind fun x => (alter r.2.2 i fun _ => .ok (.list (l.eraseIdx m))).bind fun nv2 => .ok (x, false, nv2) else .no
      | _, _ => .no
def evP : CO → Nv → R (Option Int × Nv)
  | .no, nv => .ok (none, nv)
  | .so e, nv => ((evB e).v nv).bind fun r => match r.1 with
      | .int i => .ok (some i, r.2.2)
      | _ => .no
/-- values that are kept -/
def evs : CEs → Nv → R (List D × Nv)
  | .nil, nv => .ok ([], nv)
  | .cons e es, nv => ((evB e).v nv).bind fun r => (evs es r.2.2).bind fun q => .ok (r.1 :: q.1, q.2)
/-- arguments: names are lent -/
def evAs : CEs → Nv → R (List D × Nv)
  | .nil, nv => .ok ([], nv)
  | .cons e es, nv => (opd e (evB e).v nv).bind fun r => (evAs es r.2).bind fun q => .ok (r.1 :: q.1, q.2)
def evI : CI → Nv → R (List D × Nv)
  | .seq e, nv => ((evB e).v nv).bind fun r => (R.of (items r.1)).bind fun l => .ok (l, r.2.2)
  | .rng es, nv => (evs es nv).bind fun r => match r.1 with
      | [.int b] => if smallI b then .ok (rangeL 0 b, r.2) else .no
      | [.int a, .int b] => if smallI a && smallI b then .ok (rangeL a b, r.2) else .no
      | [.int a, .int b, .int c] => if smallI a && smallI b && decide (c = -1) then .ok (rangeD a b, r.2) else .no
      | _ => .no
  | .enm e, nv => ((evB e).v nv).bind fun r => match r.1 with
      | .list l => .ok (enumL l, r.2.2)
      | .tuple l => .ok (enumL l, r.2.2)
      | _ => .no
  | .zip2 a b, nv => ((evB a).v nv).bind fun r => ((evB b).v r.2.2).bind fun q => match r.1, q.1 with
      | .list l, .list m => .ok ((l.zip m).map fun p => .tuple [p.1, p.2], q.2.2)
      | .tuple l, .tuple m => .ok ((l.zip m).map fun p => .tuple [p.1, p.2], q.2.2)
      | _, _ => .no
  | .rev e, nv => ((evB e).v nv).bind fun r => match r.1 with
      | .list l => .ok (l.reverse, r.2.2)
      | _ => .no
end
def ev (e : CE) (nv : Nv) : R (D × Bool × Nv) := (evB T call e).v nv
/-- a test -/
def evT (e : CE) (nv : Nv) : R (Bool × Nv) := (evB T call e).t nv
def evO (e : CE) (nv : Nv) : R (D × Nv) := opd e (evB T call e).v nv
inductive Fl where
  | nx | br | ct
  | rt (d : D) (ow : Bool)
def whR (t : Nv → R (Bool × Nv)) (b : Nv → R (Fl × Nv)) : Nat → Nv → R (Fl × Nv)
  | 0, _ => .no
  | m + 1, nv => (t nv).bind fun r => if r.1 then (b r.2).bind fun q => match q.1 with
      | .nx => whR t b m q.2
      | .ct => whR t b m q.2
      | .br => .ok (.nx, q.2)
      | .rt d ow => .ok (.rt d ow, q.2)
    else .ok (.nx, r.2)
def foR (b : D → Nv → R (Fl × Nv)) : List D → Nv → R (Fl × Nv)
  | [], nv => .ok (.nx, nv)
  | d :: ds, nv => (b d nv).bind fun r => match r.1 with
      | .nx => foR b ds r.2
      | .ct => foR b ds r.2
      | .br => .ok (.nx, r.2)
      | .rt d ow => .ok (.rt d ow, r.2)
def hx : List D → Hx → Option D
  | _, .k d => some d
  | ds, .a j => ds[j]?
  | ds, .t l => (hxs ds l).map .tuple
where hxs : List D → List Hx → Option (List D)
  | _, [] => some []
  | ds, h :: l => (hx ds h).bind fun d => (hxs ds l).map (d :: ·)
/-- a loop's turns: at most these many, by the whole numbers at hand -/
def fuel : Nv → Nat
  | [] => 0
  | s :: r => (match s.d with
    | some (.int i) => i.natAbs
    | _ => 0) + fuel r
variable (sub : Nat → Nat → Bool) (W : Nat)
def caught (c : Nat) (ds : List D) (nv : Nv) : List (Nat × Hx) → R (Fl × Nv)
  | [] => .ex c ds
  | (h, x) :: l => if sub c h then (R.of (hx ds x)).bind fun d => .ok (.rt d false, nv.map fun _ => .emp) else caught c ds nv l
mutual
def exS : CS → Nv → R (Fl × Nv)
  | .set tg e, nv => (ev T call e nv).bind fun r => (asg tg r.1 r.2.1 r.2.2).bind fun nv2 => .ok (.nx, nv2)
  | .aug _ _ _, _ => .no
  | .app i e, nv => if listAt nv i then (ev T call e nv).bind fun r => (alter r.2.2 i fun l => match l with
      | .list l => if l.length < lim then .ok (.list (l ++ [r.1])) else .no
      | _ => .no).bind fun nv2 => .ok (.nx, nv2) else .no
  | .put i k e, nv => if holdsAt nv i then (ev T call e nv).bind fun r => (ev T call k r.2.2).bind fun q => (alter q.2.2 i fun l => match l, q.1 with
      | .list l, .int j => (R.of (L2.ixN l.length j)).bind fun m => .ok (.list (l.set m r.1))
      | .dict l, k => if isKey k && decide (l.length < lim) then .ok (.dict (dPut k r.1 l)) else .no
      | _, _ => .no).bind fun nv3 => .ok (.nx, nv3) else .no
  | .expr e, nv => (ev T call e nv).bind fun r => .ok (.nx, r.2.2)
  | .ret e, nv => (ev T call e nv).bind fun r => .ok (.rt r.1 r.2.1, r.2.2)
  | .mv i, nv => match nv[i]? with
      | some (.own d) => .ok (.rt d true, nv.set i .emp)
      | some (.val d) => .ok (.rt d false, nv)
      | _ => .no
  | .retN, nv => .ok (.rt .none false, nv)
  | .ite t a b, nv => (evT T call t nv).bind fun r => if r.1 then exs a r.2 else exs b r.2
  | .for tg it body, nv => (evI T call it nv).bind fun r => foR (fun d n => (asg tg d false n).bind fun n1 => exs body n1) r.1 r.2
  | .whl t body, nv => whR (evT T call t) (exs body) (W + fuel nv) nv
  | .raise c es, nv => (evs T call es nv).bind fun r => .ex c r.1
  | .try body hs, nv => match exs body nv with
      | .ex c ds => caught sub c ds nv hs
      | r => r
  | .brk, nv => .ok (.br, nv)
  | .cont, nv => .ok (.ct, nv)
  | .pass, nv => .ok (.nx, nv)
def exs : CSs → Nv → R (Fl × Nv)
  | .nil, nv => .ok (.nx, nv)
  | .cons s ss, nv => (exS s nv).bind fun r => match r.1 with
      | .nx => exs ss r.2
      | f => .ok (f, r.2)
end
end
def Slot.ioD : Slot → Option D
  | .io d => some d
  | _ => none
def outsOf (io : List Nat) (nv : Nv) : Option (List D) := io.mapM fun j => nv[j]?.bind Slot.ioD
def entry (fn : Fn) (ds : List D) : Nv := (ds.zipIdx.map fun p => if fn.io.contains p.2 then Slot.io p.1 else Slot.val p.1) ++ List.replicate (fn.n - ds.length) .emp
def retOf : Fl → List D → R Ret
  | .rt d ow, os => .ok ⟨d, ow, os⟩
  | .nx, os => .ok ⟨.none, false, os⟩
  | _, _ => .no
def run (T : List Fn) (sub : Nat → Nat → Bool) (W : Nat) : Nat → Call
  | 0 => fun _ _ => .no
  | m + 1 => fun f ds => (R.of (T[f]?)).bind fun fn => if ds.length = fn.np then
      (exs T (run T sub W m) sub W fn.body (entry fn ds)).bind fun r => (R.of (outsOf fn.io r.2)).bind fun os => retOf r.1 os
    else .no
end SF

/-! From the machine's syntax to the small language. -/
namespace SF
open PySem

structure CC where
  N : List Str
  sc : Scope
  fns : List Str
  con : List (Str × D)
  exs : List Str
  flds : List Str
def idxOf? (x : Str) (l : List Str) : Option Nat := let i := l.idxOf x; if i < l.length then some i else none
def CC.seen (c : CC) (x : Str) : Bool := match c.sc.names.lookup x with
  | some .local => true
  | some .cell => true
  | some .free => true
  | _ => false
def okName (x : Str) : Bool := !(x == ("__debug__" : Str)) && !(x == ("__classdict__" : Str)) && !(x == ("__name__" : Str))
def CC.slot (c : CC) (x : Str) : Option Nat := if c.seen x && okName x then idxOf? x c.N else none
/-- a name that is stored: a local or a cell of this block -/
def CC.loc (c : CC) (x : Str) : Option Nat := if (match c.sc.names.lookup x with | some .local => true | some .cell => true | _ => false) && okName x then idxOf? x c.N else none
def CC.gl (c : CC) (x : Str) : Bool := (match c.sc.names.lookup x with | some .globalImplicit => true | _ => false) && okName x
/-- a built-in by its name -/
def CC.blt (c : CC) (x : Str) : Bool := c.gl x && !c.fns.contains x && !c.exs.contains x && !(c.con.map (·.1)).contains x
def opB : Operator → Option Op2
  | .Add => some .add
  | .Sub => some .sub
  | .Mult => some .mul
  | .FloorDiv => some .fdiv
  | .Mod => some .mod
  | .Pow => some .pow
  | .LShift => some .shl
  | .RShift => some .shr
  | .BitAnd => some .band
  | .BitOr => some .bor
  | _ => none
def opC : CmpOp → Option Op2
  | .Eq => some .eq
  | .NotEq => some .ne
  | .Lt => some .lt
  | .LtE => some .le
  | .Gt => some .gt
  | .GtE => some .ge
  | .In => some .isin
  | .NotIn => some .notin
  | _ => none
def ownOf (N : List Str) (scope : Scope) : List (Str × Nat) := scope.names.filterMap fun y => match y.2 with
  | .local => (idxOf? y.1 N).map fun i => (y.1, i)
  | .cell => (idxOf? y.1 N).map fun i => (y.1, i)
  | _ => none
def b1 (x : Str) : Option Op1 :=
  if x = ("len" : Str) then some .len else if x = ("abs" : Str) then some .abs else if x = ("int" : Str) then some .int else if x = ("str" : Str) then some .str
  else if x = ("repr" : Str) then some .repr else if x = ("all" : Str) then some .all else if x = ("any" : Str) then some .any else if x = ("sum" : Str) then some .sum
  else if x = ("min" : Str) then some .min else if x = ("max" : Str) then some .max else if x = ("tuple" : Str) then some .tuple
  else if x = ("list" : Str) then some .list else none
def b2 (x : Str) : Option Op2 := if x = ("min" : Str) then some .min else if x = ("max" : Str) then some .max else none
def tyOf (x : Str) : Option Ty := if x = ("int" : Str) then some .int else if x = ("bool" : Str) then some .bool else if x = ("str" : Str) then some .str else if x = ("tuple" : Str) then some .tuple else if x = ("list" : Str) then some .list else none
mutual
def cTg : Nat → CC → Expr → Option Tg
  | 0, _, _ => none
  | n + 1, c, .Name x _ => (c.loc x).map .n
  | n + 1, c, .Tuple es _ _ => (cTgs n c es).map .t
  | _ + 1, _, _ => none
def cTgs : Nat → CC → List Expr → Option Tgs
  | 0, _, _ => none
  | _ + 1, _, [] => some .nil
  | n + 1, c, e :: es => (cTg n c e).bind fun a => (cTgs n c es).map fun l => .cons a l
end
def isTup : Expr → Bool
  | .Tuple _ _ _ => true
  | _ => false
mutual
def cE : Nat → CC → Expr → Option CE
  | 0, _, _ => none
  | n + 1, c, e => match e with
    | .Name x _ => match c.slot x with
      | some i => some (.v i)
      | none => if c.gl x then (c.con.lookup x).map fun d => .g x d else none
    | .Constant k _ _ => match k with
      | .int i => some (.k (.int i))
      | .str s => some (.k (.str s))
      | .bool b => some (.k (.bool b))
      | .none => some (.k .none)
      | _ => none
    | .BinOp a o b _ => (opB o).bind fun o => (cE n c a).bind fun a => (cE n c b).bind fun b => some (.o2 o a b)
    | .UnaryOp o a _ => match o with
      | .USub => (cE n c a).map (.o1 .neg)
      | .Not => (cE n c a).map .not
      | _ => none
    | .BoolOp o es pos => match o, es with
      | .And, [a] => cE n c a
      | .Or, [a] => cE n c a
      | .And, a :: b :: r => (cE n c a).bind fun x => (cE n c (.BoolOp .And (b :: r) pos)).map fun y => .and x y
      | .Or, a :: b :: r => (cE n c a).bind fun x => (cE n c (.BoolOp .Or (b :: r) pos)).map fun y => .or x y
      | _, _ => none
    | .IfExp t a b _ => (cE n c t).bind fun t => (cE n c a).bind fun a => (cE n c b).bind fun b => some (.ite t a b)
    | .Compare a ops bs _ => match ops, bs with
      | [o], [b] => match o, b with
        | .Is, .Constant .none _ _ => (cE n c a).map (.o1 .isN)
        | .IsNot, .Constant .none _ _ => (cE n c a).map (.o1 .notN)
        | o, b => (opC o).bind fun o => (cE n c a).bind fun a => (cE n c b).bind fun b => some (.o2 o a b)
      | [o, p], [b, d] => (opC o).bind fun o => (opC p).bind fun p => (cE n c a).bind fun a => (cE n c b).bind fun b => (cE n c d).bind fun d => some (.ch o p a b d)
      | _, _ => none
    | .Tuple es _ _ => if es.length ≤ 1000 then (cEs n c es).map .tup else none
    | .List es _ => if es.length ≤ 1000 then (cEs n c es).map .lst else none
    | .Dict ks vs _ => if decide (ks.length ≤ 15) && !ks.isEmpty then (cKs n c ks vs).map .dct else none
    | .Subscript a b _ => match b with
      | .Slice lo hi st _ => match st with
        | none => (cE n c a).bind fun a => (cO n c lo).bind fun lo => (cO n c hi).map fun hi => .sl a lo hi
        | some _ => none
      | b => (cE n c a).bind fun a => (cE n c b).map fun b => .o2 .at a b
    | .ListComp elt gs scope _ => match gs with
      | [⟨tg, iter, ifs, 0⟩] =>
        let own := ownOf c.N scope
        let c' := { c with sc := L2.relS scope c.sc }
        if L2.blkC c.N c.sc scope own then (cI n c tg iter).bind fun it => (cTg n c' tg).bind fun tg => (cIf n c' ifs).bind fun t => (cE n c' elt).bind fun e => if tgAll (fun i => (own.map (·.2)).contains i) tg then some (.lc (own.map (·.2)) tg it t e) else none else none
      | _ => none
    | .DictComp k v gs scope _ => match gs with
      | [⟨tg, iter, ifs, 0⟩] =>
        let own := ownOf c.N scope
        let c' := { c with sc := L2.relS scope c.sc }
        if L2.blkC c.N c.sc scope own then (cI n c tg iter).bind fun it => (cTg n c' tg).bind fun tg => (cIf n c' ifs).bind fun t => (cE n c' k).bind fun k => (cE n c' v).bind fun e => if tgAll (fun i => (own.map (·.2)).contains i) tg then some (.dc (own.map (·.2)) tg it t k e) else none else none
      | _ => none
    | .Call f args kws pos => match kws with
      | [] => match f with
        | .Name x _ => cCall n c x args
        | .Attribute o m ap => if ap.endLine == pos.line then cMeth n c o m args else none
        | _ => none
      | _ => none
    | _ => none
def cO : Nat → CC → Option Expr → Option CO
  | 0, _, _ => none
  | _ + 1, _, none => some .no
  | n + 1, c, some e => (cE n c e).map .so
def cIf : Nat → CC → List Expr → Option CE
  | 0, _, _ => none
  | _ + 1, _, [] => some (.k (.bool true))
  | n + 1, c, [e] => cE n c e
  | _ + 1, _, _ => none
def cCall : Nat → CC → Str → List Expr → Option CE
  | 0, _, _, _ => none
  | n + 1, c, x, args => if c.gl x then match idxOf? x c.fns with
      | some f => if args.isEmpty then none else (cEs n c args).map (.call f)
      | none => if c.blt x then match args with
        | [a] => (b1 x).bind fun o => (cE n c a).map (.o1 o)
        | [a, b] => if x = ("isinstance" : Str) then match b with
            | .Name t _ => if c.blt t then (tyOf t).bind fun t => (cE n c a).map (.o1 (.isi t)) else none
            | _ => none
          else (b2 x).bind fun o => (cE n c a).bind fun a => (cE n c b).map fun b => .o2 o a b
        | _ => none
      else none
    else none
def cMeth : Nat → CC → Expr → Str → List Expr → Option CE
  | 0, _, _, _, _ => none
  | n + 1, c, o, m, args => match o, args with
    | .Dict ks vs p, [a, b] => if m = ("get" : Str) then (cE n c (.Dict ks vs p)).bind fun o => (cE n c a).bind fun a => (cE n c b).map fun b => .o3 .get o a b else none
    | _, _ => none
def cEs : Nat → CC → List Expr → Option CEs
  | 0, _, _ => none
  | _ + 1, _, [] => some .nil
  | n + 1, c, e :: es => (cE n c e).bind fun a => (cEs n c es).map fun l => .cons a l
def cKs : Nat → CC → List (Option Expr) → List Expr → Option CEs
  | 0, _, _, _ => none
  | _ + 1, _, [], [] => some .nil
  | n + 1, c, some k :: ks, v :: vs => (cE n c k).bind fun k => (cE n c v).bind fun v => (cKs n c ks vs).map fun l => .cons k (.cons v l)
  | _ + 1, _, _, _ => none
def cI : Nat → CC → Expr → Expr → Option CI
  | 0, _, _, _ => none
  | n + 1, c, tg, e => match e with
    | .Call (.Name x p) args [] pos => if c.blt x then
        if x = ("range" : Str) then (if args.length ≤ 3 then (cEs n c args).map .rng else none)
        else if x = ("enumerate" : Str) then match args with
          | [a] => if isTup tg then (cE n c a).map .enm else none
          | _ => none
        else if x = ("zip" : Str) then match args with
          | [a, b] => if isTup tg then (cE n c a).bind fun a => (cE n c b).map fun b => .zip2 a b else none
          | _ => none
        else if x = ("reversed" : Str) then match args with
          | [a] => (cE n c a).map .rev
          | _ => none
        else (cE n c (.Call (.Name x p) args [] pos)).map .seq
      else (cE n c (.Call (.Name x p) args [] pos)).map .seq
    | e => (cE n c e).map .seq
end
mutual
/-- what an except suite hands back; y the error's name, m its field -/
def cHx : Nat → Str → Str → Expr → Option Hx
  | 0, _, _, _ => none
  | n + 1, y, m, e => match e with
    | .Constant k _ _ => match k with
      | .int i => some (.k (.int i))
      | .str s => some (.k (.str s))
      | .bool b => some (.k (.bool b))
      | .none => some (.k .none)
      | _ => none
    | .Attribute (.Name x _) m' _ => if x = y ∧ m' = m then some (.a 0) else none
    | .Tuple es _ _ => if es.length ≤ 1000 then (cHxs n y m es).map .t else none
    | _ => none
def cHxs : Nat → Str → Str → List Expr → Option (List Hx)
  | 0, _, _, _ => none
  | _ + 1, _, _, [] => some []
  | n + 1, y, m, e :: es => (cHx n y m e).bind fun a => (cHxs n y m es).map fun l => a :: l
end
/-- a, b = x, y: two local names on one line, or none that are stored from the right -/
def parOk (c : CC) (ts vs : List Expr) : Bool := match ts, vs with
  | [.Name x px, .Name y py], [a, b] => decide (c.sc.names.lookup x = some .local) && decide (c.sc.names.lookup y = some .local) && px.line == py.line && !(x == y) &&
      !((foldedForSure 8 a) && (foldedForSure 8 b)) && !((constantsAlone 8 a) && (constantsAlone 8 b))
  | _, _ => false
mutual
def cS : Nat → CC → Stmt → Option CS
  | 0, _, _ => none
  | n + 1, c, s => match s with
    | .Assign [tg] e _ => match tg with
      | .Subscript (.Name x _) k _ => (c.slot x).bind fun i => (cE n c k).bind fun k => (cE n c e).map fun e => .put i k e
      | .Tuple ts k1 p1 => match e with
        | .Tuple vs k2 p2 => if parOk c ts vs then (cTg n c (.Tuple ts k1 p1)).bind fun tg => (cE n c (.Tuple vs k2 p2)).map fun e => .set tg e else none
        | e => (cTg n c (.Tuple ts k1 p1)).bind fun tg => (cE n c e).map fun e => .set tg e
      | .Name x p => match e with
        | .DictComp _ _ _ _ _ => none
        | e => (cTg n c (.Name x p)).bind fun tg => (cE n c e).map fun e => .set tg e
      | _ => none
    | .Expr e _ => match e with
      | .ListComp _ _ _ _ => none
      | .DictComp _ _ _ _ _ => none
      | .Call (.Attribute (.Name x p) m ap) [a] [] cp => if m = ("append" : Str) then (if ap.endLine == cp.line then (c.slot x).bind fun i => (cE n c a).map fun a => .app i a else none) else none
      | e => (cE n c e).map .expr
    | .Return (some e) _ => match e with
      | .Name x _ => match c.slot x with
        | some i => some (.mv i)
        | none => (cE n c e).map .ret
      | e => (cE n c e).map .ret
    | .Return none _ => some .retN
    | .If t a b _ => (cE n c t).bind fun t => (cSs n c a).bind fun a => (cSs n c b).map fun b => .ite t a b
    | .For tg it b [] _ => (cI n c tg it).bind fun it => (cTg n c tg).bind fun tg => (cSs n c b).map fun b => .for tg it b
    | .While t b [] _ => (cE n c t).bind fun t => (cSs n c b).map fun b => .whl t b
    | .Raise (some (.Call (.Name x _) args [] _)) none _ => if c.gl x && args.length == 1 then (idxOf? x c.exs).bind fun k => (cEs n c args).map fun es => .raise k es else none
    | .Try b hs [] [] _ => if hs.isEmpty then none else (cSs n c b).bind fun b => (cHs n c hs).map fun hs => .try b hs
    | .Break _ => some .brk
    | .Continue _ => some .cont
    | .Pass _ => some .pass
    | _ => none
def cSs : Nat → CC → List Stmt → Option CSs
  | 0, _, _ => none
  | _ + 1, _, [] => some .nil
  | n + 1, c, s :: ss => (cS n c s).bind fun a => (cSs n c ss).map fun l => .cons a l
def cHs : Nat → CC → List ExceptHandler → Option (List (Nat × Hx))
  | 0, _, _ => none
  | _ + 1, _, [] => some []
  | n + 1, c, .ExceptHandler (some (.Name x _)) (some y) [.Return (some e) _] _ :: hs => if c.gl x && (c.loc y).isSome && (match c.sc.names.lookup y with | some .local => true | _ => false) then (idxOf? x c.exs).bind fun k => (c.flds[k]?).bind fun m => (cHx n y m e).bind fun h => (cHs n c hs).map fun l => (k, h) :: l else none
  | _ + 1, _, _ => none
end
/-- all comprehensions' names of a body -/
def argNames (a : Arguments) : List Str := a.args.map (·.arg)
structure Src where
  args : Arguments
  body : List Stmt
  sc : Scope
def cFn (N : List Str) (fns : List Str) (con : List (Str × D)) (exs flds : List Str) (io : List Nat) (s : Src) : Option Fn :=
  (cSs 200 ⟨N, s.sc, fns, con, exs, flds⟩ s.body).map fun b => ⟨N.length, (argNames s.args).length, io, b⟩
end SF

/-! How data stand in the abstract heap. F: what may be shared (it never changes again); H: all that is tracked. -/
namespace SF
open PySem PySem.Spec PyProof.Rows L2
open Evl (Ex)

def keyD : Key → D
  | .inl i => .int i
  | .inr s => .str s
mutual
inductive Rp (K : PySem.W.Frag) (F : Hp) : V → D → Prop
  | non : Rp K F .non .none
  | bl (b : Bool) : Rp K F (.bl b) (.bool b)
  | int (i : Int) : Rp K F (.int i) (.int i)
  | str (s : Str) : Rp K F (.str s) (.str s)
  | lst {a : Addr} {xs : List V} {ds : List D} : Rd F a (.lst xs) → RpA K F xs ds → Rp K F (.ref a) (.list ds)
  | tup {a : Addr} {xs : List V} {ds : List D} : SqT K F a xs → RpA K F xs ds → Rp K F (.ref a) (.tuple ds)
  | dic {a : Addr} {kvs : List (Key × V)} {ds : List (D × D)} : F a = some (.dK kvs) → RpK K F kvs ds → Rp K F (.ref a) (.dict ds)
inductive RpA (K : PySem.W.Frag) (F : Hp) : List V → List D → Prop
  | nil : RpA K F [] []
  | cons {v : V} {vs : List V} {d : D} {ds : List D} : Rp K F v d → RpA K F vs ds → RpA K F (v :: vs) (d :: ds)
inductive RpK (K : PySem.W.Frag) (F : Hp) : List (Key × V) → List (D × D) → Prop
  | nil : RpK K F [] []
  | cons {k : Key} {v : V} {kvs : List (Key × V)} {d : D} {ds : List (D × D)} : Rp K F v d → RpK K F kvs ds → RpK K F ((k, v) :: kvs) ((keyD k, d) :: ds)
end
section
variable {K : PySem.W.Frag} {F F' H : Hp}
theorem ex_d {F F' : Hp} {a : Addr} {o : HO} (e : Ex F F') (h : F a = some o) : F' a = some o := e a o h
mutual
theorem Rp.mono (e : Ex F F') : ∀ (d : D) (v : V), Rp K F v d → Rp K F' v d
  | .none, _, .non => .non
  | .bool _, _, .bl b => .bl b
  | .int _, _, .int i => .int i
  | .str _, _, .str s => .str s
  | .list ds, _, .lst h r => .lst (Evl.ex_rd e h) (RpA.mono e ds _ r)
  | .tuple ds, _, .tup h r => .tup (Evl.ex_t e h) (RpA.mono e ds _ r)
  | .dict ds, _, .dic h r => .dic (e _ _ h) (RpK.mono e ds _ r)
theorem RpA.mono (e : Ex F F') : ∀ (ds : List D) (vs : List V), RpA K F vs ds → RpA K F' vs ds
  | [], _, .nil => .nil
  | d :: ds, _, .cons h r => .cons (Rp.mono e d _ h) (RpA.mono e ds _ r)
theorem RpK.mono (e : Ex F F') : ∀ (ds : List (D × D)) (vs : List (Key × V)), RpK K F vs ds → RpK K F' vs ds
  | [], _, .nil => .nil
  | (_, d) :: ds, _, .cons h r => .cons (Rp.mono e d _ h) (RpK.mono e ds _ r)
end
theorem Rp.up {d : D} {v : V} (h : Rp K F v d) (e : Ex F F') : Rp K F' v d := Rp.mono e d v h
theorem RpA.up {ds : List D} {vs : List V} (h : RpA K F vs ds) (e : Ex F F') : RpA K F' vs ds := RpA.mono e ds vs h
theorem RpK.up {ds : List (D × D)} {vs : List (Key × V)} (h : RpK K F vs ds) (e : Ex F F') : RpK K F' vs ds := RpK.mono e ds vs h
theorem RpA.length : ∀ {vs : List V} {ds : List D}, RpA K F vs ds → vs.length = ds.length
  | _, _, .nil => rfl
  | _, _, .cons _ r => by rw [List.length_cons, List.length_cons, r.length]
theorem RpK.length : ∀ {vs : List (Key × V)} {ds : List (D × D)}, RpK K F vs ds → vs.length = ds.length
  | _, _, .nil => rfl
  | _, _, .cons _ r => by rw [List.length_cons, List.length_cons, r.length]
theorem RpA.append : ∀ {vs ws : List V} {ds es : List D}, RpA K F vs ds → RpA K F ws es → RpA K F (vs ++ ws) (ds ++ es)
  | _, _, _, _, .nil, s => s
  | _, _, _, _, .cons h r, s => .cons h (RpA.append r s)
theorem RpA.get : ∀ {vs : List V} {ds : List D} {i : Nat} {d : D}, RpA K F vs ds → ds[i]? = some d → ∃ v, vs[i]? = some v ∧ Rp K F v d
  | _, _, _, _, .nil, e => by simp at e
  | _, _, 0, _, .cons h _, e => by
    have e' := Option.some.inj e
    subst e'
    exact ⟨_, rfl, h⟩
  | _, _, i + 1, d, .cons _ r, e => by
    obtain ⟨v, h1, h2⟩ := RpA.get (i := i) (d := d) r (by simpa using e)
    exact ⟨v, by simpa using h1, h2⟩
theorem RpA.got : ∀ {vs : List V} {ds : List D} {i : Nat} {v : V}, RpA K F vs ds → vs[i]? = some v → ∃ d, ds[i]? = some d ∧ Rp K F v d
  | _, _, _, _, .nil, e => by simp at e
  | _, _, 0, _, .cons h _, e => by
    have e' := Option.some.inj e
    subst e'
    exact ⟨_, rfl, h⟩
  | _, _, i + 1, v, .cons _ r, e => by
    obtain ⟨d, h1, h2⟩ := RpA.got (i := i) (v := v) r (by simpa using e)
    exact ⟨d, by simpa using h1, h2⟩
theorem RpA.take : ∀ {vs : List V} {ds : List D} (n : Nat), RpA K F vs ds → RpA K F (vs.take n) (ds.take n)
  | _, _, 0, _ => .nil
  | _, _, _ + 1, .nil => .nil
  | _, _, n + 1, .cons h r => .cons h (RpA.take n r)
theorem RpA.drop : ∀ {vs : List V} {ds : List D} (n : Nat), RpA K F vs ds → RpA K F (vs.drop n) (ds.drop n)
  | _, _, 0, r => r
  | _, _, _ + 1, .nil => .nil
  | _, _, n + 1, .cons _ r => RpA.drop n r
theorem RpA.set {v : V} {d : D} (h : Rp K F v d) : ∀ {vs : List V} {ds : List D} (i : Nat), RpA K F vs ds → RpA K F (vs.set i v) (ds.set i d)
  | _, _, _, .nil => .nil
  | _, _, 0, .cons _ r => .cons h r
  | _, _, i + 1, .cons q r => .cons q (RpA.set h i r)
theorem RpA.eraseIdx : ∀ {vs : List V} {ds : List D} (i : Nat), RpA K F vs ds → RpA K F (vs.eraseIdx i) (ds.eraseIdx i)
  | _, _, _, .nil => .nil
  | _, _, 0, .cons _ r => r
  | _, _, i + 1, .cons q r => .cons q (RpA.eraseIdx i r)
theorem RpA.reverse {vs : List V} {ds : List D} (h : RpA K F vs ds) : RpA K F vs.reverse ds.reverse := by
  induction h using RpA.rec (motive_1 := fun _ _ _ => True) (motive_3 := fun _ _ _ => True) with
  | nil => exact .nil
  | cons h r _ ih => rw [List.reverse_cons, List.reverse_cons]; exact ih.append (.cons h .nil)
  | _ => trivial
theorem RpA.dropLast {vs : List V} {ds : List D} (h : RpA K F vs ds) : RpA K F vs.dropLast ds.dropLast := by
  rw [List.dropLast_eq_take, List.dropLast_eq_take, h.length]
  exact h.take _
theorem RpA.one {v : V} {d : D} (h : Rp K F v d) : RpA K F [v] [d] := .cons h .nil
theorem RpA.asInts : ∀ {ds : List D} {vs : List V} {is : List Int}, RpA K F vs ds → asInts ds = some is → vs = is.map V.int
  | [], _, _, .nil, e => by
    have e' : [] = _ := Option.some.inj e
    subst e'
    rfl
  | .int i :: l, _, is, .cons h r, e => by
    have e1 : (SF.asInts l).map (i :: ·) = some is := e
    obtain ⟨js, h1, h2⟩ := Option.map_eq_some_iff.mp e1
    subst h2
    cases h
    rw [RpA.asInts r h1]
    rfl
  | .none :: _, _, _, _, e => by cases e
  | .bool _ :: _, _, _, _, e => by cases e
  | .str _ :: _, _, _, _, e => by cases e
  | .list _ :: _, _, _, _, e => by cases e
  | .tuple _ :: _, _, _, _, e => by cases e
  | .dict _ :: _, _, _, _, e => by cases e
theorem RpA.asStrs : ∀ {ds : List D} {vs : List V} {is : List Str}, RpA K F vs ds → asStrs ds = some is → vs = is.map V.str
  | [], _, _, .nil, e => by
    have e' : [] = _ := Option.some.inj e
    subst e'
    rfl
  | .str i :: l, _, is, .cons h r, e => by
    have e1 : (SF.asStrs l).map (i :: ·) = some is := e
    obtain ⟨js, h1, h2⟩ := Option.map_eq_some_iff.mp e1
    subst h2
    cases h
    rw [RpA.asStrs r h1]
    rfl
  | .none :: _, _, _, _, e => by cases e
  | .bool _ :: _, _, _, _, e => by cases e
  | .int _ :: _, _, _, _, e => by cases e
  | .list _ :: _, _, _, _, e => by cases e
  | .tuple _ :: _, _, _, _, e => by cases e
  | .dict _ :: _, _, _, _, e => by cases e
theorem RpA.asBools : ∀ {ds : List D} {vs : List V} {is : List Bool}, RpA K F vs ds → asBools ds = some is → vs = is.map V.bl
  | [], _, _, .nil, e => by
    have e' : [] = _ := Option.some.inj e
    subst e'
    rfl
  | .bool i :: l, _, is, .cons h r, e => by
    have e1 : (SF.asBools l).map (i :: ·) = some is := e
    obtain ⟨js, h1, h2⟩ := Option.map_eq_some_iff.mp e1
    subst h2
    cases h
    rw [RpA.asBools r h1]
    rfl
  | .none :: _, _, _, _, e => by cases e
  | .str _ :: _, _, _, _, e => by cases e
  | .int _ :: _, _, _, _, e => by cases e
  | .list _ :: _, _, _, _, e => by cases e
  | .tuple _ :: _, _, _, _, e => by cases e
  | .dict _ :: _, _, _, _, e => by cases e
theorem RpA.ofInts (is : List Int) : RpA K F (is.map V.int) (is.map PyData.int) := by
  induction is with
  | nil => exact .nil
  | cons i l ih => exact .cons (.int i) ih
theorem RpA.ofStrs (is : List Str) : RpA K F (is.map V.str) (is.map PyData.str) := by
  induction is with
  | nil => exact .nil
  | cons i l ih => exact .cons (.str i) ih
mutual
theorem Rp.toDp : ∀ (d : D) (v : V), d.canLay0 = true → Rp K F v d → Dp K F v d
  | .none, _, _, .non => .non
  | .bool _, _, _, .bl b => .bl b
  | .int _, _, _, .int i => .int i
  | .str _, _, _, .str s => .str s
  | .list ds, _, c, .lst h r => .lst (.inl h) (RpA.toDp ds _ (by simpa [PyData.canLay0] using c) r)
  | .tuple ds, _, c, .tup h r => .tup h (RpA.toDp ds _ (by simpa [PyData.canLay0] using c) r)
  | .dict _, _, c, _ => by simp [PyData.canLay0] at c
theorem RpA.toDp : ∀ (ds : List D) (vs : List V), PyData.canLayAll0 ds = true → RpA K F vs ds → DpAll K F vs ds
  | [], _, _, .nil => .nil
  | d :: ds, _, c, .cons h r => by
    have c' : d.canLay0 = true ∧ PyData.canLayAll0 ds = true := by simpa [PyData.canLayAll0] using c
    exact .cons (Rp.toDp d _ c'.1 h) (RpA.toDp ds _ c'.2 r)
end
mutual
theorem Rp.toDpN : ∀ (d : D) (v : V), d.hasDict = false → Rp K F v d → Dp K F v d
  | .none, _, _, .non => .non
  | .bool _, _, _, .bl b => .bl b
  | .int _, _, _, .int i => .int i
  | .str _, _, _, .str s => .str s
  | .list ds, _, c, .lst h r => .lst (.inl h) (RpA.toDpN ds _ (by simpa [PyData.hasDict] using c) r)
  | .tuple ds, _, c, .tup h r => .tup h (RpA.toDpN ds _ (by simpa [PyData.hasDict] using c) r)
  | .dict _, _, c, _ => by simp [PyData.hasDict] at c
theorem RpA.toDpN : ∀ (ds : List D) (vs : List V), PyData.hasDictAll ds = false → RpA K F vs ds → DpAll K F vs ds
  | [], _, _, .nil => .nil
  | d :: ds, _, c, .cons h r => by
    have c' : d.hasDict = false ∧ PyData.hasDictAll ds = false := by simpa [PyData.hasDictAll] using c
    exact .cons (Rp.toDpN d _ c'.1 h) (RpA.toDpN ds _ c'.2 r)
end
mutual
theorem Rp.still (t : ∀ a xs, SqT K F a xs → SqT K F' a xs) : ∀ (d : D) (v : V), SF.still d = true → Rp K F v d → Rp K F' v d
  | .none, _, _, .non => .non
  | .bool _, _, _, .bl b => .bl b
  | .int _, _, _, .int i => .int i
  | .str _, _, _, .str s => .str s
  | .list _, _, c, _ => by simp [SF.still] at c
  | .tuple ds, _, c, .tup h r => .tup (t _ _ h) (RpA.still t ds _ (by simpa [SF.still] using c) r)
  | .dict _, _, c, _ => by simp [SF.still] at c
theorem RpA.still (t : ∀ a xs, SqT K F a xs → SqT K F' a xs) : ∀ (ds : List D) (vs : List V), SF.still.stillAll ds = true → RpA K F vs ds → RpA K F' vs ds
  | [], _, _, .nil => .nil
  | d :: ds, _, c, .cons h r => by
    have c' : SF.still d = true ∧ SF.still.stillAll ds = true := by simpa [SF.still.stillAll] using c
    exact .cons (Rp.still t d _ c'.1 h) (RpA.still t ds _ c'.2 r)
end
/-- the content of an object that may change -/
inductive HR (K : PySem.W.Frag) (F : Hp) : HO → D → Prop
  | lst {xs : List V} {ds : List D} : RpA K F xs ds → HR K F (.lst xs) (.list ds)
  | dic {kvs : List (Key × V)} {ds : List (D × D)} : RpK K F kvs ds → HR K F (.dK kvs) (.dict ds)
theorem HR.up {o : HO} {d : D} (h : HR K F o d) (e : Ex F F') : HR K F' o d := by
  cases h with
  | lst r => exact .lst (r.up e)
  | dic r => exact .dic (r.up e)
theorem HR.mut {o : HO} {d : D} (h : HR K F o d) : Mut (some o) := by
  cases h <;> trivial
theorem HR.rp {o : HO} {d : D} {a : Addr} (h : HR K F o d) (e : F a = some o) : Rp K F (.ref a) d := by
  cases h with
  | lst r => exact .lst (.inl e) r
  | dic r => exact .dic e r
/-- what an operand may be: shared, or one that this frame holds -/
def TopR (K : PySem.W.Frag) (F H : Hp) (v : V) (d : D) : Prop := Rp K F v d ∨ ∃ a o, v = .ref a ∧ H a = some o ∧ HR K F o d
theorem Rp.top {v : V} {d : D} (h : Rp K F v d) : TopR K F H v d := .inl h
theorem TopR.list {v : V} {ds : List D} (e : Ex F H) (h : TopR K F H v (.list ds)) : ∃ a xs, v = .ref a ∧ Rd H a (.lst xs) ∧ RpA K F xs ds := by
  rcases h with h | ⟨a, o, rfl, ho, h⟩
  · cases h with
    | lst h r => exact ⟨_, _, rfl, Evl.ex_rd e h, r⟩
  · cases h with
    | lst r => exact ⟨a, _, rfl, .inl ho, r⟩
theorem TopR.tuple {v : V} {ds : List D} (e : Ex F H) (h : TopR K F H v (.tuple ds)) : ∃ a xs, v = .ref a ∧ SqT K H a xs ∧ RpA K F xs ds := by
  rcases h with h | ⟨a, o, rfl, ho, h⟩
  · cases h with
    | tup h r => exact ⟨_, _, rfl, Evl.ex_t e h, r⟩
  · cases h
theorem TopR.tupleF {v : V} {ds : List D} (h : TopR K F H v (.tuple ds)) : Rp K F v (.tuple ds) := by
  rcases h with h | ⟨a, o, rfl, ho, h⟩
  · exact h
  · cases h
theorem TopR.dict {v : V} {ds : List (D × D)} (e : Ex F H) (h : TopR K F H v (.dict ds)) : ∃ a kvs, v = .ref a ∧ H a = some (.dK kvs) ∧ RpK K F kvs ds := by
  rcases h with h | ⟨a, o, rfl, ho, h⟩
  · cases h with
    | dic h r => exact ⟨_, _, rfl, e _ _ h, r⟩
  · cases h with
    | dic r => exact ⟨a, _, rfl, ho, r⟩
theorem TopR.int {v : V} {i : Int} (h : TopR K F H v (.int i)) : v = .int i := by
  rcases h with h | ⟨a, o, rfl, ho, h⟩
  · cases h; rfl
  · cases h
theorem TopR.str {v : V} {i : Str} (h : TopR K F H v (.str i)) : v = .str i := by
  rcases h with h | ⟨a, o, rfl, ho, h⟩
  · cases h; rfl
  · cases h
theorem TopR.bool {v : V} {i : Bool} (h : TopR K F H v (.bool i)) : v = .bl i := by
  rcases h with h | ⟨a, o, rfl, ho, h⟩
  · cases h; rfl
  · cases h
theorem TopR.none {v : V} (h : TopR K F H v .none) : v = .non := by
  rcases h with h | ⟨a, o, rfl, ho, h⟩
  · cases h; rfl
  · cases h
theorem TopR.rp {v : V} {d : D} (e : Ex F H) (h : TopR K F H v d) : Rp K H v d := by
  rcases h with h | ⟨a, o, rfl, ho, h⟩
  · exact h.up e
  · exact (h.up e).rp ho
end

/-! ### the state of a frame -/
/-- what stood at the entry: what was shared, what was tracked, what may be changed for the caller -/
structure EC where
  F0 : Hp
  H0 : Hp
  io : List Addr
  rs : List (Addr × HO) := []
structure Bs (c : EC) (F H : Hp) : Prop where
  fh : Ex F H
  f0 : Ex c.F0 F
  new : ∀ a o, F a = some o → c.F0 a = some o ∨ c.H0 a = none
  keep : ∀ a o, c.H0 a = some o → a ∉ c.io → H a = some o
  there : ∀ a, H a = none → c.H0 a = none
def SlotR (K : PySem.W.Frag) (c : EC) (F H : Hp) (o : Option (Option V)) : Slot → Prop
  | .emp => True
  | .val d => ∃ v, o = some (some v) ∧ Rp K F v d
  | .own d => ∃ a h, o = some (some (.ref a)) ∧ F a = none ∧ H a = some h ∧ HR K F h d ∧ c.H0 a = none
  | .io d => ∃ a h, o = some (some (.ref a)) ∧ F a = none ∧ H a = some h ∧ HR K F h d ∧ a ∈ c.io
/-- the name i holds the object at a alone -/
def Held (nv : Nv) (σ : L2.St) (i : Nat) (a : Addr) : Prop := (∃ s, nv[i]? = some s ∧ s.holds = true) ∧ σ[i]? = some (some (.ref a))
structure Sat (K : PySem.W.Frag) (c : EC) (F H : Hp) (σ : L2.St) (nv : Nv) : Prop extends Bs c F H where
  len : nv.length = σ.length
  slot : ∀ (i : Nat) (s : Slot), nv[i]? = some s → SlotR K c F H σ[i]? s
  dis : ∀ (i j : Nat) (a : Addr), Held nv σ i a → Held nv σ j a → i = j
  res : ∀ p ∈ c.rs, F p.1 = none ∧ H p.1 = some p.2 ∧ c.H0 p.1 = none ∧ ∀ i, ¬ Held nv σ i p.1
/-- a value that has come: shared, or new and held by nothing yet -/
def VR (K : PySem.W.Frag) (c : EC) (F H : Hp) (σ : L2.St) (nv : Nv) (v : V) (d : D) : Bool → Prop
  | false => Rp K F v d
  | true => ∃ a h, v = .ref a ∧ F a = none ∧ H a = some h ∧ HR K F h d ∧ c.H0 a = none ∧ (∀ i, ¬ Held nv σ i a) ∧ ∀ p ∈ c.rs, p.1 ≠ a
section
variable {K : PySem.W.Frag} {c : EC} {F F' H H' : Hp} {σ : L2.St} {nv : Nv} {v : V} {d : D} {a : Addr} {o : HO}
theorem ex_upd {F : Hp} {a : Addr} {o : HO} (h : F a = none) : Ex F (upd F a o) := Evl.Ex.new h
theorem upd_some {F : Hp} {a b : Addr} {o u : HO} (h : upd F a o b = some u) : (b = a ∧ u = o) ∨ (b ≠ a ∧ F b = some u) := by
  by_cases e : b = a
  · subst e
    rw [upd_same] at h
    exact .inl ⟨rfl, (Option.some.inj h).symm⟩
  · rw [upd_ne e] at h
    exact .inr ⟨e, h⟩
theorem upd_none {F : Hp} {a b : Addr} {o : HO} (h : upd F a o b = none) : b ≠ a ∧ F b = none := by
  by_cases e : b = a
  · subst e
    rw [upd_same] at h
    cases h
  · rw [upd_ne e] at h
    exact ⟨e, h⟩
theorem SlotR.mono {s : Slot} {x : Option (Option V)} (h : SlotR K c F H x s) (e : Ex F F') (k : ∀ a h, F a = none → H a = some h → x = some (some (.ref a)) → s.holds = true → F' a = none ∧ H' a = some h) : SlotR K c F' H' x s := by
  cases s with
  | emp => trivial
  | val d => obtain ⟨v, h1, h2⟩ := h; exact ⟨v, h1, h2.up e⟩
  | own d => obtain ⟨a, u, h1, h2, h3, h4, h5⟩ := h; obtain ⟨k1, k2⟩ := k a u h2 h3 h1 rfl; exact ⟨a, u, h1, k1, k2, h4.up e, h5⟩
  | io d => obtain ⟨a, u, h1, h2, h3, h4, h5⟩ := h; obtain ⟨k1, k2⟩ := k a u h2 h3 h1 rfl; exact ⟨a, u, h1, k1, k2, h4.up e, h5⟩
theorem SlotR.obj {s : Slot} {x : Option (Option V)} (h : SlotR K c F H x s) (hs : s.holds = true) : ∃ a h d, x = some (some (.ref a)) ∧ F a = none ∧ H a = some h ∧ HR K F h d ∧ s.d = some d ∧ (c.H0 a = none ∨ a ∈ c.io) := by
  cases s with
  | emp => cases hs
  | val d => cases hs
  | own d => obtain ⟨a, u, h1, h2, h3, h4, h5⟩ := h; exact ⟨a, u, d, h1, h2, h3, h4, rfl, .inl h5⟩
  | io d => obtain ⟨a, u, h1, h2, h3, h4, h5⟩ := h; exact ⟨a, u, d, h1, h2, h3, h4, rfl, .inr h5⟩
theorem Sat.held (S : Sat K c F H σ nv) {i : Nat} (h : Held nv σ i a) : F a = none ∧ ∃ u d, H a = some u ∧ HR K F u d ∧ (c.H0 a = none ∨ a ∈ c.io) := by
  obtain ⟨⟨s, h1, h2⟩, h3⟩ := h
  obtain ⟨b, u, d, e1, e2, e3, e4, e5, e6⟩ := (S.slot i s h1).obj h2
  rw [h3] at e1
  cases e1
  exact ⟨e2, u, d, e3, e4, e6⟩
/-- a new object that is shared at once (a tuple) -/
theorem Sat.share (S : Sat K c F H σ nv) (h : H a = none) : Sat K c (upd F a o) (upd H a o) σ nv := by
  have hF : F a = none := Evl.fresh_back S.fh h
  refine ⟨⟨fun b u q => ?_, fun b u q => ?_, fun b u q => ?_, fun b u q n => ?_, fun b q => ?_⟩, S.len, fun i s e => ?_, S.dis, fun p hp => ?_⟩
  rotate_right
  · obtain ⟨r1, r2, r3, r4⟩ := S.res p hp
    have n := ne_of_none r2 h
    exact ⟨by rw [upd_ne n]; exact r1, by rw [upd_ne n]; exact r2, r3, r4⟩
  · rcases upd_some q with ⟨rfl, rfl⟩ | ⟨n, q⟩
    · exact upd_same
    · rw [upd_ne n]; exact S.fh b u q
  · rw [upd_ne (ne_of_none (S.f0 b u q) hF)]; exact S.f0 b u q
  · rcases upd_some q with ⟨rfl, rfl⟩ | ⟨n, q⟩
    · exact .inr (S.there b h)
    · exact S.new b u q
  · rw [upd_ne (ne_of_none (S.keep b u q n) h)]; exact S.keep b u q n
  · exact S.there b (upd_none q).2
  · exact (S.slot i s e).mono (ex_upd hF) fun b u f1 h1 _ _ => ⟨by rw [upd_ne (ne_of_none h1 h)]; exact f1, by rw [upd_ne (ne_of_none h1 h)]; exact h1⟩
/-- a new object that is not shared yet -/
theorem Sat.fresh (S : Sat K c F H σ nv) (h : H a = none) : Sat K c F (upd H a o) σ nv := by
  refine ⟨⟨fun b u q => ?_, S.f0, S.new, fun b u q n => ?_, fun b q => ?_⟩, S.len, fun i s e => ?_, S.dis, fun p hp => ?_⟩
  rotate_right
  · obtain ⟨r1, r2, r3, r4⟩ := S.res p hp
    exact ⟨r1, by rw [upd_ne (ne_of_none r2 h)]; exact r2, r3, r4⟩
  · rw [upd_ne (ne_of_none (S.fh b u q) h)]; exact S.fh b u q
  · rw [upd_ne (ne_of_none (S.keep b u q n) h)]; exact S.keep b u q n
  · exact S.there b (upd_none q).2
  · exact (S.slot i s e).mono (fun _ _ z => z) fun b u f1 h1 _ _ => ⟨f1, by rw [upd_ne (ne_of_none h1 h)]; exact h1⟩
theorem Sat.notHeld (S : Sat K c F H σ nv) (h : H a = none) (i : Nat) : ¬ Held nv σ i a := fun q => by
  obtain ⟨_, u, d, e, _⟩ := S.held q
  rw [h] at e
  cases e
theorem Sat.newV (S : Sat K c F H σ nv) (h : H a = none) (r : HR K F o d) : VR K c F (upd H a o) σ nv (.ref a) d true :=
  ⟨a, o, rfl, Evl.fresh_back S.fh h, upd_same, r, S.there a h, fun i => S.notHeld h i, fun p hp => ne_of_none (S.res p hp).2.1 h⟩
/-- what is held by nothing is shared from now on -/
theorem Sat.freeze (S : Sat K c F H σ nv) (f : F a = none) (h : H a = some o) (n : c.H0 a = none) (q : ∀ i, ¬ Held nv σ i a) (nr : ∀ p ∈ c.rs, p.1 ≠ a) : Sat K c (upd F a o) H σ nv := by
  refine ⟨⟨fun b u q => ?_, fun b u q => ?_, fun b u q => ?_, S.keep, S.there⟩, S.len, fun i s e => ?_, S.dis, fun p hp => ?_⟩
  rotate_right
  · obtain ⟨r1, r2, r3, r4⟩ := S.res p hp
    exact ⟨by rw [upd_ne (nr p hp)]; exact r1, r2, r3, r4⟩
  · rcases upd_some q with ⟨rfl, rfl⟩ | ⟨n, q⟩
    · exact h
    · exact S.fh b u q
  · rw [upd_ne (ne_of_none (S.f0 b u q) f)]; exact S.f0 b u q
  · rcases upd_some q with ⟨rfl, rfl⟩ | ⟨_, q⟩
    · exact .inr n
    · exact S.new b u q
  · exact (S.slot i s e).mono (ex_upd f) fun b u f1 h1 x hs => ⟨by rw [upd_ne (fun z => by subst z; exact q i ⟨⟨s, e, hs⟩, x⟩)]; exact f1, h1⟩
/-- a value that has come may be shared -/
theorem Sat.shared (S : Sat K c F H σ nv) {ow : Bool} (h : VR K c F H σ nv v d ow) : ∃ F', Ex F F' ∧ Sat K c F' H σ nv ∧ Rp K F' v d := by
  cases ow with
  | false => exact ⟨F, fun _ _ z => z, S, h⟩
  | true =>
    obtain ⟨a, u, rfl, f, hh, r, n, q, nr⟩ := h
    exact ⟨upd F a u, ex_upd f, S.freeze f hh n q nr, (r.up (ex_upd f)).rp upd_same⟩
theorem held_set {i j : Nat} {s : Slot} (h : Held (nv.set i s) σ j a) : (j = i ∧ s.holds = true ∧ σ[i]? = some (some (.ref a))) ∨ Held nv σ j a := by
  obtain ⟨⟨u, h1, h2⟩, h3⟩ := h
  by_cases e : i = j
  · subst e
    by_cases hl : i < nv.length
    · rw [List.getElem?_set_self hl] at h1
      cases h1
      exact .inl ⟨rfl, h2, h3⟩
    · rw [List.getElem?_set, if_pos rfl, if_neg hl] at h1
      cases h1
  · rw [List.getElem?_set_ne e] at h1
    exact .inr ⟨⟨u, h1, h2⟩, h3⟩
theorem held_setS {i j : Nat} {x : Option V} {s : Slot} (h : Held (nv.set i s) (σ.set i x) j a) : (j = i ∧ s.holds = true ∧ x = some (.ref a)) ∨ (j ≠ i ∧ Held nv σ j a) := by
  obtain ⟨⟨u, h1, h2⟩, h3⟩ := h
  by_cases e : i = j
  · subst e
    by_cases hl : i < nv.length
    · rw [List.getElem?_set_self hl] at h1
      cases h1
      by_cases hm : i < σ.length
      · rw [List.getElem?_set_self hm] at h3
        exact .inl ⟨rfl, h2, Option.some.inj h3⟩
      · rw [List.getElem?_set, if_pos rfl, if_neg hm] at h3
        cases h3
    · rw [List.getElem?_set, if_pos rfl, if_neg hl] at h1
      cases h1
  · rw [List.getElem?_set_ne e] at h1 h3
    exact .inr ⟨fun z => e z.symm, ⟨u, h1, h2⟩, h3⟩
/-- a slot's entry changes, its value stays -/
theorem Sat.setSlot {i : Nat} {s : Slot} (S : Sat K c F H σ nv) (r : SlotR K c F H σ[i]? s) (hs : s.holds = true → ∀ a, σ[i]? = some (some (.ref a)) → (∀ j, Held nv σ j a → j = i) ∧ ∀ p ∈ c.rs, p.1 ≠ a) : Sat K c F H σ (nv.set i s) := by
  refine ⟨S.toBs, by rw [List.length_set]; exact S.len, fun j u e => ?_, fun j k a h1 h2 => ?_, fun p hp => ?_⟩
  rotate_right
  · obtain ⟨r1, r2, r3, r4⟩ := S.res p hp
    refine ⟨r1, r2, r3, fun j g => ?_⟩
    rcases held_set g with ⟨rfl, g1, g2⟩ | g
    · exact (hs g1 _ g2).2 p hp rfl
    · exact r4 j g
  · by_cases z : i = j
    · subst z
      by_cases hl : i < nv.length
      · rw [List.getElem?_set_self hl] at e
        cases e
        exact r
      · rw [List.getElem?_set, if_pos rfl, if_neg hl] at e
        cases e
    · rw [List.getElem?_set_ne z] at e
      exact S.slot j u e
  · rcases held_set h1 with ⟨rfl, g1, g2⟩ | g1
    · rcases held_set h2 with ⟨rfl, _, _⟩ | g3
      · rfl
      · exact ((hs g1 a g2).1 k g3).symm
    · rcases held_set h2 with ⟨rfl, g2, g3⟩ | g3
      · exact (hs g2 a g3).1 j g1
      · exact S.dis j k a g1 g3
/-- a name is stored -/
theorem Sat.store {i : Nat} {s : Slot} {x : Option V} (S : Sat K c F H σ nv) (hi : i < nv.length) (r : SlotR K c F H (some x) s) (hs : s.holds = true → ∀ a, x = some (.ref a) → (∀ j, ¬ Held nv σ j a) ∧ ∀ p ∈ c.rs, p.1 ≠ a) : Sat K c F H (σ.set i x) (nv.set i s) := by
  have hi' : i < σ.length := by rw [← S.len]; exact hi
  refine ⟨S.toBs, by rw [List.length_set, List.length_set]; exact S.len, fun j u e => ?_, fun j k a h1 h2 => ?_, fun p hp => ?_⟩
  rotate_right
  · obtain ⟨r1, r2, r3, r4⟩ := S.res p hp
    refine ⟨r1, r2, r3, fun j g => ?_⟩
    rcases held_setS g with ⟨rfl, g1, g2⟩ | ⟨_, g⟩
    · exact (hs g1 _ g2).2 p hp rfl
    · exact r4 j g
  · by_cases z : i = j
    · subst z
      rw [List.getElem?_set_self hi] at e
      cases e
      rw [List.getElem?_set_self hi']
      exact r
    · rw [List.getElem?_set_ne z] at e ⊢
      exact S.slot j u e
  · rcases held_setS h1 with ⟨rfl, g1, g2⟩ | ⟨n1, g1⟩
    · rcases held_setS h2 with ⟨rfl, _, _⟩ | ⟨_, g3⟩
      · rfl
      · exact absurd g3 ((hs g1 a g2).1 k)
    · rcases held_setS h2 with ⟨rfl, g2, g3⟩ | ⟨_, g3⟩
      · exact absurd g1 ((hs g2 a g3).1 j)
      · exact S.dis j k a g1 g3
/-- the object that a name holds is changed -/
theorem Sat.write {i : Nat} {s t : Slot} {u u' : HO} {e : D} (S : Sat K c F H σ nv) (hs : nv[i]? = some s) (hh : s.holds = true) (hx : σ[i]? = some (some (.ref a))) (r : HR K F u' e) (ht : t.d = some e) (hk : (∃ d, s = .own d ∧ ∃ d', t = .own d') ∨ (∃ d, s = .io d ∧ ∃ d', t = .io d')) :
    Sat K c F (upd H a u') σ (nv.set i t) := by
  have hl : i < nv.length := (List.getElem?_eq_some_iff.mp hs).1
  have held : Held nv σ i a := ⟨⟨s, hs, hh⟩, hx⟩
  obtain ⟨f, w, d, hw, rw', hio⟩ := S.held held
  have th : t.holds = true := by
    rcases hk with ⟨_, _, _, z⟩ | ⟨_, _, _, z⟩ <;> (rw [z]; rfl)
  have back : ∀ {m : Nat} {b : Addr}, Held (nv.set i t) σ m b → Held nv σ m b := fun {m b} h => by
    rcases held_set h with ⟨rfl, _, g⟩ | g
    · exact ⟨⟨s, hs, hh⟩, g⟩
    · exact g
  refine ⟨⟨fun b u q => ?_, S.f0, S.new, fun b u q n => ?_, fun b q => S.there b (upd_none q).2⟩, by rw [List.length_set]; exact S.len, fun j u e' => ?_, fun j k b h1 h2 => ?_, fun p hp => ?_⟩
  rotate_right
  · obtain ⟨r1, r2, r3, r4⟩ := S.res p hp
    exact ⟨r1, by rw [upd_ne fun z => r4 i (by rw [z]; exact held)]; exact r2, r3, fun j g => r4 j (back g)⟩
  · rw [upd_ne (ne_of_none q f)]; exact S.fh b u q
  · have hb : b ≠ a := fun z => by
      subst z
      rcases hio with z | z
      · rw [z] at q; cases q
      · exact n z
    rw [upd_ne hb]; exact S.keep b u q n
  · by_cases z : i = j
    · subst z
      rw [List.getElem?_set_self hl] at e'
      cases e'
      have sl := S.slot i s hs
      rcases hk with ⟨d1, rfl, d2, rfl⟩ | ⟨d1, rfl, d2, rfl⟩
      · obtain ⟨b, y, h1, h2, h3, h4, h5⟩ := sl
        rw [hx] at h1
        cases h1
        have e2 : d2 = e := Option.some.inj ht
        subst e2
        exact ⟨a, u', hx, f, upd_same, r, h5⟩
      · obtain ⟨b, y, h1, h2, h3, h4, h5⟩ := sl
        rw [hx] at h1
        cases h1
        have e2 : d2 = e := Option.some.inj ht
        subst e2
        exact ⟨a, u', hx, f, upd_same, r, h5⟩
    · rw [List.getElem?_set_ne z] at e'
      refine (S.slot j u e').mono (fun _ _ q => q) fun b y f1 h1 x hb => ⟨f1, ?_⟩
      rw [upd_ne fun z2 => by subst z2; exact z (S.dis i j b held ⟨⟨u, e', hb⟩, x⟩)]
      exact h1
  · exact S.dis j k b (back h1) (back h2)
/-- an object is set apart -/
theorem Sat.keepApart (S : Sat K c F H σ nv) (h : H a = none) : Sat K { c with rs := (a, o) :: c.rs } F (upd H a o) σ nv := by
  have S1 := S.fresh (o := o) h
  refine ⟨⟨S1.fh, S1.f0, S1.new, S1.keep, S1.there⟩, S1.len, fun i s e => ?_, S1.dis, fun p hp => ?_⟩
  · have := S1.slot i s e
    cases s <;> exact this
  · rcases List.mem_cons.mp hp with rfl | hp
    · exact ⟨Evl.fresh_back S.fh h, upd_same, S.there a h, fun i => S.notHeld h i⟩
    · exact S1.res p hp
/-- what was set apart, written to, comes back as a new value -/
theorem Sat.comeBack {o' : HO} (S : Sat K { c with rs := (a, o) :: c.rs } F H σ nv) (nr : ∀ p ∈ c.rs, p.1 ≠ a) (r : HR K F o' d) : H a = some o ∧ Sat K c F (upd H a o') σ nv ∧ VR K c F (upd H a o') σ nv (.ref a) d true := by
  obtain ⟨r1, r2, r3, r4⟩ := S.res (a, o) List.mem_cons_self
  refine ⟨r2, ⟨⟨fun b u q => ?_, S.f0, S.new, fun b u q n => ?_, fun b q => S.there b (upd_none q).2⟩, S.len, fun i s e => ?_, S.dis, fun p hp => ?_⟩, a, o', rfl, r1, upd_same, r, r3, r4, nr⟩
  · rw [upd_ne (ne_of_none q r1)]; exact S.fh b u q
  · rw [upd_ne (ne_of_none q r3)]; exact S.keep b u q n
  · have z : SlotR K c F H σ[i]? s := by
      have := S.slot i s e
      cases s <;> exact this
    refine z.mono (fun _ _ q => q) fun b y f1 h1 x hb => ⟨f1, ?_⟩
    rw [upd_ne fun z2 => by subst z2; exact r4 i ⟨⟨s, e, hb⟩, x⟩]
    exact h1
  · obtain ⟨q1, q2, q3, q4⟩ := S.res p (List.mem_cons_of_mem _ hp)
    exact ⟨q1, by rw [upd_ne (nr p hp)]; exact q2, q3, q4⟩
/-- .. or stays apart -/
theorem Sat.stayApart {o' : HO} (S : Sat K { c with rs := (a, o) :: c.rs } F H σ nv) (nr : ∀ p ∈ c.rs, p.1 ≠ a) : Sat K { c with rs := (a, o') :: c.rs } F (upd H a o') σ nv := by
  obtain ⟨r1, r2, r3, r4⟩ := S.res (a, o) List.mem_cons_self
  refine ⟨⟨fun b u q => ?_, S.f0, S.new, fun b u q n => ?_, fun b q => S.there b (upd_none q).2⟩, S.len, fun i s e => ?_, S.dis, fun p hp => ?_⟩
  · rw [upd_ne (ne_of_none q r1)]; exact S.fh b u q
  · rw [upd_ne (ne_of_none q r3)]; exact S.keep b u q n
  · have z : SlotR K { c with rs := (a, o') :: c.rs } F H σ[i]? s := by
      have := S.slot i s e
      cases s <;> exact this
    refine z.mono (fun _ _ q => q) fun b y f1 h1 x hb => ⟨f1, ?_⟩
    rw [upd_ne fun z2 => by subst z2; exact r4 i ⟨⟨s, e, hb⟩, x⟩]
    exact h1
  · rcases List.mem_cons.mp hp with rfl | hp
    · exact ⟨r1, upd_same, r3, r4⟩
    · obtain ⟨q1, q2, q3, q4⟩ := S.res p (List.mem_cons_of_mem _ hp)
      exact ⟨q1, by rw [upd_ne (nr p hp)]; exact q2, q3, q4⟩
/-- a name gives what it holds away -/
theorem Sat.leak {i : Nat} {nv1 : Nv} (S : Sat K c F H σ nv) (h : leak nv i = .ok (d, nv1)) : ∃ v F', σ[i]? = some (some v) ∧ Ex F F' ∧ Sat K c F' H σ nv1 ∧ Rp K F' v d := by
  unfold SF.leak at h
  cases e : nv[i]? with
  | none => rw [e] at h; cases h
  | some s =>
    rw [e] at h
    have sl := S.slot i s e
    cases s with
    | emp => cases h
    | io x => cases h
    | val x =>
      cases h
      obtain ⟨v, h1, h2⟩ := sl
      exact ⟨v, F, h1, fun _ _ z => z, S, h2⟩
    | own x =>
      cases h
      obtain ⟨a, o, h1, h2, h3, h4, h5⟩ := sl
      have hl : i < nv.length := (List.getElem?_eq_some_iff.mp e).1
      have held : Held nv σ i a := ⟨⟨_, e, rfl⟩, h1⟩
      have S1 : Sat K c F H σ (nv.set i .emp) := S.setSlot (s := .emp) trivial fun z => by cases z
      have no : ∀ j, ¬ Held (nv.set i .emp) σ j a := fun j ⟨⟨s, g1, g2⟩, g3⟩ => by
        by_cases z : i = j
        · subst z
          rw [List.getElem?_set_self hl] at g1
          cases g1
          cases g2
        · rw [List.getElem?_set_ne z] at g1
          exact z (S.dis i j a held ⟨⟨s, g1, g2⟩, g3⟩)
      have S2 := S1.freeze h2 h3 h5 no fun p hp z => (S.res p hp).2.2.2 i (by rw [z]; exact held)
      have rp : Rp K (upd F a o) (.ref a) d := (h4.up (ex_upd h2)).rp upd_same
      have S3 := S2.setSlot (i := i) (s := .val d) ⟨.ref a, h1, rp⟩ fun z => by cases z
      rw [List.set_set] at S3
      exact ⟨.ref a, upd F a o, h1, ex_upd h2, S3, rp⟩
end
end SF

/-! Each operation of the small language is what the machine's operation gives. -/
namespace SF
open PySem PySem.Spec PyProof.Rows L2
open Evl (Ex)

/-- what follows an operation that gives d: a value that is there already, a new tuple, a new list or dict -/
structure FinR (K : PySem.W.Frag) (F H : Hp) (d : D) (ow : Bool) (Q : VK) : Prop where
  old : ow = false → ∀ v, Rp K F v d → Q v H
  tup : ∀ p ds xs, d = .tuple ds → ow = false → H p = none → RpA K F xs ds → Q (.ref p) (upd H p (.tup xs))
  new : ow = true → ∀ p o, H p = none → HR K F o d → Q (.ref p) (upd H p o)
def rOp2 (K : PySem.W.Frag) (o : Op2) : R2 := fun x y H Q => ∃ F dx dy d ow, Ex F H ∧ TopR K F H x dx ∧ TopR K F H y dy ∧ op2 o dx dy = .ok (d, ow) ∧ FinR K F H d ow Q
def rOp1 (K : PySem.W.Frag) (o : Op1) : V → Hp → VK → Prop := fun x H Q => ∃ F dx d ow, Ex F H ∧ TopR K F H x dx ∧ op1 o dx = .ok (d, ow) ∧ FinR K F H d ow Q
theorem val_ok {d e : D} {ow : Bool} (h : val d = .ok (e, ow)) : e = d ∧ ow = false := by
  cases h
  exact ⟨rfl, rfl⟩
theorem new_ok {d e : D} {ow : Bool} (h : SF.new d = .ok (e, ow)) : e = d ∧ ow = true := by
  cases h
  exact ⟨rfl, rfl⟩
theorem of_ok {α β : Type} {o : Option α} {f : α → R β} {b : β} (h : (R.of o).bind f = .ok b) : ∃ a, o = some a ∧ f a = .ok b := by
  cases o with
  | none => cases h
  | some a => exact ⟨a, rfl, h⟩
theorem bind_ok {α β : Type} {o : R α} {f : α → R β} {b : β} (h : o.bind f = .ok b) : ∃ a, o = .ok a ∧ f a = .ok b := by
  cases o with
  | ok a => exact ⟨a, rfl, h⟩
  | ex c ds => cases h
  | no => cases h
theorem if_ok {α : Type} {p : Prop} [Decidable p] {a : R α} {b : α} (h : (if p then a else .no) = .ok b) : p ∧ a = .ok b := by
  by_cases hp : p
  · rw [if_pos hp] at h; exact ⟨hp, h⟩
  · rw [if_neg hp] at h; cases h
theorem lim_le : lim ≤ sizeLine := by rw [sizeLine_eq]; decide
section
variable {K : PySem.W.Frag} {F H : Hp} {d : D} {ow : Bool} {Q : VK}
theorem FinR.int {i : Int} (h : FinR K F H (.int i) false Q) : Q (.int i) H := h.old rfl _ (.int i)
theorem FinR.str {i : Str} (h : FinR K F H (.str i) false Q) : Q (.str i) H := h.old rfl _ (.str i)
theorem FinR.bool {i : Bool} (h : FinR K F H (.bool i) false Q) : Q (.bl i) H := h.old rfl _ (.bl i)
theorem FinR.list {ds : List D} {xs : List V} (h : FinR K F H (.list ds) true Q) (r : RpA K F xs ds) : ∀ p, H p = none → Q (.ref p) (upd H p (.lst xs)) := fun p hp => h.new rfl p _ hp (.lst r)
theorem FinR.tuple {ds : List D} {xs : List V} (h : FinR K F H (.tuple ds) false Q) (r : RpA K F xs ds) : ∀ p, H p = none → Q (.ref p) (upd H p (.tup xs)) := fun p hp => h.tup p ds xs rfl rfl hp r
theorem replicate_flat {vs : List V} {ds : List D} (r : RpA K F vs ds) : ∀ k : Nat, RpA K F (List.replicate k vs).flatten (List.replicate k ds).flatten
  | 0 => .nil
  | k + 1 => by
    rw [List.replicate_succ, List.replicate_succ, List.flatten_cons, List.flatten_cons]
    exact r.append (replicate_flat r k)
end
section
variable {X : Cx}
theorem Inv.lstR {pins : List (Addr × Obj)} {σ : L2.St} {H : Hp} {s : Shared} {l : Addr} {xs : List V} (I : Inv X pins σ H s) (h : Rd H l (.lst xs)) : xs.length ≤ sizeLine ∧ ∃ (its : List Value) (n : Nat), Vals xs its ∧ s.heap.get? l = some { cls := .type "list", data := .seq its.toArray n } := h.ok I.hok
/-! ### lists however they stand -/
theorem op_catL : OpR X (binaryOp .Add) (fun x y H Q => ∃ l b xs zs, x = .ref l ∧ y = .ref b ∧ Rd H l (.lst xs) ∧ Rd H b (.lst zs) ∧ xs.length + zs.length ≤ sizeLine ∧ ∀ p, H p = none → Q (.ref p) (upd H p (.lst (xs ++ zs)))) := by
  intro pins s σ H x y v u Q I rx ry h
  obtain ⟨l, b, xs, zs, rfl, rfl, hH, hB, hz, q⟩ := h
  cases rx
  cases ry
  obtain ⟨z1, its, n, r, e⟩ := Inv.lstR I hH
  obtain ⟨z2, its2, n2, r2, e2⟩ := Inv.lstR I hB
  have l1 := r.length
  have l2 := r2.length
  refine PySem.P.add_list e e2 ?_ (by rw [List.size_toArray, List.size_toArray, ← l1, ← l2]; exact hz)
  have ea : its.toArray ++ its2.toArray = (its ++ its2).toArray := by simp
  rw [ea]
  exact ⟨.ref _, _, Inv.lnew (t' := s.toks) I (r.append r2) (by rw [List.length_append]; omega), rfl, q _ (Inv.fresh I)⟩
/-- str + str, int + int, list + list, tuple + tuple -/
theorem op_addD : OpR X (binaryOp .Add) (rOp2 X.K .add) := by
  intro pins s σ H x y v u Q I rx ry h
  obtain ⟨F, dx, dy, d, ow, e, hx, hy, hd, q⟩ := h
  cases dx <;> cases dy <;> first | (cases hd; done) | skip
  case int.int i j =>
    obtain ⟨rfl, rfl⟩ := val_ok hd
    exact op_add pins s σ H x y v u Q I rx ry ⟨i, j, hx.int, hy.int, q.int⟩
  case str.str i j =>
    obtain ⟨hl, hd⟩ := if_ok hd
    obtain ⟨rfl, rfl⟩ := val_ok hd
    exact op_add_str pins s σ H x y v u Q I rx ry ⟨i, j, hx.str, hy.str, Nat.le_trans hl lim_le, q.str⟩
  case list.list i j =>
    obtain ⟨hl, hd⟩ := if_ok hd
    obtain ⟨rfl, rfl⟩ := new_ok hd
    obtain ⟨a, xs, rfl, h1, r1⟩ := hx.list e
    obtain ⟨b, ys, rfl, h2, r2⟩ := hy.list e
    exact op_catL pins s σ H _ _ v u Q I rx ry ⟨a, b, xs, ys, rfl, rfl, h1, h2, by rw [r1.length, r2.length]; exact Nat.le_trans hl lim_le, q.list (r1.append r2)⟩
  case tuple.tuple i j =>
    obtain ⟨hl, hd⟩ := if_ok hd
    obtain ⟨rfl, rfl⟩ := val_ok hd
    obtain ⟨a, xs, rfl, h1, r1⟩ := hx.tuple e
    obtain ⟨b, ys, rfl, h2, r2⟩ := hy.tuple e
    refine op_catA pins s σ H _ _ v u Q I rx ry ⟨a, b, xs, ys, rfl, rfl, h1, h2, by rw [r1.length, r2.length]; exact Nat.le_trans hl lim_le, fun z => ?_, fun _ z => ?_, fun _ _ => q.tuple (r1.append r2)⟩
    · subst z
      cases r1
      exact q.old rfl _ hy.tupleF
    · subst z
      cases r2
      refine q.old rfl _ ?_
      rw [List.append_nil]
      exact hx.tupleF
theorem op_subD : OpR X (binaryOp .Sub) (rOp2 X.K .sub) := by
  intro pins s σ H x y v u Q I rx ry h
  obtain ⟨F, dx, dy, d, ow, e, hx, hy, hd, q⟩ := h
  cases dx <;> cases dy <;> first | (cases hd; done) | skip
  case int.int i j =>
    obtain ⟨rfl, rfl⟩ := val_ok hd
    exact op_sub pins s σ H x y v u Q I rx ry ⟨i, j, hx.int, hy.int, q.int⟩
/-- what is one item of a tuple taken once is the tuple itself -/
theorem tuple_mul1 (l : Addr) (items : Array Value) (n : Nat) (dd : Option Addr) (sl : Array (Option Value)) (u : Tok) :
    Meets (Builtin.«tuple.__mul__» ⟨[.ref l, .int 1 u], []⟩) (fun _ R s => s.heap.get? l = some { cls := .type "tuple", dict := dd, data := .seq items n, slots := sl } ∧ R (.ok (.ret (Value.ref l))) s) :=
  .of_wp fun prog w A R s h => by
    obtain ⟨hp, g, d, tk, os⟩ := s
    obtain ⟨hl, h⟩ := h
    have f1 := AutoSeq1.idx_int
    have c0 : (decide ((1 : Int) < -(2 ^ 63)) || decide ((1 : Int) ≥ 2 ^ 63)) = false := by decide
    have c1 : (items.isEmpty || (1 : Int) == 1) = true := by cases items.isEmpty <;> rfl
    wp_walk using wpAny_loadPart' hl
    repeat (first
      | (refine wpAny_ite_false (decide_eq_false (by rw [c0]; exact Bool.false_ne_true)) ?_; wp_walk using wpAny_loadPart' hl)
      | (refine wpAny_ite_true (decide_eq_true c1) ?_; wp_walk using wpAny_loadPart' hl))
    exact ⟨_, rfl, h⟩
theorem op_rep1 : OpR X (binaryOp .Mult) (fun x y H Q => ∃ l xs, x = .ref l ∧ y = .int 1 ∧ SqT X.K H l xs ∧ Q (.ref l) H) := by
  intro pins s σ H x y v u Q I rx ry h
  obtain ⟨l, xs, rfl, rfl, hT, q⟩ := h
  cases rx
  obtain ⟨t, rfl⟩ := ry
  obtain ⟨its, r, ⟨⟨cls, dd, data, sl⟩, ho, hc, n, hd⟩, hs⟩ := I.tuple hT
  simp only at hc hd
  subst hc hd
  exact wpAny_binaryOp_repeat_ref (T := "tuple") (U := "int") (by decide) ⟨_, ho, rfl⟩ (fun s' => typeIs_int s' 1 t) noFill_tuple_mul F.fills_int_mul F.slot_int_rmul repeat_tuple F.slot_int_index.lookup
    (call_meets F.slot_int_rmul (typeIs_int s 1 t) F.entry_int_rmul (F.args_int_rmul_2 _ _) (int_rmul_tuple 1 t l its.toArray n dd sl)
      ⟨ho, rfl, ⟨_, ho, rfl⟩, call_meets F.slot_tuple_mul ⟨_, ho, rfl⟩ F.entry_tuple_mul (F.args_tuple_mul_2 _ _) (tuple_mul1 l its.toArray n dd sl t) ⟨ho, ⟨.ref l, H, I, rfl, q⟩⟩⟩)
theorem op_repL : OpR X (binaryOp .Mult) (fun x y H Q => ∃ l k xs, x = .ref l ∧ y = .int k ∧ Rd H l (.lst xs) ∧ -(2 ^ 63) ≤ k ∧ k < 2 ^ 63 ∧ xs.length * k.toNat ≤ sizeLine ∧
  ∀ p, H p = none → Q (.ref p) (upd H p (.lst (List.replicate k.toNat xs).flatten))) := by
  intro pins s σ H x y v u Q I rx ry h
  obtain ⟨l, k, xs, rfl, rfl, hH, h1, h2, hz, q⟩ := h
  cases rx
  obtain ⟨t, rfl⟩ := ry
  obtain ⟨z, its, n, r, e⟩ := Inv.lstR I hH
  have hl := r.length
  have hlen : its.toArray.size * k.toNat ≤ sizeLine := by rw [List.size_toArray, ← hl]; exact hz
  have hcap : ¬ its.toArray.size * k.toNat > (2 ^ 63 - 1) / 8 := by
    have : (sizeLine : Nat) ≤ (2 ^ 63 - 1) / 8 := by decide
    omega
  have hfit : ¬ (!Builtin.List.listFitsIndex k) = true := by rw [fitsIndex_both h1 h2] <;> exact Bool.false_ne_true
  have hlong : ¬ Builtin.List.listTooLong (its.toArray.size * k.toNat) = true := by rw [notLongL hlen] <;> exact Bool.false_ne_true
  have hnew : List.foldl (fun x1 x2 => x1 ++ x2) #[] (List.replicate (if its.toArray.isEmpty = true then 0 else k.toNat) its.toArray) = (List.replicate k.toNat its).flatten.toArray := by
    cases its with
    | nil => simp
    | cons a r' => rw [if_neg (by simp)]; exact size_rep _ _
  refine wpAny_binaryOp_repeat_ref (T := "list") (U := "int") (by decide) ⟨_, e, rfl⟩ (fun s' => typeIs_int s' k t) noFill_list_mul F.fills_int_mul F.slot_int_rmul repeat_list F.slot_int_index.lookup
    (call_meets F.slot_int_rmul (typeIs_int s k t) F.entry_int_rmul (F.args_int_rmul_2 _ _) (int___rmul___int_list k t l its.toArray n)
      ⟨e, rfl, ⟨_, e, rfl⟩, call_meets F.slot_list_mul ⟨_, e, rfl⟩ F.entry_list_mul (F.args_list_mul_2 _ _) (AutoListH.list___mul___list_int_3 l its.toArray n k t hfit hcap hlong) ⟨e, ?_⟩⟩)
  rw [hnew]
  exact ⟨.ref _, _, Inv.lnew (t' := s.toks) I (r.rep k.toNat) (by rw [PyProof.Rows.lm_len_rep_flat, Nat.mul_comm]; exact hz), rfl, q _ (Inv.fresh I)⟩
theorem op_mulStr : OpR X (binaryOp .Mult) (fun x y H Q => ∃ l k, x = .str l ∧ y = .int k ∧ 2 ≤ k ∧ k ≤ 1000 ∧ 1 ≤ l.length ∧ l.length ≤ 1000 ∧ Q (.str ⟨(List.replicate k.toNat l.cps).foldl (· ++ ·) #[]⟩) H) := by
  intro pins s σ H x y v u Q I rx ry h
  obtain ⟨l, k, rfl, rfl, h1, h2, h3, h4, q⟩ := h
  obtain ⟨t, rfl⟩ := rx
  obtain ⟨t', rfl⟩ := ry
  have hk : (k == 1 || l.length == 0) = false := by
    have e1 : (k == 1) = false := beq_eq_false_iff_ne.mpr (by omega)
    have e2 : (l.length == 0) = false := beq_eq_false_iff_ne.mpr (by omega)
    rw [e1, e2]; rfl
  have hm : l.length * k.toNat ≤ 1000 * 1000 := Nat.mul_le_mul h4 (by omega)
  refine PySem.P.mul_str ?_ (fun _ _ => ?_) (fun _ _ => ?_) ?_
  · rw [decide_eq_false (by omega), decide_eq_false (by omega)]; rfl
  · have e : (1000 : Int) ≤ (2 ^ 63 - 1) / k := by
      refine Int.le_trans (by decide : (1000 : Int) ≤ (2 ^ 63 - 1) / 1000) ?_
      rw [Int.le_ediv_iff_mul_le (by omega)]
      have e2 : ((2 ^ 63 - 1) / 1000 : Int) * k ≤ ((2 ^ 63 - 1) / 1000) * 1000 := Int.mul_le_mul_of_nonneg_left (by omega) (by decide)
      exact Int.le_trans e2 (by decide)
    omega
  · have : sizeLine = 16777216 := sizeLine_eq
    exact decide_eq_false (by omega)
  · rw [if_neg (by omega), if_neg (by rw [hk]; exact Bool.false_ne_true)]
    refine ⟨?_, .str _, H, I.tok _, ⟨_, rfl⟩, q⟩
    have hs : ∀ (m : Nat) (acc : Array Nat), (List.foldl (fun x1 x2 => x1 ++ x2) acc (List.replicate m l.cps)).size = acc.size + m * l.cps.size := fun m => by
      induction m with
      | zero => intro acc; simp
      | succ m ih => intro acc; rw [List.replicate_succ, List.foldl_cons, ih, Array.size_append, Nat.succ_mul]; omega
    show (List.foldl (fun x1 x2 => x1 ++ x2) #[] (List.replicate k.toNat l.cps)).size ≤ sizeLine
    rw [hs, Nat.mul_comm]
    have : sizeLine = 16777216 := sizeLine_eq
    have hm' : l.cps.size * k.toNat ≤ 1000 * 1000 := hm
    show 0 + _ ≤ _
    omega
theorem op_mulD : OpR X (binaryOp .Mult) (rOp2 X.K .mul) := by
  intro pins s σ H x y v u Q I rx ry h
  obtain ⟨F, dx, dy, d, ow, e, hx, hy, hd, q⟩ := h
  cases dx <;> cases dy <;> first | (cases hd; done) | skip
  case int.int i j =>
    obtain ⟨hl, hd⟩ := if_ok hd
    obtain ⟨rfl, rfl⟩ := val_ok hd
    exact op_mulW pins s σ H x y v u Q I rx ry ⟨i, j, hx.int, hy.int, hl, q.int⟩
  case str.int i k =>
    obtain ⟨hl, hd⟩ := if_ok hd
    obtain ⟨rfl, rfl⟩ := val_ok hd
    exact op_mulStr pins s σ H x y v u Q I rx ry ⟨i, k, hx.str, hy.int, hl.1, hl.2.1, hl.2.2.1, hl.2.2.2, q.str⟩
  case list.int l k =>
    obtain ⟨hl, hd⟩ := if_ok hd
    obtain ⟨rfl, rfl⟩ := new_ok hd
    obtain ⟨a, xs, rfl, h1, r1⟩ := hx.list e
    refine op_repL pins s σ H _ _ v u Q I rx ry ⟨a, k, xs, rfl, hy.int, h1, by omega, by omega, ?_, q.list (replicate_flat r1 _)⟩
    have a1 : xs.length * k.toNat ≤ 1000 * 1000 := Nat.mul_le_mul (by rw [r1.length]; exact hl.2.2) (by omega)
    have : sizeLine = 16777216 := sizeLine_eq
    omega
  case tuple.int l k =>
    obtain ⟨hl, hd⟩ := if_ok hd
    obtain ⟨rfl, rfl⟩ := val_ok hd
    obtain ⟨a, xs, rfl, h1, r1⟩ := hx.tuple e
    by_cases hk : k = 1
    · subst hk
      refine op_rep1 pins s σ H _ _ v u Q I rx ry ⟨a, xs, rfl, hy.int, h1, q.old rfl _ ?_⟩
      have e1 : (List.replicate (1 : Int).toNat l).flatten = l := by simp
      rw [e1]
      exact hx.tupleF
    · refine op_repT pins s σ H _ _ v u Q I rx ry ⟨a, k, xs, rfl, hy.int, h1, fun z => ?_, by omega, hl.2.1, by rw [r1.length]; exact hl.2.2.2, q.tuple (replicate_flat r1 _)⟩
      subst z
      have := r1.length
      simp only [List.length_nil] at this
      omega
theorem op_fdivD : OpR X (binaryOp .FloorDiv) (rOp2 X.K .fdiv) := by
  intro pins s σ H x y v u Q I rx ry h
  obtain ⟨F, dx, dy, d, ow, e, hx, hy, hd, q⟩ := h
  cases dx <;> cases dy <;> first | (cases hd; done) | skip
  case int.int i j =>
    have hd' : (if 0 < j then (if j.natAbs.log2 < 9000 then val (.int (i / j)) else .no) else if j ≠ 0 ∧ j.natAbs < 1073741824 then val (.int (i.fdiv j)) else .no) = .ok (d, ow) := hd
    by_cases hj : 0 < j
    · rw [if_pos hj] at hd'
      obtain ⟨hl, hd⟩ := if_ok hd'
      obtain ⟨rfl, rfl⟩ := val_ok hd
      exact op_fdivW pins s σ H x y v u Q I rx ry ⟨i, j, hx.int, hy.int, ⟨hj, hl⟩, q.int⟩
    · rw [if_neg hj] at hd'
      obtain ⟨hl, hd⟩ := if_ok hd'
      obtain ⟨rfl, rfl⟩ := val_ok hd
      exact op_fdivN pins s σ H x y v u Q I rx ry ⟨i, j, hx.int, hy.int, hl, q.int⟩
theorem op_modD : OpR X (binaryOp .Mod) (rOp2 X.K .mod) := by
  intro pins s σ H x y v u Q I rx ry h
  obtain ⟨F, dx, dy, d, ow, e, hx, hy, hd, q⟩ := h
  cases dx <;> cases dy <;> first | (cases hd; done) | skip
  case int.int i j =>
    have hd' : (if 0 < j then val (.int (i % j)) else if j ≠ 0 then val (.int (i.fmod j)) else .no) = .ok (d, ow) := hd
    by_cases hj : 0 < j
    · rw [if_pos hj] at hd'
      obtain ⟨rfl, rfl⟩ := val_ok hd'
      exact op_mod pins s σ H x y v u Q I rx ry ⟨i, j, hx.int, hy.int, hj, q.int⟩
    · rw [if_neg hj] at hd'
      obtain ⟨hl, hd⟩ := if_ok hd'
      obtain ⟨rfl, rfl⟩ := val_ok hd
      exact op_modN pins s σ H x y v u Q I rx ry ⟨i, j, hx.int, hy.int, hl, q.int⟩
theorem op_powD : OpR X (binaryOp .Pow) (rOp2 X.K .pow) := by
  intro pins s σ H x y v u Q I rx ry h
  obtain ⟨F, dx, dy, d, ow, e, hx, hy, hd, q⟩ := h
  cases dx <;> cases dy <;> first | (cases hd; done) | skip
  case int.int i j =>
    obtain ⟨hl, hd⟩ := if_ok hd
    obtain ⟨rfl, rfl⟩ := val_ok hd
    exact op_pow pins s σ H x y v u Q I rx ry ⟨i, j, hx.int, hy.int, hl, q.int⟩
theorem op_shlD : OpR X (binaryOp .LShift) (rOp2 X.K .shl) := by
  intro pins s σ H x y v u Q I rx ry h
  obtain ⟨F, dx, dy, d, ow, e, hx, hy, hd, q⟩ := h
  cases dx <;> cases dy <;> first | (cases hd; done) | skip
  case int.int i j =>
    obtain ⟨hl, hd⟩ := if_ok hd
    obtain ⟨rfl, rfl⟩ := val_ok hd
    exact op_shl pins s σ H x y v u Q I rx ry ⟨i, j, hx.int, hy.int, hl, q.int⟩
theorem op_shrD : OpR X (binaryOp .RShift) (rOp2 X.K .shr) := by
  intro pins s σ H x y v u Q I rx ry h
  obtain ⟨F, dx, dy, d, ow, e, hx, hy, hd, q⟩ := h
  cases dx <;> cases dy <;> first | (cases hd; done) | skip
  case int.int i j =>
    obtain ⟨hl, hd⟩ := if_ok hd
    obtain ⟨rfl, rfl⟩ := val_ok hd
    exact op_shr pins s σ H x y v u Q I rx ry ⟨i, j, hx.int, hy.int, hl, q.int⟩
theorem op_bandD : OpR X (binaryOp .BitAnd) (rOp2 X.K .band) := by
  intro pins s σ H x y v u Q I rx ry h
  obtain ⟨F, dx, dy, d, ow, e, hx, hy, hd, q⟩ := h
  cases dx <;> cases dy <;> first | (cases hd; done) | skip
  case int.int i j =>
    obtain ⟨rfl, rfl⟩ := val_ok hd
    exact op_and pins s σ H x y v u Q I rx ry ⟨i, j, hx.int, hy.int, q.int⟩
theorem op_borD : OpR X (binaryOp .BitOr) (rOp2 X.K .bor) := by
  intro pins s σ H x y v u Q I rx ry h
  obtain ⟨F, dx, dy, d, ow, e, hx, hy, hd, q⟩ := h
  cases dx <;> cases dy <;> first | (cases hd; done) | skip
  case int.int i j =>
    obtain ⟨rfl, rfl⟩ := val_ok hd
    exact op_or pins s σ H x y v u Q I rx ry ⟨i, j, hx.int, hy.int, q.int⟩
/-! ### comparisons -/
theorem flat_v {K : PySem.W.Frag} {F H : Hp} {v : V} {d : D} (f : isFlat d = true) (h : TopR K F H v d) : flatV v = true := by
  cases d with
  | none => rw [h.none]; rfl
  | bool b => rw [h.bool]; rfl
  | int i => rw [h.int]; rfl
  | str s => rw [h.str]; rfl
  | list l => cases f
  | tuple l => cases f
  | dict l => cases f
/-- == of plain things -/
theorem eqvFlat {K : PySem.W.Frag} {F F' H H' : Hp} {v w : V} {d e : D} (f : isFlat d = true) (g : isFlat e = true) (h : TopR K F H v d) (k : TopR K F' H' w e) : eqV v w = PyData.eqv d e := by
  cases d <;> first | (cases f; done) | skip
  all_goals cases e <;> first | (cases g; done) | skip
  all_goals
    first
      | rw [h.none]
      | rw [h.bool]
      | rw [h.int]
      | rw [h.str]
    first
      | rw [k.none]
      | rw [k.bool]
      | rw [k.int]
      | rw [k.str]
    first
      | rfl
      | simp [eqV, PyData.eqv]
theorem shaped_lay {d : D} (h : SeqAt.shaped d = true) : d.canLay0 = true := SeqAt.canLay_of_shaped h
theorem eq_or {d e : D} (h : eqOk d e = true) : (isFlat d = true ∧ isFlat e = true) ∨ (SeqAt.shaped d = true ∧ SeqAt.shaped e = true) := by
  unfold eqOk at h
  rw [Bool.or_eq_true, Bool.and_eq_true, Bool.and_eq_true] at h
  exact h
/-- flat things: told apart at once, or a bool beside an int -/
theorem flat_two {K : PySem.W.Frag} {F F' H H' : Hp} {v w : V} {d e : D} (f : isFlat d = true) (g : isFlat e = true) (h : TopR K F H v d) (k : TopR K F' H' w e) :
    (scal v w = true ∧ decide (v = w) = PyData.eqv d e) ∨ (SeqAt.shaped d = true ∧ SeqAt.shaped e = true) := by
  cases d <;> first | (cases f; done) | skip
  all_goals cases e <;> first | (cases g; done) | skip
  all_goals
    first
      | rw [h.none]
      | rw [h.bool]
      | rw [h.int]
      | rw [h.str]
    first
      | rw [k.none]
      | rw [k.bool]
      | rw [k.int]
      | rw [k.str]
    first
      | exact .inr ⟨rfl, rfl⟩
      | exact .inl ⟨rfl, dec_str⟩
      | exact .inl ⟨rfl, by simp [PyData.eqv]⟩
theorem op_eqDD (hu : X.A.units + 64 < cLine) : OpR X (compareOp .Eq) (rOp2 X.K .eq) := by
  intro pins s σ H x y v u Q I rx ry h
  obtain ⟨F, dx, dy, d, ow, e, hx, hy, hd, q⟩ := h
  obtain ⟨hl, hd⟩ := if_ok hd
  obtain ⟨rfl, rfl⟩ := val_ok hd
  have deep : SeqAt.shaped dx = true ∧ SeqAt.shaped dy = true → wpAny (model X.prog X.w) X.A (compareOp .Eq v u) (EP X pins σ Q) X.xe s := fun z =>
    op_eqD hu pins s σ H x y v u Q I rx ry ⟨dx, dy, Rp.toDp dx x (shaped_lay z.1) (hx.rp e), Rp.toDp dy y (shaped_lay z.2) (hy.rp e), z.1, z.2, q.bool⟩
  rcases eq_or hl with ⟨f, g⟩ | z
  · rcases flat_two f g hx hy with ⟨h1, h2⟩ | z
    · exact op_eq pins s σ H x y v u Q I rx ry ⟨h1, by rw [h2]; exact q.bool⟩
    · exact deep z
  · exact deep z
theorem op_neDD (hu : X.A.units + 64 < cLine) : OpR X (compareOp .NotEq) (rOp2 X.K .ne) := by
  intro pins s σ H x y v u Q I rx ry h
  obtain ⟨F, dx, dy, d, ow, e, hx, hy, hd, q⟩ := h
  obtain ⟨hl, hd⟩ := if_ok hd
  obtain ⟨rfl, rfl⟩ := val_ok hd
  have deep : SeqAt.shaped dx = true ∧ SeqAt.shaped dy = true → wpAny (model X.prog X.w) X.A (compareOp .NotEq v u) (EP X pins σ Q) X.xe s := fun z =>
    op_neD hu pins s σ H x y v u Q I rx ry ⟨dx, dy, Rp.toDp dx x (shaped_lay z.1) (hx.rp e), Rp.toDp dy y (shaped_lay z.2) (hy.rp e), z.1, z.2, q.bool⟩
  rcases eq_or hl with ⟨f, g⟩ | z
  · rcases flat_two f g hx hy with ⟨h1, h2⟩ | z
    · exact op_ne pins s σ H x y v u Q I rx ry ⟨h1, by rw [h2]; exact q.bool⟩
    · exact deep z
  · exact deep z
/-- an order of ints and of texts -/
theorem op_ordD {op : CmpOp} {o : Op2} (ho : ∀ d e, op2 o d e = order o d e)
    (fi : ∀ i j b, orderI o i j = some b → OpR X (compareOp op) (fun x y H Q => x = .int i ∧ y = .int j ∧ Q (.bl b) H))
    (fs : ∀ i j b, orderS o i j = some b → OpR X (compareOp op) (fun x y H Q => x = .str i ∧ y = .str j ∧ Q (.bl b) H)) : OpR X (compareOp op) (rOp2 X.K o) := by
  intro pins s σ H x y v u Q I rx ry h
  obtain ⟨F, dx, dy, d, ow, e, hx, hy, hd, q⟩ := h
  rw [ho] at hd
  cases dx <;> cases dy <;> first | (cases hd; done) | skip
  case int.int i j =>
    obtain ⟨b, hb, hd⟩ := of_ok hd
    obtain ⟨rfl, rfl⟩ := val_ok hd
    exact fi i j b hb pins s σ H x y v u Q I rx ry ⟨hx.int, hy.int, q.bool⟩
  case str.str i j =>
    obtain ⟨b, hb, hd⟩ := of_ok hd
    obtain ⟨rfl, rfl⟩ := val_ok hd
    exact fs i j b hb pins s σ H x y v u Q I rx ry ⟨hx.str, hy.str, q.bool⟩
theorem op_ltD : OpR X (compareOp .Lt) (rOp2 X.K .lt) := op_ordD (fun _ _ => rfl)
  (fun i j b hb pins s σ H x y v u Q I rx ry ⟨h1, h2, q⟩ => op_lt pins s σ H x y v u Q I rx ry ⟨i, j, h1, h2, by cases hb; exact q⟩)
  (fun i j b hb pins s σ H x y v u Q I rx ry ⟨h1, h2, q⟩ => op_lt_str pins s σ H x y v u Q I rx ry ⟨i, j, h1, h2, by cases hb; exact q⟩)
theorem op_leD : OpR X (compareOp .LtE) (rOp2 X.K .le) := op_ordD (fun _ _ => rfl)
  (fun i j b hb pins s σ H x y v u Q I rx ry ⟨h1, h2, q⟩ => op_le pins s σ H x y v u Q I rx ry ⟨i, j, h1, h2, by cases hb; exact q⟩)
  (fun i j b hb pins s σ H x y v u Q I rx ry ⟨h1, h2, q⟩ => op_le_str pins s σ H x y v u Q I rx ry ⟨i, j, h1, h2, by cases hb; exact q⟩)
theorem op_gtD : OpR X (compareOp .Gt) (rOp2 X.K .gt) := op_ordD (fun _ _ => rfl)
  (fun i j b hb pins s σ H x y v u Q I rx ry ⟨h1, h2, q⟩ => op_gt pins s σ H x y v u Q I rx ry ⟨i, j, h1, h2, by cases hb; exact q⟩)
  (fun i j b hb pins s σ H x y v u Q I rx ry ⟨h1, h2, q⟩ => op_gt_str pins s σ H x y v u Q I rx ry ⟨i, j, h1, h2, by cases hb; exact q⟩)
theorem op_geD : OpR X (compareOp .GtE) (rOp2 X.K .ge) := op_ordD (fun _ _ => rfl)
  (fun i j b hb pins s σ H x y v u Q I rx ry ⟨h1, h2, q⟩ => op_ge pins s σ H x y v u Q I rx ry ⟨i, j, h1, h2, by cases hb; exact q⟩)
  (fun i j b hb pins s σ H x y v u Q I rx ry ⟨h1, h2, q⟩ => op_ge_str pins s σ H x y v u Q I rx ry ⟨i, j, h1, h2, by cases hb; exact q⟩)
/-! ### in, not in -/
theorem keyD_inj {k l : Key} : keyEq (keyD k) (keyD l) = decide (l = k) := by
  rw [Bool.eq_iff_iff, decide_eq_true_iff]
  cases k <;> cases l
  · simp only [keyD, keyEq, beq_iff_eq, Sum.inl.injEq]; exact ⟨Eq.symm, Eq.symm⟩
  · simp [keyD, keyEq]
  · simp [keyD, keyEq]
  · simp only [keyD, keyEq, beq_iff_eq, Sum.inr.injEq]; exact ⟨Eq.symm, Eq.symm⟩
theorem isKey_of {d : D} (h : isKey d = true) : ∃ k : Key, d = keyD k := by
  cases d <;> first | (cases h; done) | skip
  · exact ⟨.inl _, rfl⟩
  · exact ⟨.inr _, rfl⟩
theorem kV_top {K : PySem.W.Frag} {F H : Hp} {v : V} {k : Key} (h : TopR K F H v (keyD k)) : v = kV k := by
  cases k with
  | inl i => exact h.int
  | inr s => exact h.str
/-- what a dict's pairs hold at a key -/
theorem RpK.look {K : PySem.W.Frag} {F : Hp} (k : Key) : ∀ {kvs : List (Key × V)} {ds : List (D × D)}, RpK K F kvs ds → (∃ v d, valV kvs k = some v ∧ dGet (keyD k) ds = some d ∧ Rp K F v d) ∨ (valV kvs k = none ∧ dGet (keyD k) ds = none)
  | _, _, .nil => .inr ⟨rfl, rfl⟩
  | _, _, .cons (k := l) (v := v) (kvs := kvs) (d := d) (ds := ds) h r => by
    have e1 : valV ((l, v) :: kvs) k = if l = k then some v else valV kvs k := by
      unfold valV
      rw [List.find?_cons]
      by_cases z : l = k
      · simp [z]
      · simp [z]
    have e2 : dGet (keyD k) ((keyD l, d) :: ds) = if l = k then some d else dGet (keyD k) ds := by
      show (if keyEq (keyD k) (keyD l) = true then some d else dGet (keyD k) ds) = _
      rw [keyD_inj]
      by_cases z : l = k
      · simp [z]
      · simp [z]
    rw [e1, e2]
    by_cases z : l = k
    · rw [if_pos z, if_pos z]
      exact .inl ⟨v, d, rfl, rfl, h⟩
    · rw [if_neg z, if_neg z]
      exact RpK.look k r
theorem op_inDict (hu : X.A.units + 1 < cLine) : OpR X (compareOp .In) (fun x y H Q => ∃ a o, y = .ref a ∧ DGet H a x o ∧ Q (.bl o.isSome) H) := by
  intro pins s σ H x y v u Q I rx ry h
  obtain ⟨a, o, rfl, g, q⟩ := h
  obtain rfl : u = Value.ref a := ry
  exact d_in hu I g rx fun s3 I3 => ⟨.bl o.isSome, H, I3, rfl, q⟩
theorem op_notInDict (hu : X.A.units + 1 < cLine) : OpR X (compareOp .NotIn) (fun x y H Q => ∃ a o, y = .ref a ∧ DGet H a x o ∧ Q (.bl (!o.isSome)) H) := by
  intro pins s σ H x y v u Q I rx ry h
  obtain ⟨a, o, rfl, g, q⟩ := h
  obtain rfl : u = Value.ref a := ry
  exact d_notIn hu I g rx fun s3 I3 => ⟨.bl (!o.isSome), H, I3, rfl, q⟩
theorem flatAll {K : PySem.W.Frag} {F H : Hp} : ∀ {vs : List V} {ds : List D}, RpA K F vs ds → ds.all isFlat = true → vs.all flatV = true
  | _, _, .nil, _ => rfl
  | _, _, .cons h r, f => by
    rw [List.all_cons, Bool.and_eq_true] at f ⊢
    exact ⟨flat_v (H := F) f.1 h.top, flatAll (H := H) r f.2⟩
theorem inFlat {K : PySem.W.Frag} {F H : Hp} {x : V} {d : D} (f : isFlat d = true) (h : TopR K F H x d) : ∀ {vs : List V} {ds : List D}, RpA K F vs ds → ds.all isFlat = true → inV x vs = ds.any fun e => PyData.eqv e d
  | _, _, .nil, _ => rfl
  | _, _, .cons g r, k => by
    rw [List.all_cons, Bool.and_eq_true] at k
    unfold inV
    rw [List.any_cons, List.any_cons, eqvFlat k.1 f (g.top (H := H)) h]
    have := inFlat f h r k.2
    unfold inV at this
    rw [this]
/-- the ways of «in», neg for «not in» -/
theorem in_ways {op : CmpOp} {neg : Bool} (seq : OpR X (compareOp op) (rIn X.K neg)) (dic : OpR X (compareOp op) (fun x y H Q => ∃ a o, y = .ref a ∧ DGet H a x o ∧ Q (.bl (if neg then !o.isSome else o.isSome)) H))
    (sgn : OpR X (compareOp op) (fun x y H Q => ∃ (c : Nat) (z : Str), x = .str ⟨#[c]⟩ ∧ y = .str z ∧ Q (.bl (if neg then !decide (c ∈ z.cps.toList) else decide (c ∈ z.cps.toList))) H))
    {pins : List (Addr × Obj)} {s : Shared} {σ : L2.St} {F H : Hp} {x y : V} {v u : Value} {Q : VK} {dx dy : D} {b : Bool} (I : Inv X pins σ H s) (rx : RelV x v) (ry : RelV y u) (e : Ex F H) (hx : TopR X.K F H x dx) (hy : TopR X.K F H y dy) (hd : isin dx dy = .ok b)
    (q : Q (.bl (if neg then !b else b)) H) : wpAny (model X.prog X.w) X.A (compareOp op v u) (EP X pins σ Q) X.xe s := by
  cases dy <;> first | (cases hd; done) | skip
  case str z =>
    cases dx <;> first | (cases hd; done) | skip
    case str t =>
      obtain ⟨⟨cs⟩⟩ := t
      match cs, hd, hx with
      | [], hd, _ => cases hd
      | [c], hd, hx =>
        cases hd
        exact sgn pins s σ H x y v u Q I rx ry ⟨c, z, hx.str, hy.str, q⟩
      | _ :: _ :: _, hd, _ => cases hd
  case list l =>
    have hd' : (if (isFlat dx && l.all isFlat) = true then R.ok (l.any fun e => PyData.eqv e dx) else .no) = .ok b := hd
    obtain ⟨f, hb⟩ := if_ok hd'
    rw [Bool.and_eq_true] at f
    cases hb
    obtain ⟨a, xs, rfl, h1, r1⟩ := hy.list e
    refine seq pins s σ H x _ v u Q I rx ry ⟨a, xs, rfl, .inl (.inl h1), flat_v f.1 hx, flatAll (H := H) r1 f.2, ?_⟩
    rw [inFlat f.1 hx r1 f.2]
    exact q
  case tuple l =>
    have hd' : (if (isFlat dx && l.all isFlat) = true then R.ok (l.any fun e => PyData.eqv e dx) else .no) = .ok b := hd
    obtain ⟨f, hb⟩ := if_ok hd'
    rw [Bool.and_eq_true] at f
    cases hb
    obtain ⟨a, xs, rfl, h1, r1⟩ := hy.tuple e
    refine seq pins s σ H x _ v u Q I rx ry ⟨a, xs, rfl, .inr h1, flat_v f.1 hx, flatAll (H := H) r1 f.2, ?_⟩
    rw [inFlat f.1 hx r1 f.2]
    exact q
  case dict l =>
    obtain ⟨f, hb⟩ := if_ok (show (if isKey dx = true then R.ok (dGet dx l).isSome else .no) = .ok b from hd)
    cases hb
    obtain ⟨k, rfl⟩ := isKey_of f
    obtain ⟨a, kvs, rfl, h1, r1⟩ := hy.dict e
    have ex := kV_top hx
    subst ex
    refine dic pins s σ H _ _ v u Q I rx ry ⟨a, _, rfl, DGet.k h1, ?_⟩
    rcases r1.look k with ⟨w, d, e1, e2, _⟩ | ⟨e1, e2⟩
    · rw [e1]; rw [e2] at q; exact q
    · rw [e1]; rw [e2] at q; exact q
theorem op_inD' (hu : X.A.units + 1 < cLine) : OpR X (compareOp .In) (rOp2 X.K .isin) := by
  intro pins s σ H x y v u Q I rx ry h
  obtain ⟨F, dx, dy, d, ow, e, hx, hy, hd, q⟩ := h
  obtain ⟨b, hb, hd⟩ := bind_ok (show (isin dx dy).bind (fun b => val (.bool b)) = .ok (d, ow) from hd)
  obtain ⟨rfl, rfl⟩ := val_ok hd
  exact in_ways (neg := false) op_in_seq (op_inDict hu) op_in_sign I rx ry e hx hy hb q.bool
theorem op_notInD' (hu : X.A.units + 1 < cLine) : OpR X (compareOp .NotIn) (rOp2 X.K .notin) := by
  intro pins s σ H x y v u Q I rx ry h
  obtain ⟨F, dx, dy, d, ow, e, hx, hy, hd, q⟩ := h
  obtain ⟨b, hb, hd⟩ := bind_ok (show (isin dx dy).bind (fun b => val (.bool (!b))) = .ok (d, ow) from hd)
  obtain ⟨rfl, rfl⟩ := val_ok hd
  exact in_ways (neg := true) op_notIn_seq (op_notInDict hu) op_notIn_sign I rx ry e hx hy hb q.bool
/-! ### subscripts -/
theorem ix_dict : IxR X (fun x y H Q => ∃ a kvs k v, x = .ref a ∧ y = kV k ∧ H a = some (.dK kvs) ∧ valV kvs k = some v ∧ Q v H) := by
  intro value slice pins s σ H x y v u Q I rx ry h hs
  obtain ⟨a, kvs, k, w, rfl, rfl, e, l, q⟩ := h
  obtain rfl : v = Value.ref a := rx
  have g : DGet H a (kV k) (some w) := by rw [← l]; exact DGet.k e
  obtain ⟨_, _, vs, rel, dd⟩ := dk_rd I.hok (.inl e)
  obtain ⟨w', hw, rw'⟩ := RelO.some_of (v := w) (o := valueAt vs k) (by rw [← l]; exact rel.val k)
  refine subscriptTail_builtinR (x := w') (dict_typeIs I g) F.slot_dict_getitem.lookup ?_ hs
  exact wpAny_getItem_of (kV_is ry) dd.mapOf hw ⟨rfl, w, H, I.tok _, rw', q⟩
theorem RpA.at {K : PySem.W.Frag} {F : Hp} {vs : List V} {ds : List D} {i : Int} {d : D} (r : RpA K F vs ds) (h : atI ds i = some d) : ∃ v, atI vs i = some v ∧ Rp K F v d := by
  unfold atI at h ⊢
  rw [r.length]
  obtain ⟨j, h1, h2⟩ := Option.bind_eq_some_iff.mp h
  obtain ⟨v, h3, h4⟩ := r.get h2
  exact ⟨v, by rw [h1]; exact h3, h4⟩
theorem ix_atD : IxR X (rOp2 X.K .at) := by
  intro value slice pins s σ H x y v u Q I rx ry h hs
  obtain ⟨F, dx, dy, d, ow, e, hx, hy, hd, q⟩ := h
  cases dx <;> first | (cases hd; done) | skip
  case str z =>
    cases dy <;> first | (cases hd; done) | skip
    case int i =>
      obtain ⟨hl, hd⟩ := if_ok hd
      obtain ⟨c, hc, hd⟩ := of_ok hd
      obtain ⟨rfl, rfl⟩ := val_ok hd
      exact ix_str value slice pins s σ H x y v u Q I rx ry ⟨z, i, c, hx.str, hy.int, Nat.le_trans hl lim_le, hc, q.str⟩ hs
  case list l =>
    cases dy <;> first | (cases hd; done) | skip
    case int i =>
      obtain ⟨c, hc, hd⟩ := of_ok hd
      obtain ⟨rfl, rfl⟩ := val_ok hd
      obtain ⟨a, xs, rfl, h1, r1⟩ := hx.list e
      obtain ⟨w, hw, rw'⟩ := r1.at hc
      exact ix_list value slice pins s σ H _ y v u Q I rx ry ⟨a, xs, i, w, rfl, hy.int, .inl h1, hw, q.old rfl _ rw'⟩ hs
  case tuple l =>
    cases dy <;> first | (cases hd; done) | skip
    case int i =>
      obtain ⟨c, hc, hd⟩ := of_ok hd
      obtain ⟨rfl, rfl⟩ := val_ok hd
      obtain ⟨a, xs, rfl, h1, r1⟩ := hx.tuple e
      obtain ⟨w, hw, rw'⟩ := r1.at hc
      exact ix_tup value slice pins s σ H _ y v u Q I rx ry ⟨a, xs, i, w, rfl, hy.int, h1, hw, q.old rfl _ rw'⟩ hs
  case dict l =>
    obtain ⟨f, hd⟩ := if_ok (show (if isKey dy = true then (R.of (dGet dy l)).bind val else .no) = .ok (d, ow) from hd)
    obtain ⟨c, hc, hd⟩ := of_ok hd
    obtain ⟨rfl, rfl⟩ := val_ok hd
    obtain ⟨k, rfl⟩ := isKey_of f
    obtain ⟨a, kvs, rfl, h1, r1⟩ := hx.dict e
    have ey := kV_top hy
    subst ey
    rcases r1.look k with ⟨w, d', e1, e2, r⟩ | ⟨e1, e2⟩
    · rw [hc] at e2
      cases e2
      exact ix_dict value slice pins s σ H _ _ v u Q I rx ry ⟨a, kvs, k, w, rfl, rfl, h1, e1, q.old rfl _ r⟩ hs
    · rw [hc] at e2
      cases e2
/-- slices -/
theorem sl_cutD : SlR X (fun x lo hi H Q => ∃ F dx d ow, Ex F H ∧ TopR X.K F H x dx ∧ cutD dx lo hi = .ok (d, ow) ∧ FinR X.K F H d ow Q) := by
  intro pins s σ H x v vl vu lo hi sl Q I rx hs pl pu h
  obtain ⟨F, dx, d, ow, e, hx, hd, q⟩ := h
  have cut : ∀ {vs : List V} {ds : List D}, RpA X.K F vs ds → RpA X.K F (cutV vs lo hi) (cutL ds lo hi) := fun {vs ds} r => by
    unfold cutV cutL
    rw [r.length]
    exact (r.drop _).take _
  cases dx <;> first | (cases hd; done) | skip
  case str z =>
    obtain ⟨hl, hd⟩ := if_ok hd
    obtain ⟨rfl, rfl⟩ := val_ok hd
    refine sl_str pins s σ H x v vl vu lo hi sl Q I rx hs pl pu ⟨z, hx.str, Nat.le_trans hl lim_le, ?_⟩
    have := q.str
    unfold cutL at this
    rw [Array.length_toList] at this
    exact this
  case list l =>
    obtain ⟨rfl, rfl⟩ := new_ok hd
    obtain ⟨a, xs, rfl, h1, r1⟩ := hx.list e
    exact sl_list pins s σ H _ v vl vu lo hi sl Q I rx hs pl pu ⟨a, xs, rfl, .inl h1, q.list (cut r1)⟩
  case tuple l =>
    obtain ⟨rfl, rfl⟩ := val_ok hd
    obtain ⟨a, xs, rfl, h1, r1⟩ := hx.tuple e
    refine sl_tupA pins s σ H _ v vl vu lo hi sl Q I rx hs pl pu ⟨a, xs, rfl, h1, fun z => ?_, fun _ => q.tuple (cut r1)⟩
    refine q.old rfl _ ?_
    have e1 : cutL l lo hi = l := by
      unfold cutL
      rw [r1.length] at z
      rw [z.1, z.2]
      simp
    rw [e1]
    exact hx.tupleF
/-! ### one operand -/
def rC1 (K : PySem.W.Frag) (o : Op1) : List V → Hp → VK → Prop := fun xs H Q => ∃ x, xs = [x] ∧ rOp1 K o x H Q
theorem un_negD : UnR X (unaryOp .USub) (rOp1 X.K .neg) := by
  intro pins s σ H x v Q I rx h
  obtain ⟨F, dx, d, ow, e, hx, hd, q⟩ := h
  cases dx <;> first | (cases hd; done) | skip
  case int i =>
    obtain ⟨rfl, rfl⟩ := val_ok hd
    exact un_neg pins s σ H x v Q I rx ⟨i, hx.int, q.int⟩
theorem cr_lenD : CallR X (.builtin "len") (rC1 X.K .len) := by
  intro pins s σ H xs us Q I r h
  obtain ⟨x, rfl, F, dx, d, ow, e, hx, hd, q⟩ := h
  cases dx <;> first | (cases hd; done) | skip
  case str z =>
    obtain ⟨hl, hd⟩ := if_ok hd
    obtain ⟨rfl, rfl⟩ := val_ok hd
    exact call_len pins s σ H _ us Q I r ⟨x, _, rfl, by rw [hx.str]; exact ⟨Nat.le_trans hl lim_le, rfl⟩, q.int⟩
  case list l =>
    obtain ⟨rfl, rfl⟩ := val_ok hd
    obtain ⟨a, ys, rfl, h1, r1⟩ := hx.list e
    exact call_len pins s σ H _ us Q I r ⟨_, _, rfl, .inl ⟨ys, .inl h1, r1.length.symm⟩, q.int⟩
  case tuple l =>
    obtain ⟨rfl, rfl⟩ := val_ok hd
    obtain ⟨a, ys, rfl, h1, r1⟩ := hx.tuple e
    exact call_len pins s σ H _ us Q I r ⟨_, _, rfl, .inr ⟨ys, h1, r1.length.symm⟩, q.int⟩
  case dict l =>
    obtain ⟨rfl, rfl⟩ := val_ok hd
    obtain ⟨a, kvs, rfl, h1, r1⟩ := hx.dict e
    have z := q.int
    rw [← r1.length] at z
    rw [Vals.ref1 r]
    exact d_len I (.inl h1) fun t s' I' => ⟨.int _, H, I', ⟨_, rfl⟩, z⟩
theorem cr_absD : CallR X (.builtin "abs") (rC1 X.K .abs) := by
  intro pins s σ H xs us Q I r h
  obtain ⟨x, rfl, F, dx, d, ow, e, hx, hd, q⟩ := h
  cases dx <;> first | (cases hd; done) | skip
  case int i =>
    obtain ⟨rfl, rfl⟩ := val_ok hd
    exact call_abs pins s σ H _ us Q I r ⟨i, by rw [hx.int], q.int⟩
theorem cr_intD : CallR X (.type "int") (rC1 X.K .int) := by
  intro pins s σ H xs us Q I r h
  obtain ⟨x, rfl, F, dx, d, ow, e, hx, hd, q⟩ := h
  cases dx <;> first | (cases hd; done) | skip
  case bool b =>
    obtain ⟨rfl, rfl⟩ := val_ok hd
    exact call_int1 pins s σ H _ us Q I r (.inr ⟨b, by rw [hx.bool], q.int⟩)
  case int i =>
    obtain ⟨rfl, rfl⟩ := val_ok hd
    exact call_int1 pins s σ H _ us Q I r (.inl ⟨i, by rw [hx.int], q.int⟩)
theorem cr_strD : CallR X (.type "str") (rC1 X.K .str) := by
  intro pins s σ H xs us Q I r h
  obtain ⟨x, rfl, F, dx, d, ow, e, hx, hd, q⟩ := h
  cases dx <;> first | (cases hd; done) | skip
  case str z =>
    obtain ⟨rfl, rfl⟩ := val_ok hd
    exact SkE.call_str_str pins s σ H _ us Q I r ⟨z, by rw [hx.str], q.str⟩
  case int i =>
    obtain ⟨hl, hd⟩ := if_ok hd
    obtain ⟨rfl, rfl⟩ := val_ok hd
    exact call_str_int pins s σ H _ us Q I r ⟨i, by rw [hx.int], hl, q.str⟩
theorem cr_reprD (hu : X.A.units + 100 < cLine) (hg : X.A.guards = some []) : CallR X (.builtin "repr") (rC1 X.K .repr) := by
  intro pins s σ H xs us Q I r h
  obtain ⟨x, rfl, F, dx, d, ow, e, hx, hd, q⟩ := h
  obtain ⟨hc, hd⟩ := if_ok (show (if (dx.showable && !dx.hasDict && decide (dx.depth ≤ 64) && decide (dx.shown.length ≤ sizeLine)) = true then val (.str dx.shown) else .no) = .ok (d, ow) from hd)
  obtain ⟨rfl, rfl⟩ := val_ok hd
  simp only [Bool.and_eq_true, Bool.not_eq_true', decide_eq_true_eq] at hc
  obtain ⟨⟨⟨h1, h2⟩, h3⟩, h4⟩ := hc
  obtain ⟨u, rfl, rx⟩ := vals1 r
  have deep : ∀ a, x = .ref a → wpAny (model X.prog X.w) X.A (call (.builtin "repr") [u]) (EP X pins σ Q) X.xe s := fun a ea => by
    subst ea
    obtain rfl : u = Value.ref a := rx
    obtain ⟨as, rd⟩ := Dp.reads I dx (.ref a) (.ref a) (Rp.toDpN dx _ h2 (hx.rp e)) rfl
    exact repr_of_reads' rd h1 (PyData.noDict_hsm h2) hg (by omega) (fun _ _ z => z) (fun h' t tk hk => ⟨.str _, H, I.kept (t' := tk) hk, ⟨t, rfl⟩, q.str⟩) h4
  cases dx with
  | none =>
    have ex := hx.none
    subst ex
    obtain rfl : u = Value.none := rx
    exact PySem.P.repr_of_none ⟨.str _, H, I.tok _, ⟨_, rfl⟩, q.str⟩
  | bool b =>
    have ex := hx.bool
    subst ex
    obtain rfl : u = Value.bool b := rx
    refine PySem.P.repr_of_bool ⟨.str _, H, I.tok _, ⟨_, rfl⟩, ?_⟩
    have z := q.str
    cases b <;> exact z
  | int i =>
    have ex := hx.int
    subst ex
    obtain ⟨t, rfl⟩ := rx
    exact PySem.P.repr_of_int (by simpa [PyData.showable] using h1) ⟨.str _, H, I.tok _, ⟨_, rfl⟩, q.str⟩
  | str z =>
    have ex := hx.str
    subst ex
    obtain ⟨t, rfl⟩ := rx
    exact PySem.P.repr_of_str ⟨.str _, H, I.tok _, ⟨_, rfl⟩, q.str⟩ h4
  | list l => obtain ⟨a, ys, ea, _⟩ := hx.list e; exact deep a ea
  | tuple l => obtain ⟨a, ys, ea, _⟩ := hx.tuple e; exact deep a ea
  | dict l => simp [PyData.hasDict] at h2
theorem cr_allD (hc : X.calm = true) : CallR X (.builtin "all") (rC1 X.K .all) := by
  intro pins s σ H xs us Q I r h
  obtain ⟨x, rfl, F, dx, d, ow, e, hx, hd, q⟩ := h
  cases dx <;> first | (cases hd; done) | skip
  case list l =>
    obtain ⟨bs, hb, hd⟩ := of_ok hd
    obtain ⟨rfl, rfl⟩ := val_ok hd
    obtain ⟨a, ys, rfl, h1, r1⟩ := hx.list e
    have ey := r1.asBools hb
    subst ey
    exact cr_all hc pins s σ H _ us Q I r ⟨a, bs, rfl, .inl h1, q.bool⟩
theorem cr_anyD (hc : X.calm = true) : CallR X (.builtin "any") (rC1 X.K .any) := by
  intro pins s σ H xs us Q I r h
  obtain ⟨x, rfl, F, dx, d, ow, e, hx, hd, q⟩ := h
  cases dx <;> first | (cases hd; done) | skip
  case list l =>
    obtain ⟨bs, hb, hd⟩ := of_ok hd
    obtain ⟨rfl, rfl⟩ := val_ok hd
    obtain ⟨a, ys, rfl, h1, r1⟩ := hx.list e
    have ey := r1.asBools hb
    subst ey
    exact cr_any hc pins s σ H _ us Q I r ⟨a, bs, rfl, .inl h1, q.bool⟩
theorem cr_sumD (hc : X.calm = true) : CallR X (.builtin "sum") (rC1 X.K .sum) := by
  intro pins s σ H xs us Q I r h
  obtain ⟨x, rfl, F, dx, d, ow, e, hx, hd, q⟩ := h
  cases dx <;> first | (cases hd; done) | skip
  case list l =>
    obtain ⟨bs, hb, hd⟩ := of_ok hd
    obtain ⟨rfl, rfl⟩ := val_ok hd
    obtain ⟨a, ys, rfl, h1, r1⟩ := hx.list e
    have ey := r1.asInts hb
    subst ey
    exact cr_sum hc pins s σ H _ us Q I r ⟨a, bs, rfl, .inl h1, q.int⟩
theorem maxL_ok : ∀ (l : List Int) (m : Int), (maxL m l = m ∨ maxL m l ∈ l) ∧ m ≤ maxL m l ∧ ∀ y ∈ l, y ≤ maxL m l
  | [], m => ⟨.inl rfl, Int.le_refl _, fun _ h => nomatch h⟩
  | a :: l, m => by
    obtain ⟨h1, h2, h3⟩ := maxL_ok l (if a > m then a else m)
    show (maxL _ l = m ∨ maxL _ l ∈ a :: l) ∧ m ≤ maxL _ l ∧ ∀ y ∈ a :: l, y ≤ maxL _ l
    by_cases c : a > m
    · rw [if_pos c] at h1 h2 h3 ⊢
      refine ⟨.inr ?_, by omega, fun y hy => ?_⟩
      · rcases h1 with h1 | h1
        · rw [h1]; exact List.mem_cons_self
        · exact List.mem_cons_of_mem _ h1
      · rcases List.mem_cons.mp hy with rfl | hy
        · exact h2
        · exact h3 y hy
    · rw [if_neg c] at h1 h2 h3 ⊢
      refine ⟨?_, h2, fun y hy => ?_⟩
      · rcases h1 with h1 | h1
        · exact .inl h1
        · exact .inr (List.mem_cons_of_mem _ h1)
      · rcases List.mem_cons.mp hy with rfl | hy
        · omega
        · exact h3 y hy
theorem minL_ok : ∀ (l : List Int) (m : Int), (minL m l = m ∨ minL m l ∈ l) ∧ minL m l ≤ m ∧ ∀ y ∈ l, minL m l ≤ y
  | [], m => ⟨.inl rfl, Int.le_refl _, fun _ h => nomatch h⟩
  | a :: l, m => by
    obtain ⟨h1, h2, h3⟩ := minL_ok l (if a < m then a else m)
    show (minL _ l = m ∨ minL _ l ∈ a :: l) ∧ minL _ l ≤ m ∧ ∀ y ∈ a :: l, minL _ l ≤ y
    by_cases c : a < m
    · rw [if_pos c] at h1 h2 h3 ⊢
      refine ⟨.inr ?_, by omega, fun y hy => ?_⟩
      · rcases h1 with h1 | h1
        · rw [h1]; exact List.mem_cons_self
        · exact List.mem_cons_of_mem _ h1
      · rcases List.mem_cons.mp hy with rfl | hy
        · exact h2
        · exact h3 y hy
    · rw [if_neg c] at h1 h2 h3 ⊢
      refine ⟨?_, h2, fun y hy => ?_⟩
      · rcases h1 with h1 | h1
        · exact .inl h1
        · exact .inr (List.mem_cons_of_mem _ h1)
      · rcases List.mem_cons.mp hy with rfl | hy
        · omega
        · exact h3 y hy
theorem maxL_mem {a : Int} {l : List Int} : maxL a l ∈ a :: l ∧ ∀ y ∈ a :: l, y ≤ maxL a l := by
  obtain ⟨h1, h2, h3⟩ := maxL_ok l a
  refine ⟨?_, fun y hy => ?_⟩
  · rcases h1 with h1 | h1
    · rw [h1]; exact List.mem_cons_self
    · exact List.mem_cons_of_mem _ h1
  · rcases List.mem_cons.mp hy with rfl | hy
    · exact h2
    · exact h3 y hy
theorem minL_mem {a : Int} {l : List Int} : minL a l ∈ a :: l ∧ ∀ y ∈ a :: l, minL a l ≤ y := by
  obtain ⟨h1, h2, h3⟩ := minL_ok l a
  refine ⟨?_, fun y hy => ?_⟩
  · rcases h1 with h1 | h1
    · rw [h1]; exact List.mem_cons_self
    · exact List.mem_cons_of_mem _ h1
  · rcases List.mem_cons.mp hy with rfl | hy
    · exact h2
    · exact h3 y hy
theorem cr_maxD (hc : X.calm = true) : CallR X (.builtin "max") (rC1 X.K .max) := by
  intro pins s σ H xs us Q I r h
  obtain ⟨x, rfl, F, dx, d, ow, e, hx, hd, q⟩ := h
  cases dx <;> first | (cases hd; done) | skip
  case list l =>
    obtain ⟨bs, hb, hd⟩ := of_ok hd
    cases bs with
    | nil => cases hd
    | cons b bs =>
      obtain ⟨rfl, rfl⟩ := val_ok hd
      obtain ⟨a, ys, rfl, h1, r1⟩ := hx.list e
      have ey := r1.asInts hb
      subst ey
      refine cr_max hc pins s σ H _ us Q I r ⟨a, b :: bs, rfl, .inl h1, Nat.succ_pos _, fun m h2 h3 => ?_⟩
      obtain ⟨h4, h5⟩ := maxL_mem (a := b) (l := bs)
      have em : m = maxL b bs := Int.le_antisymm (h5 m h2) (h3 _ h4)
      rw [em]
      exact q.int
theorem cr_minD (hc : X.calm = true) : CallR X (.builtin "min") (rC1 X.K .min) := by
  intro pins s σ H xs us Q I r h
  obtain ⟨x, rfl, F, dx, d, ow, e, hx, hd, q⟩ := h
  cases dx <;> first | (cases hd; done) | skip
  case list l =>
    obtain ⟨bs, hb, hd⟩ := of_ok hd
    cases bs with
    | nil => cases hd
    | cons b bs =>
      obtain ⟨rfl, rfl⟩ := val_ok hd
      obtain ⟨a, ys, rfl, h1, r1⟩ := hx.list e
      have ey := r1.asInts hb
      subst ey
      refine cr_min hc pins s σ H _ us Q I r ⟨a, b :: bs, rfl, .inl h1, Nat.succ_pos _, fun m h2 h3 => ?_⟩
      obtain ⟨h4, h5⟩ := minL_mem (a := b) (l := bs)
      have em : m = minL b bs := Int.le_antisymm (h3 _ h4) (h5 m h2)
      rw [em]
      exact q.int
theorem cr_tupleD : CallR X (.type "tuple") (rC1 X.K .tuple) := by
  intro pins s σ H xs us Q I r h
  obtain ⟨x, rfl, F, dx, d, ow, e, hx, hd, q⟩ := h
  cases dx <;> first | (cases hd; done) | skip
  case list l =>
    obtain ⟨rfl, rfl⟩ := val_ok hd
    obtain ⟨a, ys, rfl, h1, r1⟩ := hx.list e
    exact call_tuple_of pins s σ H _ us Q I r ⟨a, ys, rfl, .inl ⟨.inl h1, q.tuple r1⟩⟩
  case tuple l =>
    obtain ⟨rfl, rfl⟩ := val_ok hd
    obtain ⟨a, ys, rfl, h1, r1⟩ := hx.tuple e
    exact call_tuple_of pins s σ H _ us Q I r ⟨a, ys, rfl, .inr ⟨h1, q.old rfl _ hx.tupleF⟩⟩
theorem cr_listD : CallR X (.type "list") (rC1 X.K .list) := by
  intro pins s σ H xs us Q I r h
  obtain ⟨x, rfl, F, dx, d, ow, e, hx, hd, q⟩ := h
  cases dx <;> first | (cases hd; done) | skip
  case list l =>
    obtain ⟨rfl, rfl⟩ := new_ok hd
    obtain ⟨a, ys, rfl, h1, r1⟩ := hx.list e
    exact call_list_of pins s σ H _ us Q I r ⟨a, ys, rfl, .inl (.inl h1), q.list r1⟩
  case tuple l =>
    obtain ⟨rfl, rfl⟩ := new_ok hd
    obtain ⟨a, ys, rfl, h1, r1⟩ := hx.tuple e
    exact call_list_of pins s σ H _ us Q I r ⟨a, ys, rfl, .inr h1, q.list r1⟩
def tyN : Ty → String
  | .int => "int"
  | .bool => "bool"
  | .str => "str"
  | .tuple => "tuple"
  | .list => "list"
theorem tyX_dict {K : PySem.W.Frag} {H : Hp} {v : V} {d : D} (h : Rp K H v d) : ∃ n : String, TyX K H v (.type n) ∧ ∀ t, kitB n (tyN t) = some (isTy t d) := by
  cases h with
  | non => exact ⟨"NoneType", .base .non, fun t => by cases t <;> first | (show kitB _ _ = some true; decide +kernel) | (show kitB _ _ = some false; decide +kernel)⟩
  | bl b => exact ⟨"bool", .base (.bl b), fun t => by cases t <;> first | (show kitB _ _ = some true; decide +kernel) | (show kitB _ _ = some false; decide +kernel)⟩
  | int i => exact ⟨"int", .base (.int i), fun t => by cases t <;> first | (show kitB _ _ = some true; decide +kernel) | (show kitB _ _ = some false; decide +kernel)⟩
  | str s => exact ⟨"str", .base (.str s), fun t => by cases t <;> first | (show kitB _ _ = some true; decide +kernel) | (show kitB _ _ = some false; decide +kernel)⟩
  | lst h r =>
    refine ⟨"list", ?_, fun t => by cases t <;> first | (show kitB _ _ = some true; decide +kernel) | (show kitB _ _ = some false; decide +kernel)⟩
    rcases h with h | ⟨o, h⟩
    · exact .base (.lst h)
    · exact .base (.frz h)
  | tup h r =>
    refine ⟨"tuple", ?_, fun t => by cases t <;> first | (show kitB _ _ = some true; decide +kernel) | (show kitB _ _ = some false; decide +kernel)⟩
    rcases h with (h | ⟨o, h⟩) | ⟨o, its, n, h1, h2, _⟩
    · exact .base (.tup h)
    · exact .fTuple h
    · exact .kTuple h1 h2
  | dic h r => exact ⟨"dict", .base (.dK h), fun t => by cases t <;> first | (show kitB _ _ = some true; decide +kernel) | (show kitB _ _ = some false; decide +kernel)⟩
theorem cr_isiD (t : Ty) : CallR X (.builtin "isinstance") (fun xs H Q => ∃ x, xs = [x, .ty (tyN t)] ∧ rOp1 X.K (.isi t) x H Q) := by
  intro pins s σ H xs us Q I r h
  obtain ⟨x, rfl, F, dx, d, ow, e, hx, hd, q⟩ := h
  obtain ⟨rfl, rfl⟩ := val_ok (show val (.bool (isTy t dx)) = .ok (d, ow) from hd)
  obtain ⟨n, ty, hk⟩ := tyX_dict (hx.rp e)
  exact call_isi pins s σ H _ us Q I r ⟨x, .ty (tyN t), .type n, .type (tyN t), isTy t dx, rfl, .ty _, ty, kit_ty (hk t), q.bool⟩
theorem op_isND : OpR X (compareOp .Is) (fun x y H Q => y = .non ∧ rOp1 X.K .isN x H Q) := by
  intro pins s σ H x y v u Q I rx ry h
  obtain ⟨rfl, F, dx, d, ow, e, hx, hd, q⟩ := h
  refine op_isN pins s σ H x _ v u Q I rx ry ⟨rfl, ?_⟩
  have r := hx.rp e
  cases r <;> (obtain ⟨rfl, rfl⟩ := val_ok hd; exact q.bool)
theorem op_notND : OpR X (compareOp .IsNot) (fun x y H Q => y = .non ∧ rOp1 X.K .notN x H Q) := by
  intro pins s σ H x y v u Q I rx ry h
  obtain ⟨rfl, F, dx, d, ow, e, hx, hd, q⟩ := h
  refine op_notN pins s σ H x _ v u Q I rx ry ⟨rfl, ?_⟩
  have r := hx.rp e
  cases r <;> (obtain ⟨rfl, rfl⟩ := val_ok hd; exact q.bool)
/-! ### two arguments -/
def rC2 (K : PySem.W.Frag) (o : Op2) : List V → Hp → VK → Prop := fun xs H Q => ∃ x y, xs = [x, y] ∧ rOp2 K o x y H Q
theorem cr_max2D (hc : X.calm = true) : CallR X (.builtin "max") (rC2 X.K .max) := by
  intro pins s σ H xs us Q I r h
  obtain ⟨x, y, rfl, F, dx, dy, d, ow, e, hx, hy, hd, q⟩ := h
  cases dx <;> cases dy <;> first | (cases hd; done) | skip
  case int.int i j =>
    obtain ⟨rfl, rfl⟩ := val_ok hd
    exact call_max2 hc pins s σ H _ us Q I r ⟨i, j, by rw [hx.int, hy.int], q.int⟩
theorem cr_min2D (hc : X.calm = true) : CallR X (.builtin "min") (rC2 X.K .min) := by
  intro pins s σ H xs us Q I r h
  obtain ⟨x, y, rfl, F, dx, dy, d, ow, e, hx, hy, hd, q⟩ := h
  cases dx <;> cases dy <;> first | (cases hd; done) | skip
  case int.int i j =>
    obtain ⟨rfl, rfl⟩ := val_ok hd
    exact call_min2 hc pins s σ H _ us Q I r ⟨i, j, by rw [hx.int, hy.int], q.int⟩
/-! ### truth -/
theorem truD {K : PySem.W.Frag} {F H : Hp} {v : V} {d : D} {b : Bool} (e : Ex F H) (hx : TopR K F H v d) (h : truth d = some b) : TruV K v H b := by
  have emp : ∀ {vs : List V} {ds : List D}, RpA K F vs ds → (!ds.isEmpty) = !vs.isEmpty := fun r => by cases r <;> rfl
  cases d with
  | none => rw [hx.none]; cases h; rfl
  | bool c => rw [hx.bool]; cases h; rfl
  | int i => rw [hx.int]; cases h; rfl
  | str s =>
    rw [hx.str]
    have h' : (if s.length ≤ lim then some ((s.length : Int) != 0) else none) = some b := h
    by_cases hl : s.length ≤ lim
    · rw [if_pos hl] at h'
      exact ⟨Nat.le_trans hl lim_le, (Option.some.inj h').symm⟩
    · rw [if_neg hl] at h'
      cases h'
  | list l =>
    obtain ⟨a, xs, rfl, h1, r⟩ := hx.list e
    cases h
    exact .inl ⟨xs, .inl h1, emp r⟩
  | tuple l =>
    obtain ⟨a, xs, rfl, h1, r⟩ := hx.tuple e
    cases h
    exact .inr (.inl ⟨xs, h1, emp r⟩)
  | dict l =>
    obtain ⟨a, kvs, rfl, h1, r⟩ := hx.dict e
    cases h
    exact .inr (.inr ⟨kvs, h1, by cases r <;> rfl⟩)
end
end SF

/-! What loops and comprehensions walk. -/
namespace SF
open PySem PySem.Spec PyProof.Rows L2
open Evl (Ex)

/-- an iterator that gives the items l, whatever else changes beside F -/
def IR (K : PySem.W.Frag) (F : Hp) (J : It) (l : List D) : Prop := ∃ (G : Hp → Prop) (Y : Nat → Hp → V → Hp → Prop), Walk J l.length G Y ∧ (∀ H, Ex F H → G H) ∧
  ∀ (i : Nat) (H : Hp) (v : V) (H' : Hp) (d : D), l[i]? = some d → Ex F H → Y i H v H' → (H' = H ∧ Rp K F v d) ∨ ∃ p xs es, v = .ref p ∧ H p = none ∧ H' = upd H p (.tup xs) ∧ d = .tuple es ∧ RpA K F xs es
section
variable {K : PySem.W.Frag} {F : Hp}
theorem IR.mk {J : It} {l : List D} {n : Nat} {G : Hp → Prop} {Y : Nat → Hp → V → Hp → Prop} (w : Walk J n G Y) (hn : l.length = n) (g : ∀ H, Ex F H → G H)
    (y : ∀ (i : Nat) (H : Hp) (v : V) (H' : Hp) (d : D), l[i]? = some d → Ex F H → Y i H v H' → (H' = H ∧ Rp K F v d) ∨ ∃ p xs es, v = .ref p ∧ H p = none ∧ H' = upd H p (.tup xs) ∧ d = .tuple es ∧ RpA K F xs es) : IR K F J l :=
  ⟨G, Y, by rw [hn]; exact w, g, y⟩
theorem ir_list {a : Addr} {xs : List V} {l : List D} (h : Rd F a (.lst xs)) (r : RpA K F xs l) : IR K F (Itl K a) l := by
  refine .mk walk_list r.length.symm (fun H e => .inl (Evl.ex_rd e h)) fun i H v H' d hd e y => .inl ⟨y.1, ?_⟩
  obtain ⟨w, h1, h2⟩ := r.get hd
  have h3 := y.2
  rw [h1] at h3
  cases h3
  exact h2
theorem ir_tup {a : Addr} {xs : List V} {l : List D} (h : SqT K F a xs) (r : RpA K F xs l) : IR K F (Itt K a) l := by
  refine .mk walk_tup r.length.symm (fun H e => Evl.ex_t e h) fun i H v H' d hd e y => .inl ⟨y.1, ?_⟩
  obtain ⟨w, h1, h2⟩ := r.get hd
  have h3 := y.2
  rw [h1] at h3
  cases h3
  exact h2
theorem ir_str {z : Str} : IR K F (Its z) (z.cps.toList.map fun c => .str ⟨#[c]⟩) := by
  have e1 : (z.cps.toList.map fun c => (PyData.str ⟨#[c]⟩)).length = z.cps.size := by rw [List.length_map, Array.length_toList]
  refine .mk walk_str e1 (fun H e => trivial) fun i H v H' d hd e y => .inl ⟨y.1, ?_⟩
  obtain ⟨c, h1, h2⟩ := y.2
  rw [List.getElem?_map, Array.getElem?_toList, h1] at hd
  cases hd
  rw [h2]
  exact .str _
theorem ir_range {a b : Int} : IR K F (Itr a (b - a).toNat) (rangeL a b) := by
  have e1 : (rangeL a b).length = (b - a).toNat := by unfold rangeL; rw [List.length_map, List.length_range]
  refine .mk walk_range e1 (fun H e => trivial) fun i H v H' d hd e y => .inl ⟨y.1, ?_⟩
  unfold rangeL at hd
  rw [List.getElem?_map] at hd
  obtain ⟨j, h1, h2⟩ := Option.map_eq_some_iff.mp hd
  obtain ⟨h3, h4⟩ := List.getElem?_eq_some_iff.mp h1
  rw [List.getElem_range] at h4
  subst h4
  subst h2
  rw [y.2]
  exact .int _
theorem enumL_len (l : List D) : (enumL l).length = l.length := by unfold enumL; rw [List.length_map, List.length_zipIdx]
theorem enumL_get {l : List D} {i : Nat} {d : D} (h : (enumL l)[i]? = some d) : ∃ e, l[i]? = some e ∧ d = .tuple [.int (i : Nat), e] := by
  unfold enumL at h
  rw [List.getElem?_map] at h
  obtain ⟨p, h1, h2⟩ := Option.map_eq_some_iff.mp h
  rw [List.getElem?_zipIdx] at h1
  obtain ⟨e, h3, h4⟩ := Option.map_eq_some_iff.mp h1
  subst h4
  exact ⟨e, h3, by rw [← h2, Nat.zero_add]⟩
theorem ir_enumL {a : Addr} {xs : List V} {l : List D} (h : Rd F a (.lst xs)) (r : RpA K F xs l) : IR K F (Ite K a) (enumL l) := by
  refine .mk walk_enum ((enumL_len l).trans r.length.symm) (fun H e => .inl (Evl.ex_rd e h)) fun i H v H' d hd e y => .inr ?_
  obtain ⟨T, x, y', h1, h2, h3, h4, h5⟩ := y
  obtain ⟨e', h6, rfl⟩ := enumL_get hd
  obtain ⟨w, h7, h8⟩ := r.get h6
  have q5 := h7.symm.trans h5
  cases q5
  cases h4
  exact ⟨T, _, _, h1, h2, h3, rfl, .cons (.int _) (.cons h8 .nil)⟩
/-- enumerate over a tuple -/
def IteT (K : PySem.W.Frag) (a : Addr) : It :=
  ⟨fun i H => ∃ (xs : List V) (x : V), SqT K H a xs ∧ xs[i]? = some x, fun i H v H' => ∃ T x, v = .ref T ∧ H T = none ∧ H' = upd H T (.tup [.int (i : Nat), x]) ∧ ∀ xs, SqT K H a xs → xs[i]? = some x, fun i H => ∃ xs : List V, SqT K H a xs ∧ xs.length = i⟩
theorem walk_enumT {a : Addr} {xs : List V} : Walk (IteT K a) xs.length (fun H => SqT K H a xs) (YPair (fun i => some (.int (i : Nat))) (fun i => xs[i]?)) := by
  refine ⟨fun i _ hi q => ⟨xs, xs[i], q, by simp [hi]⟩, fun _ q => ⟨xs, q, rfl⟩, fun i H v H' _ q y => ?_⟩
  obtain ⟨T, x, h1, h2, h3, h4⟩ := y
  exact ⟨T, .int (i : Nat), x, h1, h2, h3, rfl, h4 xs q⟩
theorem ir_enumT {a : Addr} {xs : List V} {l : List D} (h : SqT K F a xs) (r : RpA K F xs l) : IR K F (IteT K a) (enumL l) := by
  refine .mk walk_enumT ((enumL_len l).trans r.length.symm) (fun H e => Evl.ex_t e h) fun i H v H' d hd e y => .inr ?_
  obtain ⟨T, x, y', h1, h2, h3, h4, h5⟩ := y
  obtain ⟨e', h6, rfl⟩ := enumL_get hd
  obtain ⟨w, h7, h8⟩ := r.get h6
  have q5 := h7.symm.trans h5
  cases q5
  cases h4
  exact ⟨T, _, _, h1, h2, h3, rfl, .cons (.int _) (.cons h8 .nil)⟩
theorem zip_get {l m : List D} {i : Nat} {d : D} (h : ((l.zip m).map fun p => PyData.tuple [p.1, p.2])[i]? = some d) : ∃ a b, l[i]? = some a ∧ m[i]? = some b ∧ d = .tuple [a, b] := by
  rw [List.getElem?_map] at h
  obtain ⟨p, h1, h2⟩ := Option.map_eq_some_iff.mp h
  rw [List.getElem?_zip_eq_some] at h1
  exact ⟨p.1, p.2, h1.1, h1.2, h2.symm⟩
theorem ir_zipL {a b : Addr} {xs ys : List V} {l m : List D} (h : Rd F a (.lst xs)) (h' : Rd F b (.lst ys)) (r : RpA K F xs l) (r' : RpA K F ys m) : IR K F (Itz K a b) ((l.zip m).map fun p => .tuple [p.1, p.2]) := by
  refine .mk (walk_zip (xs := xs) (ys := ys) rfl) (by rw [List.length_map, List.length_zip, r.length, r'.length]) (fun H e => ⟨.inl (Evl.ex_rd e h), .inl (Evl.ex_rd e h')⟩) fun i H v H' d hd e y => .inr ?_
  obtain ⟨T, x, y', h1, h2, h3, h4, h5⟩ := y
  obtain ⟨d1, d2, h6, h7, rfl⟩ := zip_get hd
  obtain ⟨w, g1, g2⟩ := r.get h6
  obtain ⟨w', g3, g4⟩ := r'.get h7
  have q4 := g1.symm.trans h4
  have q5 := g3.symm.trans h5
  cases q4
  cases q5
  exact ⟨T, _, _, h1, h2, h3, rfl, .cons g2 (.cons g4 .nil)⟩
theorem walk_zipT {a b : Addr} {xs ys : List V} {n : Nat} (hn : n = min xs.length ys.length) : Walk (RZ.ItzT K a b) n (fun H => SqT K H a xs ∧ SqT K H b ys) (YPair (fun i => xs[i]?) (fun i => ys[i]?)) := by
  subst hn
  refine ⟨fun i _ hi q => ?_, fun _ q => ⟨xs, ys, q.1, q.2, by omega⟩, fun i H v H' _ q y => ?_⟩
  · have h1 : i < xs.length := by omega
    have h2 : i < ys.length := by omega
    exact ⟨xs, ys, xs[i], ys[i], q.1, q.2, by simp [h1], by simp [h2]⟩
  · obtain ⟨T, x, y', h1, h2, h3, h4, h5⟩ := y
    exact ⟨T, x, y', h1, h2, h3, h4 xs q.1, h5 ys q.2⟩
theorem ir_zipT {a b : Addr} {xs ys : List V} {l m : List D} (h : SqT K F a xs) (h' : SqT K F b ys) (r : RpA K F xs l) (r' : RpA K F ys m) : IR K F (RZ.ItzT K a b) ((l.zip m).map fun p => .tuple [p.1, p.2]) := by
  refine .mk (walk_zipT (xs := xs) (ys := ys) rfl) (by rw [List.length_map, List.length_zip, r.length, r'.length]) (fun H e => ⟨Evl.ex_t e h, Evl.ex_t e h'⟩) fun i H v H' d hd e y => .inr ?_
  obtain ⟨T, x, y', h1, h2, h3, h4, h5⟩ := y
  obtain ⟨d1, d2, h6, h7, rfl⟩ := zip_get hd
  obtain ⟨w, g1, g2⟩ := r.get h6
  obtain ⟨w', g3, g4⟩ := r'.get h7
  have q4 := g1.symm.trans h4
  have q5 := g3.symm.trans h5
  cases q4
  cases q5
  exact ⟨T, _, _, h1, h2, h3, rfl, .cons g2 (.cons g4 .nil)⟩
theorem ir_rev {a : Addr} {xs : List V} {l : List D} (h : Rd F a (.lst xs)) (r : RpA K F xs l) : IR K F (Itv K a xs.length) l.reverse := by
  refine .mk walk_rev ((List.length_reverse).trans r.length.symm) (fun H e => .inl (Evl.ex_rd e h)) fun i H v H' d hd e y => .inl ⟨y.1, ?_⟩
  have hi : i < l.length := by
    have := (List.getElem?_eq_some_iff.mp hd).1
    rw [List.length_reverse] at this
    exact this
  rw [List.getElem?_reverse hi] at hd
  obtain ⟨w, h1, h2⟩ := r.get hd
  have h3 := y.2
  rw [r.length, h1] at h3
  cases h3
  exact h2
end
theorem turn_enumT {P : Program} {w : World} {K : PySem.W.Frag} {elts : List Expr} {kk : Nat} {tpos : Pos} (a e it : Addr) :
    Turn P w K (.Tuple elts kk tpos) (IteT K a) [e, it] e (fun i h => (∃ old, IsEnum h e it ((i : Nat) : Int) old) ∧ h.IsTupleIter it a i ∧ e ≠ it ∧ a ≠ it) where
  mem := by simp
  obj := fun i h st b hb => by
    obtain ⟨⟨old, he⟩, ⟨o, ho, hc, hd⟩, _⟩ := st
    have e' : b = e ∨ b = it := by simpa using hb
    rcases e' with z | z
    · rw [z]; exact ⟨_, he, fun v q => nomatch q⟩
    · exact ⟨o, by rw [z]; exact ho, fun v q => by rw [hd] at q; cases q⟩
  keep := fun i h h' st k => let ⟨⟨old, he⟩, hi, hne⟩ := st; ⟨⟨old, k e (by simp) _ he⟩, hi.at fun o q => k it (by simp) o q, hne⟩
  item := by
    intro X hP hw hK hc i pins s σ H E I hf st hg
    subst hP hw hK
    obtain ⟨⟨old, he⟩, hit, hne, hna⟩ := st
    obtain ⟨xs, x, hq, hx⟩ := hg
    obtain ⟨its, rv, p, hz⟩ := I.tuple hq
    obtain ⟨u, hu, ru⟩ := rv.get hx
    have hel : e < s.heap.objs.size := Heap.lt_size he
    have hil : it < s.heap.objs.size := by obtain ⟨_, q, _⟩ := hit; exact Heap.lt_size q
    have ti : s.heap.IsTuple a its.toArray := p
    have hlt : i < its.toArray.size := by
      have := (List.getElem?_eq_some_iff.mp hu).1
      simpa using this
    have hea : e ≠ a := fun z => by
      obtain ⟨o, ho, hcl, _⟩ := id p
      rw [← z] at ho
      have he' : s.heap.get? e = some _ := he
      rw [ho] at he'
      have q := congrArg (fun o => o.cls) (Option.some.inj he')
      have q2 := hcl.symm.trans q
      exact absurd (Value.type.inj q2) (by decide)
    refine wpAny_pyNext_enum_itemC (Draws.tuple (A := X.A.in1) (I.ok.hd hc) it a hna its.toArray) he ⟨hit, ti⟩ hlt hne (by simp [hne, hea]) fun x' h' tk hP ho hst' hT hsz hk => ?_
    have hx' : x' = u := by
      have hP' : its.toArray[i]? = some x' := hP
      rw [List.getElem?_toArray, hu] at hP'
      exact (Option.some.inj hP').symm
    subst hx'
    refine ⟨_, rfl, wpAny_letOwnedTupleGo_enum (s := { s with heap := h', toks := tk + 1 }) ho fun h'' he' sb => ?_⟩
    have hT2 : h''.get? s.heap.objs.size = some { cls := .type "tuple", data := .seq #[.int i tk, x'] } := (sb.2 _ (Nat.ne_of_gt hel)).trans hT
    have new : ObjOk X.prog X.w (upd H s.heap.objs.size (.tup [.int (i : Nat), x])) h'' s.heap.objs.size (.tup [.int (i : Nat), x]) :=
      ⟨by show 2 ≤ sizeLine; decide, [.int i tk, x'], .cons ⟨_, rfl⟩ (.cons ru .nil), ⟨_, hT2, rfl, _, rfl⟩⟩
    have I1 : Inv X pins σ (upd H s.heap.objs.size (.tup [.int (i : Nat), x])) { s with heap := h'', toks := tk + 1 } :=
      I.turnedNew (ch := [e, it]) (fun b ob hb q => (sb.2 b (fun z => hb (by simp [z]))).trans (hk b ob (fun z => hb (by simp [z])) (fun z => hb (by simp [z])) q)) hf (Nat.le_refl _) new
    refine ⟨.ref s.heap.objs.size, _, I1, rfl, ⟨_, x, rfl, I.hok.fresh (Nat.le_refl _), rfl, fun ys hy => by rw [I.tuple_inj hy hq]; exact hx⟩, ⟨⟨x', ?_⟩, hst'.1.at fun o q => (sb.2 it (Ne.symm hne)).trans q, hne, hna⟩, fun b hb => ?_⟩
    · have e1 : ((i + 1 : Nat) : Int) = (i : Int) + 1 := by omega
      rw [e1]; exact he'
    · have hb' : b < s.heap.objs.size := by
        have e' : b = e ∨ b = it := by simpa using hb
        rcases e' with z | z
        · exact z ▸ hel
        · exact z ▸ hil
      rw [upd_ne (Nat.ne_of_lt hb')]
      exact (hf b hb).1
  done := by
    intro X hP hw hK hc i pins s σ H E I hf st hg
    subst hP hw hK
    obtain ⟨⟨old, he⟩, hit, hne, hna⟩ := st
    obtain ⟨xs, hq, hx⟩ := hg
    obtain ⟨its, rv, p, hz⟩ := I.tuple hq
    obtain ⟨f0, f1, f2, f3, f4, f5⟩ := hf it (by simp)
    have hl := rv.length
    have ei : its.toArray.size = i := by simp; omega
    refine wpAny_pyNext_enum_endD (Draws.tuple (A := X.A.in1) (I.ok.hd hc) it a hna its.toArray) he ?_ fun h' eb => ⟨rfl, I.turned (t' := s.toks) (fun b o hb q => eb b o hb q) f0 f1 f3 f4 f5⟩
    rw [ei]
    exact ⟨hit, p⟩
  self := fun A i s Q E st h => let ⟨⟨_, he⟩, _⟩ := st; wpAny_pyIter_enum he h
end SF

/-! What is walked: lists, tuples, texts; ranges; enumerate, zip and reversed. -/
namespace SF
open PySem PySem.Spec PyProof.Rows L2
open Evl (Ex)

theorem meets_enum1 {v : Value} {o : Obj} {M : Heap → Prop} (B : Begins v o M) :
    Meets (Builtin.«enumerate.__new__» ⟨[.type "enumerate", v], []⟩) (fun _ R s => M s.heap ∧
      R (.ok (.ret (.ref (s.heap.push o).objs.size))) { s with heap := (s.heap.push o).push { cls := .type "enumerate", data := .fields #[.none, .bool false, .ref s.heap.objs.size, rawInt 0, .none, .none] } }) :=
  .of_wp fun prog w A R s h => by
    obtain ⟨hp, g, d, tk, os⟩ := s; obtain ⟨m1, h⟩ := h
    have hs1 := sub_enumerate
    have begun : ∀ {A' : Around} {E : Value → Shared → Prop} {Q : Value → Shared → Prop}, Q (.ref hp.objs.size) ⟨hp.push o, g, d, tk, os⟩ → wpAny (model prog w) A' (pyIter v) Q E ⟨hp, g, d, tk, os⟩ :=
      fun q => B.iter prog w _ _ ⟨hp, g, d, tk, os⟩ _ m1 q
    wp_walk using begun
    refine wpAny_stack_any fun st => wpAny_pure ?_
    split
    · rename_i c _ _ _ _ _
      cases (c == Value.type "enumerate")
      · wp_walk using begun
        exact ⟨_, rfl, h⟩
      · wp_walk using begun
        exact ⟨_, rfl, h⟩
    · wp_walk using begun
      exact ⟨_, rfl, h⟩
theorem call_enum1 {prog : Program} {w : World} {A : Around} {E : Value → Shared → Prop} {s : Shared} {v : Value} {o : Obj} {M : Heap → Prop} {Q : Value → Shared → Prop} (B : Begins v o M) (m1 : M s.heap)
    (h : ∀ h', IsEnum h' (s.heap.objs.size + 1) s.heap.objs.size 0 .none → h'.get? s.heap.objs.size = some o → (∀ b u, s.heap.get? b = some u → h'.get? b = some u) → Q (.ref (s.heap.objs.size + 1)) { s with heap := h' }) :
    wpAny (model prog w) A (call (.type "enumerate") [v]) Q E s := by
  refine callType_new F.called_enumerate (by decide) (F.typeCall_enumerate_1 _) (F.newCall_enumerate_1 _) (fun obj => F.args_object_init_2 obj _) F.entry_enumerate_new (meets_enum1 B) ⟨m1, ?_⟩
  have sz : (s.heap.push o).objs.size = s.heap.objs.size + 1 := Heap.size_push ..
  show _ ∧ _
  rw [sz]
  have made : IsEnum ((s.heap.push o).push { cls := .type "enumerate", data := .fields #[.none, .bool false, .ref s.heap.objs.size, rawInt 0, .none, .none] }) (s.heap.objs.size + 1) s.heap.objs.size 0 .none := by
    have z := Heap.get?_push_size (s.heap.push o) (o := { cls := .type "enumerate", data := .fields #[.none, .bool false, .ref s.heap.objs.size, rawInt 0, .none, .none] }) rfl
    rw [sz] at z; exact z
  exact ⟨⟨_, made, rfl⟩, h _ made (Heap.get?_push_of_some _ (Heap.get?_push_size _ B.free)) fun b u x => Heap.get?_push_of_some _ (Heap.get?_push_of_some _ x)⟩

/-- a reading of what is walked -/
def iSeqR (K : PySem.W.Frag) (te : TE) : TI := fun σ H R => te σ H fun x H1 => (∃ a xs, x = .ref a ∧ SqL K H1 a xs ∧ R (Itl K a) H1) ∨ (∃ a xs, x = .ref a ∧ SqT K H1 a xs ∧ R (Itt K a) H1) ∨ ∃ z, x = .str z ∧ R (Its z) H1
theorem pi_seqR {X : Cx} {tg e : Expr} {te : TE} (he : PE X e te) : PI X tg e (iSeqR X.K te) := by
  refine ⟨fun pins s σ H R I h => thn (he.run pins s σ H _ I h) fun v s1 ⟨x, H1, I1, r1, q1⟩ => ?_⟩
  have one : ∀ b ∈ [s1.heap.objs.size], FpOk X pins H1 b := fun b hb => by
    have e := List.mem_singleton.mp hb
    subst e
    exact I1.fpOk (Nat.le_refl _) (I1.hok.fresh (Nat.le_refl _))
  rcases q1 with ⟨a, xs, rfl, hq, q⟩ | ⟨a, xs, rfl, hq, q⟩ | ⟨z, rfl, q⟩
  · cases r1
    obtain ⟨its, rv, p, _⟩ := I1.list hq
    exact wpAny_pyIter_list p.isList ⟨s1.heap.objs.size, [s1.heap.objs.size], _, _, H1, rfl, I1.kept (t' := s1.toks) fun b o e => Heap.get?_push_of_some _ e, turn_list a _, ⟨_, Heap.get?_push_size _ rfl, rfl, rfl⟩, one, q⟩
  · cases r1
    obtain ⟨its, rv, p, _⟩ := I1.tuple hq
    exact wpAny_pyIter_tuple (show s1.heap.IsTuple a its.toArray from p) ⟨s1.heap.objs.size, [s1.heap.objs.size], _, _, H1, rfl, I1.kept (t' := s1.toks) fun b o e => Heap.get?_push_of_some _ e, turn_tuple a _, ⟨_, Heap.get?_push_size _ rfl, rfl, rfl⟩, one, q⟩
  · obtain ⟨t, rfl⟩ := r1
    cases ha : z.cps.all (· < 128)
    · exact wpAny_pyIter_wide ha (pi_one (tk := s1.toks) I1 _ (turn_str _ z t "str_iterator" (Or.inr rfl)) ⟨_, Heap.get?_push_size _ rfl, rfl, rfl⟩ q)
    · exact wpAny_pyIter_ascii ha (pi_one (tk := s1.toks) I1 _ (turn_str _ z t "str_ascii_iterator" (Or.inl rfl)) ⟨_, Heap.get?_push_size _ rfl, rfl, rfl⟩ q)
def iEnumR (K : PySem.W.Frag) (ta : TA) : TI := fun σ H R => ta σ H fun vs H1 => ∃ a xs, vs = [.ref a] ∧ ((SqL K H1 a xs ∧ R (Ite K a) H1) ∨ (SqT K H1 a xs ∧ R (IteT K a) H1))
theorem pi_enumR {X : Cx} {e : Expr} {ta : TA} {p pos tpos : Pos} {elts : List Expr} {kk : Nat} (hg : Gl X "enumerate") (hm : X.mg "enumerate" = none) (ha : PA X [e] ta) (hs : starEach [e] X.env = [(false, eval e X.env)] := by rfl) :
    PI X (.Tuple elts kk tpos) (.Call (.Name "enumerate" p) [e] [] pos) (iEnumR X.K ta) := by
  refine ⟨fun pins s σ H R I h => Call_ (ld_blt I hg hm boot_enumerate (PyProof.Rows.callWith_type1 (thn (ha.run pos pins s σ H _ I h) fun us s1 ⟨vs, H1, I1, r1, q1⟩ => ?_) hs rfl))⟩
  have two : ∀ b ∈ [s1.heap.objs.size + 1, s1.heap.objs.size], FpOk X pins H1 b := fun b hb => by
    have le : s1.heap.objs.size ≤ b := by
      rcases List.mem_cons.mp hb with z | z
      · omega
      · have := List.mem_singleton.mp z
        omega
    exact I1.fpOk le (I1.hok.fresh le)
  obtain ⟨a, xs, rfl, q1⟩ := q1
  cases r1 with
  | cons r rr =>
    cases rr
    cases r
    rcases q1 with ⟨hq, q⟩ | ⟨hq, q⟩
    · obtain ⟨its, rv, p', _⟩ := I1.list hq
      exact call_enumerate_list p'.isList fun h' he hit _ hk => wpAny_pyIter_enum he ⟨s1.heap.objs.size + 1, [s1.heap.objs.size + 1, s1.heap.objs.size], _, _, H1, rfl, I1.kept (t' := s1.toks) hk, turn_enum a _ _, ⟨⟨.none, he⟩, hit, Nat.succ_ne_self _⟩, two, q⟩
    · obtain ⟨its, rv, p', _⟩ := I1.tuple hq
      have lt : a < s1.heap.objs.size := by obtain ⟨o, ho, _⟩ := id p'; exact Heap.lt_size ho
      exact call_enum1 (begins_tuple a its.toArray) p' fun h' he hit hk => wpAny_pyIter_enum he ⟨s1.heap.objs.size + 1, [s1.heap.objs.size + 1, s1.heap.objs.size], _, _, H1, rfl, I1.kept (t' := s1.toks) hk, turn_enumT a _ _, ⟨⟨.none, he⟩, ⟨_, hit, rfl, rfl⟩, Nat.succ_ne_self _, Nat.ne_of_lt lt⟩, two, q⟩
end SF

/-! The readings: what the machine's expressions do, told by the small language. -/
namespace SF
open PySem PySem.Spec PyProof.Rows L2
open Evl (Ex)

/-- what is around: the defs' promises, how exceptions lie -/
structure Gd where
  K : PySem.W.Frag
  T : List Fn
  call : Call
  sub : Nat → Nat → Bool
  W : Nat
  exr : Hp → Hp → Nat → List D → Value → Option Addr → Prop
section
variable (G : Gd) (c : EC)
/-- what is wished of a run's end, F being what was shared ahead of it -/
def Pst {α : Type} (F : Hp) (W : WX) (r : R α) (Q : α → Prop) : Prop :=
  match r with
  | .ok a => Q a
  | .ex k ds => ∀ cls d σ F' H', Ex F F' → Bs c F' H' → G.exr F' H' k ds cls d → W cls d σ H'
  | .no => False
variable {G c}
theorem Pst.bind {α β : Type} {F : Hp} {W : WX} {r : R α} {f : α → R β} {Q : β → Prop} (h : Pst G c F W (r.bind f) Q) : Pst G c F W r fun a => Pst G c F W (f a) Q := by
  cases r <;> exact h
theorem Pst.mono {α : Type} {F F1 : Hp} {W : WX} {r : R α} {Q Q' : α → Prop} (h : Pst G c F W r Q) (e : Ex F F1) (k : ∀ a, r = .ok a → Q a → Q' a) : Pst G c F1 W r Q' := by
  cases r with
  | ok a => exact k a rfl h
  | ex j ds => exact fun cls d σ F' H' e' b x => h cls d σ F' H' (e.trans e') b x
  | no => exact h
theorem Pst.up {α : Type} {F F1 : Hp} {W : WX} {r : R α} {Q : α → Prop} (h : Pst G c F W r Q) (e : Ex F F1) : Pst G c F1 W r Q := h.mono e fun _ _ q => q
theorem Pst.of {α β : Type} {F : Hp} {W : WX} {o : Option α} {f : α → R β} {Q : β → Prop} (h : Pst G c F W ((R.of o).bind f) Q) : ∃ a, o = some a ∧ Pst G c F W (f a) Q := by
  cases o with
  | none => exact h.elim
  | some a => exact ⟨a, rfl, h⟩
theorem Pst.if_ {α : Type} {F : Hp} {W : WX} {p : Prop} [Decidable p] {r : R α} {Q : α → Prop} (h : Pst G c F W (if p then r else .no) Q) : p ∧ Pst G c F W r Q := by
  by_cases z : p
  · rw [if_pos z] at h; exact ⟨z, h⟩
  · rw [if_neg z] at h; exact h.elim
variable (G c)
/-! ### readings -/
def tE (W : WX) (ce : CE) : TE := fun σ H Q => ∃ F nv, Sat G.K c F H σ nv ∧ Pst G c F W (ev G.T G.call ce nv) fun r =>
  ∀ v F' H', Ex F F' → Sat G.K c F' H' σ r.2.2 → VR G.K c F' H' σ r.2.2 v r.1 r.2.1 → Q v H'
/-- what an operand is: a name's slot is read later -/
def OpV (K : PySem.W.Frag) (σ : L2.St) (F : Hp) (v : V) (d : D) : CE → Prop
  | .v i => σ[i]? = some (some v)
  | _ => Rp K F v d
def tO (W : WX) (ce : CE) : TE := fun σ H Q => ∃ F nv, Sat G.K c F H σ nv ∧ Pst G c F W (evO G.T G.call ce nv) fun r =>
  ∀ v F' H', Ex F F' → Sat G.K c F' H' σ r.2 → OpV G.K σ F' v r.1 ce → Q v H'
def tT (W : WX) (ce : CE) : TT := fun σ H Q => ∃ F nv, Sat G.K c F H σ nv ∧ Pst G c F W (evT G.T G.call ce nv) fun r =>
  ∀ F' H', Ex F F' → Sat G.K c F' H' σ r.2 → Q r.1 H'
def tA (W : WX) (ces : CEs) : TA := fun σ H Q => ∃ F nv, Sat G.K c F H σ nv ∧ Pst G c F W (evs G.T G.call ces nv) fun r =>
  ∀ vs F' H', Ex F F' → Sat G.K c F' H' σ r.2 → RpA G.K F' vs r.1 → Q vs H'
def OpVs (K : PySem.W.Frag) (σ : L2.St) (F : Hp) : CEs → List V → List D → Prop
  | .nil, [], [] => True
  | .cons e es, v :: vs, d :: ds => OpV K σ F v d e ∧ OpVs K σ F es vs ds
  | _, _, _ => False
def tAs (W : WX) (ces : CEs) : TA := fun σ H Q => ∃ F nv, Sat G.K c F H σ nv ∧ Pst G c F W (evAs G.T G.call ces nv) fun r =>
  ∀ vs F' H', Ex F F' → Sat G.K c F' H' σ r.2 → OpVs G.K σ F' ces vs r.1 → Q vs H'
def tP (W : WX) (co : CO) : TO := fun σ H Q => ∃ F nv, Sat G.K c F H σ nv ∧ Pst G c F W (evP G.T G.call co nv) fun r =>
  ∀ F' H', Ex F F' → Sat G.K c F' H' σ r.2 → Q r.1 H'
def tI (W : WX) (ci : CI) : TI := fun σ H R => ∃ F nv, Sat G.K c F H σ nv ∧ Pst G c F W (evI G.T G.call ci nv) fun r =>
  ∀ J F' H', Ex F F' → Sat G.K c F' H' σ r.2 → IR G.K F' J r.1 → R J H'
variable {G c}
theorem RpA.cons' {K : PySem.W.Frag} {F : Hp} {v : V} {vs : List V} {d : D} {ds : List D} (h : Rp K F v d) (r : RpA K F vs ds) : RpA K F (v :: vs) (d :: ds) := .cons h r
/-- what an operation leaves -/
theorem fin_end {F H : Hp} {σ : L2.St} {nv : Nv} {d : D} {ow : Bool} {Q : VK} (S : Sat G.K c F H σ nv) (q : ∀ v F' H', Ex F F' → Sat G.K c F' H' σ nv → VR G.K c F' H' σ nv v d ow → Q v H') : FinR G.K F H d ow Q := by
  refine ⟨fun e v r => ?_, fun p ds xs e ow' hp r => ?_, fun e p o hp r => ?_⟩
  · subst e
    exact q v F H (Ex.refl F) S r
  · subst e ow'
    have hF : F p = none := Evl.fresh_back S.fh hp
    exact q _ _ _ (ex_upd hF) (S.share hp) (.tup (.inl (.inl upd_same)) (r.up (ex_upd hF)))
  · subst e
    exact q _ F _ (Ex.refl F) (S.fresh hp) (S.newV hp r)
/-- a name's value -/
theorem peek_top {F H : Hp} {σ : L2.St} {nv : Nv} {i : Nat} {d : D} {v : V} (S : Sat G.K c F H σ nv) (h : peek nv i = .ok d) (hv : σ[i]? = some (some v)) : TopR G.K F H v d := by
  unfold peek at h
  cases e : nv[i]? with
  | none => rw [e] at h; cases h
  | some s =>
    rw [e] at h
    have sl := S.slot i s e
    cases s with
    | emp => cases h
    | val x =>
      cases h
      obtain ⟨w, h1, h2⟩ := sl
      rw [hv] at h1
      cases h1
      exact .inl h2
    | own x =>
      cases h
      obtain ⟨a, o, h1, h2, h3, h4, _⟩ := sl
      rw [hv] at h1
      cases h1
      exact .inr ⟨a, o, rfl, h3, h4⟩
    | io x =>
      cases h
      obtain ⟨a, o, h1, h2, h3, h4, _⟩ := sl
      rw [hv] at h1
      cases h1
      exact .inr ⟨a, o, rfl, h3, h4⟩
theorem peek_some {F H : Hp} {σ : L2.St} {nv : Nv} {i : Nat} {d : D} (S : Sat G.K c F H σ nv) (h : peek nv i = .ok d) : ∃ v, σ[i]? = some (some v) := by
  unfold peek at h
  cases e : nv[i]? with
  | none => rw [e] at h; cases h
  | some s =>
    rw [e] at h
    have sl := S.slot i s e
    cases s with
    | emp => cases h
    | val x => obtain ⟨w, h1, h2⟩ := sl; exact ⟨_, h1⟩
    | own x => obtain ⟨w, o, h1, h2⟩ := sl; exact ⟨_, h1⟩
    | io x => obtain ⟨w, o, h1, h2⟩ := sl; exact ⟨_, h1⟩
theorem fin_top {α : Type} {F0 F1 F H : Hp} {σ : L2.St} {nv : Nv} {ce : CE} {d : D} {v : V} {W : WX} {f : D → R α} {Q : α → Prop} (S : Sat G.K c F H σ nv) (e : Ex F1 F) (o : OpV G.K σ F1 v d ce) (h : Pst G c F0 W ((fin ce nv d).bind f) Q) :
    ∃ d', TopR G.K F H v d' ∧ Pst G c F0 W (f d') Q := by
  cases ce with
  | v i =>
    have h' : Pst G c F0 W ((peek nv i).bind f) Q := h
    cases q : peek nv i with
    | ok x => rw [q] at h'; exact ⟨x, peek_top S q o, h'⟩
    | no => rw [q] at h'; exact h'.elim
    | ex j ds => unfold peek at q; cases z : (nv[i]?.bind Slot.d) <;> (rw [z] at q; cases q)
  | _ => exact ⟨d, .inl (Rp.up o e), h⟩
theorem ofO {W : WX} {ce : CE} (h : ∀ i, ce ≠ .v i) {σ : L2.St} {H : Hp} {Q : VK} (q : tO G c W ce σ H Q) : tE G c W ce σ H Q := by
  obtain ⟨F, nv, S, q⟩ := q
  have q1 : Pst G c F W ((ev G.T G.call ce nv).bind fun r => .ok (r.1, r.2.2)) fun r => ∀ v F' H', Ex F F' → Sat G.K c F' H' σ r.2 → Rp G.K F' v r.1 → Q v H' := by
    cases ce <;> first | exact q | exact absurd rfl (h _)
  refine ⟨F, nv, S, (Pst.bind q1).mono (Ex.refl F) fun r _ q v F' H' e S' vr => ?_⟩
  obtain ⟨F2, e2, S2, r2⟩ := S'.shared vr
  exact q v F2 H' (e.trans e2) S2 r2
theorem PE.imp {X : Cx} {e : Expr} {t t' : TE} (h : PE X e t) (k : ∀ σ H Q, t' σ H Q → t σ H Q) : PE X e t' := ⟨fun pins s σ H Q I q => h.run pins s σ H Q I (k σ H Q q)⟩
theorem PT.imp {X : Cx} {e : Expr} {t t' : TT} (h : PT X e t) (k : ∀ σ H Q, t' σ H Q → t σ H Q) : PT X e t' := ⟨fun pins s σ H Q I q => h.run pins s σ H Q I (k σ H Q q)⟩
theorem PA.imp {X : Cx} {es : List Expr} {t t' : TA} (h : PA X es t) (k : ∀ σ H Q, t' σ H Q → t σ H Q) : PA X es t' := ⟨fun pos pins s σ H Q I q => h.run pos pins s σ H Q I (k σ H Q q)⟩
theorem PO.imp {X : Cx} {e : Option Expr} {t t' : TO} (h : PO X e t) (k : ∀ σ H Q, t' σ H Q → t σ H Q) : PO X e t' := ⟨fun pins s σ H Q I q => h.run pins s σ H Q I (k σ H Q q)⟩
theorem PI.imp {X : Cx} {tg e : Expr} {t t' : TI} (h : PI X tg e t) (k : ∀ σ H Q, t' σ H Q → t σ H Q) : PI X tg e t' := ⟨fun pins s σ H Q I q => h.run pins s σ H Q I (k σ H Q q)⟩
theorem PS.imp {X : Cx} {e : Stmt} {t t' : TS} (h : PS X e t) (k : ∀ D σ H, t' D σ H → t D σ H) : PS X e t' := ⟨fun pins s σ H Q I q => h.run pins s σ H Q I (k Q σ H q)⟩
/-- all that is known of a compiled expression -/
structure Good3 (X : Cx) (W : WX) (e : Expr) (ce : CE) : Prop where
  ex : PE X e (tE G c W ce)
  op : PE X e (tO G c W ce)
  ts : PT X e (tT G c W ce)
/-- no test of its own -/
def plainCE : CE → Bool
  | .and _ _ => false
  | .or _ _ => false
  | .not _ => false
  | .ite _ _ _ => false
  | _ => true
theorem tT_O {W : WX} {ce : CE} (h : plainCE ce = true) {σ : L2.St} {H : Hp} {Q : Bool → Hp → Prop} (q : tT G c W ce σ H Q) : tO G c W ce σ H fun x H1 => ∃ k, TruV G.K x H1 k ∧ Q k H1 := by
  obtain ⟨F, nv, S, q⟩ := q
  refine ⟨F, nv, S, ?_⟩
  have q1 : Pst G c F W ((evO G.T G.call ce nv).bind fun r => (R.of (truth r.1)).bind fun b => .ok (b, r.2)) fun r => ∀ F' H', Ex F F' → Sat G.K c F' H' σ r.2 → Q r.1 H' := by
    have e1 : evT G.T G.call ce nv = (evO G.T G.call ce nv).bind fun r => (R.of (truth r.1)).bind fun b => .ok (b, r.2) := by
      cases ce <;> first | exact absurd h Bool.false_ne_true | (unfold evT evO opd evB EvB.plain; simp only [R.bind_assoc, R.bind_ok]; done) | (unfold evT evO opd evB; simp only [R.bind_assoc, R.bind_ok]; done)
    rw [← e1]
    exact q
  refine (Pst.bind q1).mono (Ex.refl F) fun r hr q v F' H' e S' o => ?_
  obtain ⟨b, hb, q⟩ := q.of
  refine ⟨b, ?_, q F' H' e S'⟩
  cases ce with
  | v i =>
    have hp : peek nv i = .ok r.1 ∧ r.2 = nv := by
      have z : ((peek nv i).bind fun d => R.ok (d, nv)) = .ok r := hr
      cases q : peek nv i with
      | ok x => rw [q] at z; cases z; exact ⟨rfl, rfl⟩
      | no => rw [q] at z; cases z
      | ex j ds => rw [q] at z; cases z
    rw [hp.2] at S'
    exact truD S'.fh (peek_top S' hp.1 o) hb
  | _ => exact truD S'.fh (.inl o) hb
theorem mk3 {X : Cx} {W : WX} {e : Expr} {ce : CE} (hK : G.K = X.K) (h : PE X e (tE G c W ce)) (hv : ∀ i, ce ≠ .v i) (hp : plainCE ce = true) (he : ∀ whole, isTrue e X.env whole = (do let v ← whole; standAt e.pos; holding [v] (truthy v))) : Good3 (G := G) (c := c) X W e ce := by
  have ho : PE X e (tO G c W ce) := PE.imp h fun σ H Q q => ofO hv q
  refine ⟨h, ho, PT.imp (pt_truth ho he) fun σ H Q q => ?_⟩
  rw [← hK]
  exact tT_O hp q
end
end SF

/-! Expressions: operators, comparisons, built-ins by name, subscripts, displays. -/
namespace SF
open PySem PySem.Spec PyProof.Rows L2
open Evl (Ex)
/-- lets no exception out -/
def NoEx {α : Type} (r : R α) : Prop := ∀ j ds, r ≠ .ex j ds
theorem NoEx.ok {α : Type} (a : α) : NoEx (R.ok a) := fun _ _ h => by cases h
theorem NoEx.no {α : Type} : NoEx (R.no : R α) := fun _ _ h => by cases h
theorem NoEx.of {α : Type} (o : Option α) : NoEx (R.of o) := by cases o <;> (intro _ _ h; cases h)
theorem NoEx.bind {α β : Type} {r : R α} {f : α → R β} (h : NoEx r) (k : ∀ a, NoEx (f a)) : NoEx (r.bind f) := by
  cases r with
  | ok a => exact k a
  | ex j ds => exact absurd rfl (h j ds)
  | no => exact NoEx.no
theorem NoEx.ite {α : Type} {p : Prop} [Decidable p] {r q : R α} (h : NoEx r) (k : NoEx q) : NoEx (if p then r else q) := by
  by_cases z : p
  · rw [if_pos z]; exact h
  · rw [if_neg z]; exact k
theorem noex_isin (x y : D) : NoEx (isin x y) := by
  cases y <;> first | exact NoEx.no | exact (NoEx.ok _).ite NoEx.no | skip
  case str z =>
    cases x <;> first | exact NoEx.no | skip
    case str t =>
      obtain ⟨⟨cs⟩⟩ := t
      match cs with
      | [] => exact NoEx.no
      | [c] => exact NoEx.ok _
      | _ :: _ :: _ => exact NoEx.no
theorem noex_order (o : Op2) (x y : D) : NoEx (order o x y) := by
  unfold order
  split <;> first | exact NoEx.no | exact (NoEx.of _).bind fun _ => NoEx.ok _
theorem noex2 (o : Op2) (x y : D) : NoEx (op2 o x y) := by
  unfold op2
  split <;> repeat' (first | exact NoEx.ok _ | exact NoEx.no | exact noex_order _ _ _ | exact (noex_isin _ _).bind fun _ => NoEx.ok _ | exact (NoEx.of _).bind fun _ => NoEx.ok _ | apply NoEx.ite)
theorem noex1 (o : Op1) (x : D) : NoEx (op1 o x) := by
  unfold op1
  split <;> repeat' (first | exact NoEx.ok _ | exact NoEx.no | exact (NoEx.of _).bind fun _ => NoEx.ok _ | apply NoEx.ite | (refine (NoEx.of _).bind fun _ => ?_; split))
theorem noex3 (o : Op3) (x y z : D) : NoEx (op3 o x y z) := by
  unfold op3
  split <;> repeat' (first | exact NoEx.ok _ | exact NoEx.no | apply NoEx.ite)
theorem noex_cut (x : D) (l h : Option Int) : NoEx (cutD x l h) := by
  unfold cutD
  split <;> repeat' (first | exact NoEx.ok _ | exact NoEx.no | apply NoEx.ite)
section
variable {G : Gd} {c : EC} {X : Cx} {W : WX}
theorem Pst.nx {α β : Type} {F : Hp} {r : R α} {f : α → R β} {Q : β → Prop} (n : NoEx r) (h : Pst G c F W (r.bind f) Q) : ∃ a, r = .ok a ∧ Pst G c F W (f a) Q := by
  cases r with
  | ok a => exact ⟨a, rfl, h⟩
  | ex j ds => exact absurd rfl (n j ds)
  | no => exact h.elim
theorem two {o : Op2} {ca cb : CE} {F H : Hp} {σ : L2.St} {nv : Nv} {Q : VK} {R0 : D × Bool × Nv → Prop} (S : Sat G.K c F H σ nv) (h : Pst G c F W (ev G.T G.call (.o2 o ca cb) nv) R0)
    (k : ∀ d ow nv2 F2 H2, Ex F F2 → Sat G.K c F2 H2 σ nv2 → (∃ x y, op2 o x y = .ok (d, ow)) → R0 (d, ow, nv2) → FinR G.K F2 H2 d ow Q) : tOp (rOp2 G.K o) (tO G c W ca) (tO G c W cb) σ H Q := by
  refine ⟨F, nv, S, (Pst.bind (r := evO G.T G.call ca nv) h).mono (Ex.refl F) fun r _ h v F1 H1 e1 S1 o1 => ?_⟩
  refine ⟨F1, r.2, S1, (Pst.bind (r := evO G.T G.call cb r.2) h).mono e1 fun r2 _ h u F2 H2 e2 S2 o2 => ?_⟩
  obtain ⟨x, tx, h⟩ := fin_top S2 e2 o1 h
  obtain ⟨y, ty, h⟩ := fin_top S2 (Ex.refl F2) o2 h
  obtain ⟨d, q, h⟩ := h.nx (noex2 o x y)
  exact ⟨F2, x, y, d.1, d.2, S2.fh, tx, ty, q, k d.1 d.2 r2.2 F2 H2 (e1.trans e2) S2 ⟨x, y, q⟩ h⟩
theorem twoE {o : Op2} {ca cb : CE} {σ : L2.St} {H : Hp} {Q : VK} (h : tE G c W (.o2 o ca cb) σ H Q) : tOp (rOp2 G.K o) (tO G c W ca) (tO G c W cb) σ H Q := by
  obtain ⟨F, nv, S, h⟩ := h
  exact two S h fun d ow nv2 F2 H2 e S2 _ q => fin_end S2 fun v F' H' e' S' r => q v F' H' (e.trans e') S' r
theorem one {o : Op1} {ca : CE} {F H : Hp} {σ : L2.St} {nv : Nv} {Q : VK} {R0 : D × Bool × Nv → Prop} (S : Sat G.K c F H σ nv) (h : Pst G c F W (ev G.T G.call (.o1 o ca) nv) R0)
    (k : ∀ d ow nv2 F2 H2, Ex F F2 → Sat G.K c F2 H2 σ nv2 → (∃ x, op1 o x = .ok (d, ow)) → R0 (d, ow, nv2) → FinR G.K F2 H2 d ow Q) : tO G c W ca σ H fun x H1 => rOp1 G.K o x H1 Q := by
  refine ⟨F, nv, S, (Pst.bind (r := evO G.T G.call ca nv) h).mono (Ex.refl F) fun r _ h v F1 H1 e1 S1 o1 => ?_⟩
  obtain ⟨x, tx, h⟩ := fin_top S1 (Ex.refl F1) o1 h
  obtain ⟨d, q, h⟩ := h.nx (noex1 o x)
  exact ⟨F1, x, d.1, d.2, S1.fh, tx, q, k d.1 d.2 r.2 F1 H1 e1 S1 ⟨x, q⟩ h⟩
theorem oneE {o : Op1} {ca : CE} {σ : L2.St} {H : Hp} {Q : VK} (h : tE G c W (.o1 o ca) σ H Q) : tO G c W ca σ H fun x H1 => rOp1 G.K o x H1 Q := by
  obtain ⟨F, nv, S, h⟩ := h
  exact one S h fun d ow nv2 F2 H2 e S2 _ q => fin_end S2 fun v F' H' e' S' r => q v F' H' (e.trans e') S' r
/-- the value of a test is a bool -/
theorem FinR.bl {F H : Hp} {σ : L2.St} {nv : Nv} {b : Bool} {d : D} {ow : Bool} {Q : Bool → Hp → Prop} (S : Sat G.K c F H σ nv) (e : d = .bool b) (ho : ow = false) (q : Q b H) : FinR G.K F H d ow fun x H' => ∃ k, x = .bl k ∧ Q k H' := by
  subst e ho
  refine ⟨fun _ v r => ?_, fun p ds xs e => (nomatch e), fun e => (nomatch e)⟩
  cases r
  exact ⟨b, rfl, q⟩
theorem tTE {ce : CE} {F : Hp} {σ : L2.St} {nv : Nv} {Q : Bool → Hp → Prop} (hp : evT G.T G.call ce nv = (ev G.T G.call ce nv).bind fun r => (R.of (truth r.1)).bind fun b => .ok (b, r.2.2))
    (h : Pst G c F W (evT G.T G.call ce nv) fun r => ∀ F' H', Ex F F' → Sat G.K c F' H' σ r.2 → Q r.1 H') :
    Pst G c F W (ev G.T G.call ce nv) fun r => ∃ b, truth r.1 = some b ∧ ∀ F' H', Ex F F' → Sat G.K c F' H' σ r.2.2 → Q b H' := by
  rw [hp] at h
  refine (Pst.bind h).mono (Ex.refl F) fun r _ h => ?_
  obtain ⟨b, hb, h⟩ := h.of
  exact ⟨b, hb, h⟩
theorem twoT {o : Op2} {ca cb : CE} {σ : L2.St} {H : Hp} {Q : Bool → Hp → Prop} (hb : ∀ x y d ow, op2 o x y = .ok (d, ow) → ∃ b, d = .bool b ∧ ow = false) (h : tT G c W (.o2 o ca cb) σ H Q) : tTest (tOp (rOp2 G.K o) (tO G c W ca) (tO G c W cb)) σ H Q := by
  obtain ⟨F, nv, S, h⟩ := h
  refine two S (tTE rfl h) fun d ow nv2 F2 H2 e S2 ⟨x, y, z⟩ q => ?_
  obtain ⟨b, hd, ho⟩ := hb x y d ow z
  obtain ⟨b', h1, h2⟩ := q
  subst hd
  cases h1
  exact FinR.bl S2 rfl ho (h2 F2 H2 e S2)
theorem oneT {o : Op1} {ca : CE} {σ : L2.St} {H : Hp} {Q : Bool → Hp → Prop} (hb : ∀ x d ow, op1 o x = .ok (d, ow) → ∃ b, d = .bool b ∧ ow = false) (h : tT G c W (.o1 o ca) σ H Q) : tO G c W ca σ H fun x H1 => rOp1 G.K o x H1 fun y H' => ∃ k, y = .bl k ∧ Q k H' := by
  obtain ⟨F, nv, S, h⟩ := h
  refine one S (tTE rfl h) fun d ow nv2 F2 H2 e S2 ⟨x, z⟩ q => ?_
  obtain ⟨b, hd, ho⟩ := hb x d ow z
  obtain ⟨b', h1, h2⟩ := q
  subst hd
  cases h1
  exact FinR.bl S2 rfl ho (h2 F2 H2 e S2)
theorem order_bool {o : Op2} {x y : D} {d : D} {ow : Bool} (h : order o x y = .ok (d, ow)) : ∃ b, d = .bool b ∧ ow = false := by
  unfold order at h
  split at h
  · obtain ⟨b, _, h⟩ := of_ok h
    cases h
    exact ⟨_, rfl, rfl⟩
  · obtain ⟨b, _, h⟩ := of_ok h
    cases h
    exact ⟨_, rfl, rfl⟩
  · cases h
def isCmp : Op2 → Bool
  | .eq | .ne | .lt | .le | .gt | .ge | .isin | .notin => true
  | _ => false
theorem cmp_bool {o : Op2} (hc : isCmp o = true) (x y d : D) (ow : Bool) (h : op2 o x y = .ok (d, ow)) : ∃ b, d = .bool b ∧ ow = false := by
  cases o <;> first | exact absurd hc Bool.false_ne_true | skip
  · obtain ⟨_, h⟩ := if_ok (show (if eqOk x y then _ else _) = R.ok (d, ow) from h)
    cases h; exact ⟨_, rfl, rfl⟩
  · obtain ⟨_, h⟩ := if_ok (show (if eqOk x y then _ else _) = R.ok (d, ow) from h)
    cases h; exact ⟨_, rfl, rfl⟩
  · exact order_bool (show order .lt x y = _ from h)
  · exact order_bool (show order .le x y = _ from h)
  · exact order_bool (show order .gt x y = _ from h)
  · exact order_bool (show order .ge x y = _ from h)
  · obtain ⟨b, _, h⟩ := bind_ok (show (isin x y).bind _ = R.ok (d, ow) from h)
    cases h; exact ⟨_, rfl, rfl⟩
  · obtain ⟨b, _, h⟩ := bind_ok (show (isin x y).bind _ = R.ok (d, ow) from h)
    cases h; exact ⟨_, rfl, rfl⟩
variable (hK : G.K = X.K)
include hK
theorem g_bin {a b : Expr} {ca cb : CE} {op : Operator} {o : Op2} {pos : Pos} (ho : OpR X (binaryOp op) (rOp2 X.K o)) (ha : Good3 (G := G) (c := c) X W a ca) (hb : Good3 (G := G) (c := c) X W b cb) : Good3 (G := G) (c := c) X W (.BinOp a op b pos) (.o2 o ca cb) := by
  rw [← hK] at ho
  exact mk3 hK (PE.imp (pe_op ho ha.op hb.op) fun σ H Q q => twoE q) (fun i h => by cases h) rfl fun _ => rfl
theorem g_cmp {a b : Expr} {ca cb : CE} {op : CmpOp} {o : Op2} {pos : Pos} (ho : OpR X (compareOp op) (rOp2 X.K o)) (hm : behindInMarks op b = false) (hc : isCmp o = true) (ha : Good3 (G := G) (c := c) X W a ca) (hb : Good3 (G := G) (c := c) X W b cb) : Good3 (G := G) (c := c) X W (.Compare a [op] [b] pos) (.o2 o ca cb) := by
  rw [← hK] at ho
  have e := PE.imp (t' := tE G c W (.o2 o ca cb)) (pe_cmpR (pos := pos) ho ha.op hb.op hm) fun σ H Q q => twoE q
  exact ⟨e, PE.imp e fun σ H Q q => ofO (fun i h => by cases h) q, PT.imp (pt_cmpR ho ha.op hb.op hm) fun σ H Q q => twoT (cmp_bool hc) q⟩
theorem g_un {a : Expr} {ca : CE} {op : UnaryOp} {o : Op1} {pos : Pos} (ho : UnR X (unaryOp op) (rOp1 X.K o)) (hn : ∀ whole, isTrue (.UnaryOp op a pos) X.env whole = (do let v ← whole; standAt pos; holding [v] (truthy v))) (ha : Good3 (G := G) (c := c) X W a ca) : Good3 (G := G) (c := c) X W (.UnaryOp op a pos) (.o1 o ca) := by
  rw [← hK] at ho
  exact mk3 hK (PE.imp (pe_un ho ha.op) fun σ H Q q => oneE q) (fun i h => by cases h) rfl hn
end
end SF

/-! Expressions: built-ins by name, subscripts, displays, and, or, not, chains, names. -/
namespace SF
open PySem PySem.Spec PyProof.Rows L2
open Evl (Ex)
section
variable {G : Gd} {c : EC} {X : Cx} {W : WX}
/-- an expression that is not starred -/
def noStar : Expr → Bool
  | .Starred _ _ => false
  | _ => true
theorem star_one {e : Expr} {es : List Expr} {env : Env} (h : noStar e = true) : starEach (e :: es) env = (false, eval e env) :: starEach es env := by
  cases e <;> first | rfl | exact absurd h Bool.false_ne_true
theorem plain_one {e : Expr} {env : Env} {pos : Pos} (h : noStar e = true) : (backTo pos (starEach [e] env)).any (·.1) = false := by
  rw [star_one h]
  rfl
theorem plain_nil {env : Env} {pos : Pos} : (backTo pos (starEach [] env)).any (·.1) = false := rfl
theorem OpV.up {K : PySem.W.Frag} {σ : L2.St} {F F' : Hp} {v : V} {d : D} {ce : CE} (h : OpV K σ F v d ce) (e : Ex F F') : OpV K σ F' v d ce := by
  cases ce <;> first | exact h | exact Rp.up h e
theorem evs_len {T : List Fn} {call : Call} : ∀ {es : CEs} {nv : Nv} {r : List D × Nv}, evs T call es nv = .ok r → r.1.length = es.len
  | .nil, nv, r, h => by cases h; rfl
  | .cons e es, nv, r, h => by
    obtain ⟨a, _, h⟩ := bind_ok (show (ev T call e nv).bind _ = R.ok r from h)
    obtain ⟨b, hb, h⟩ := bind_ok h
    cases h
    show b.1.length + 1 = es.len + 1
    rw [evs_len hb]
/-- two arguments: operands -/
theorem twoC {o : Op2} {ca cb : CE} {σ : L2.St} {H : Hp} {Q : VK} (h : tE G c W (.o2 o ca cb) σ H Q) : tCB (rC2 G.K o) (tCons (tO G c W ca) (tCons (tO G c W cb) tNil)) σ H Q := by
  have z := twoE h
  obtain ⟨F, nv, S, z⟩ := z
  refine ⟨F, nv, S, z.mono (Ex.refl F) fun r _ z v F1 H1 e1 S1 o1 => ?_⟩
  obtain ⟨F2, nv2, S2, z⟩ := z v F1 H1 e1 S1 o1
  exact ⟨F2, nv2, S2, z.mono (Ex.refl F2) fun r2 _ z u F3 H3 e3 S3 o3 => ⟨v, u, rfl, z u F3 H3 e3 S3 o3⟩⟩
theorem oneC {o : Op1} {ca : CE} {σ : L2.St} {H : Hp} {Q : VK} (h : tE G c W (.o1 o ca) σ H Q) : tCB (rC1 G.K o) (tCons (tO G c W ca) tNil) σ H Q := by
  obtain ⟨F, nv, S, z⟩ := oneE h
  exact ⟨F, nv, S, z.mono (Ex.refl F) fun r _ z v F1 H1 e1 S1 o1 => ⟨v, rfl, z v F1 H1 e1 S1 o1⟩⟩
theorem g_isT {a : Expr} {ca : CE} {o : Op1} {cls : CmpOp} {j : Nat} {pos pos' : Pos} (hK : G.K = X.K) (hn : cls ≠ .In) (hn2 : cls ≠ .NotIn) (hb : ∀ x d ow, op1 o x = .ok (d, ow) → ∃ b, d = .bool b ∧ ow = false)
    (ho : OpR X (compareOp cls) (fun x y H Q => y = .non ∧ rOp1 X.K o x H Q)) (ha : Good3 (G := G) (c := c) X W a ca) (hc : PE X (.Constant .none j pos') (tC .non)) : Good3 (G := G) (c := c) X W (.Compare a [cls] [.Constant .none j pos'] pos) (.o1 o ca) := by
  rw [← hK] at ho
  have e := PE.imp (t' := tE G c W (.o1 o ca)) (pe_cmpR (pos := pos) ho ha.op hc (nobehind _ hn hn2)) fun σ H Q q => by
    obtain ⟨F, nv, S, z⟩ := oneE q
    exact ⟨F, nv, S, z.mono (Ex.refl F) fun r _ z v F1 H1 e1 S1 o1 => ⟨rfl, z v F1 H1 e1 S1 o1⟩⟩
  refine ⟨e, PE.imp e fun σ H Q q => ofO (fun i h => by cases h) q, PT.imp (pt_cmpR ho ha.op hc (nobehind _ hn hn2)) fun σ H Q q => ?_⟩
  obtain ⟨F, nv, S, z⟩ := oneT hb q
  exact ⟨F, nv, S, z.mono (Ex.refl F) fun r _ z v F1 H1 e1 S1 o1 => ⟨rfl, z v F1 H1 e1 S1 o1⟩⟩
variable (hK : G.K = X.K)
include hK
theorem g_cb1 {a : Expr} {ca : CE} {o : Op1} {x : Str} {id : String} {p pos : Pos} (ho : CallR X (.builtin id) (rC1 X.K o)) (hg : Gl X x) (hm : X.mg x = none) (hv : bootBuiltins x = some (.builtin id)) (hn : x ≠ "__name__") (hdb : (x == ("__debug__" : Str)) = false) (hs : noStar a = true)
    (ha : Good3 (G := G) (c := c) X W a ca) : Good3 (G := G) (c := c) X W (.Call (.Name x p) [a] [] pos) (.o1 o ca) := by
  rw [← hK] at ho
  exact mk3 hK (PE.imp (pe_callB ho hg hm hv (pa_cons ha.op pa_nil (star_one hs)) hn hdb (star_one hs) plain_nil) fun σ H Q q => oneC q) (fun i h => by cases h) rfl fun _ => rfl
theorem g_ct1 {a : Expr} {ca : CE} {o : Op1} {x : Str} {id : String} {p pos : Pos} (ho : CallR X (.type id) (rC1 X.K o)) (hg : Gl X x) (hm : X.mg x = none) (hv : bootBuiltins x = some (.type id)) (hn : x ≠ "__name__") (hdb : (x == ("__debug__" : Str)) = false) (hs : noStar a = true)
    (ha : Good3 (G := G) (c := c) X W a ca) : Good3 (G := G) (c := c) X W (.Call (.Name x p) [a] [] pos) (.o1 o ca) := by
  rw [← hK] at ho
  exact mk3 hK (PE.imp (pe_callTy ho hg hm hv (pa_cons ha.op pa_nil (star_one hs)) hn hdb (star_one hs) plain_nil) fun σ H Q q => oneC q) (fun i h => by cases h) rfl fun _ => rfl
theorem g_cb2 {a b : Expr} {ca cb : CE} {o : Op2} {x : Str} {id : String} {p pos : Pos} (ho : CallR X (.builtin id) (rC2 X.K o)) (hg : Gl X x) (hm : X.mg x = none) (hv : bootBuiltins x = some (.builtin id)) (hn : x ≠ "__name__") (hdb : (x == ("__debug__" : Str)) = false) (hs : noStar a = true) (hs2 : noStar b = true)
    (ha : Good3 (G := G) (c := c) X W a ca) (hb : Good3 (G := G) (c := c) X W b cb) : Good3 (G := G) (c := c) X W (.Call (.Name x p) [a, b] [] pos) (.o2 o ca cb) := by
  rw [← hK] at ho
  exact mk3 hK (PE.imp (pe_callB ho hg hm hv (pa_cons ha.op (pa_cons hb.op pa_nil (star_one hs2)) (star_one hs)) hn hdb (star_one hs) (plain_one hs2)) fun σ H Q q => twoC q) (fun i h => by cases h) rfl fun _ => rfl
theorem g_isi {a : Expr} {ca : CE} {x y : Str} {t : Ty} {p p2 pos : Pos} (hx : x = "isinstance") (hg : Gl X x) (hm : X.mg x = none) (hs : noStar a = true) (hb : PE X (.Name y p2) (tC (.ty (tyN t))))
    (ha : Good3 (G := G) (c := c) X W a ca) : Good3 (G := G) (c := c) X W (.Call (.Name x p) [a, .Name y p2] [] pos) (.o1 (.isi t) ca) := by
  subst hx
  have ho := cr_isiD (X := X) t
  rw [← hK] at ho
  refine mk3 hK (PE.imp (pe_callB ho hg hm boot_isinstance (pa_cons ha.op (pa_cons hb pa_nil rfl) (star_one hs)) (by decide) (by decide) (star_one hs) rfl) fun σ H Q q => ?_) (fun i h => by cases h) rfl fun _ => rfl
  obtain ⟨F, nv, S, z⟩ := oneE q
  exact ⟨F, nv, S, z.mono (Ex.refl F) fun r _ z v F1 H1 e1 S1 o1 => ⟨v, rfl, z v F1 H1 e1 S1 o1⟩⟩
/-- a[b] -/
theorem g_ix {a b : Expr} {ca cb : CE} {pos : Pos} (hp : PlainIx b) (ha : Good3 (G := G) (c := c) X W a ca) (hb : Good3 (G := G) (c := c) X W b cb) : Good3 (G := G) (c := c) X W (.Subscript a b pos) (.o2 .at ca cb) := by
  have ho := ix_atD (X := X)
  rw [← hK] at ho
  exact mk3 hK (PE.imp (pe_ix ho ha.op hb.op hp) fun σ H Q q => twoE q) (fun i h => by cases h) rfl fun _ => rfl
/-- a[l:h] -/
theorem g_sl {a : Expr} {lo hi : Option Expr} {ca : CE} {cl ch : CO} {p2 pos : Pos} (ha : Good3 (G := G) (c := c) X W a ca) (hl : PO X lo (tP G c W cl)) (hh : PO X hi (tP G c W ch)) : Good3 (G := G) (c := c) X W (.Subscript a (.Slice lo hi none p2) pos) (.sl ca cl ch) := by
  have ho := sl_cutD (X := X)
  rw [← hK] at ho
  refine mk3 hK (PE.imp (pe_slice ho ha.op hl hh) fun σ H Q q => ?_) (fun i h => by cases h) rfl fun _ => rfl
  obtain ⟨F, nv, S, h⟩ := q
  refine ⟨F, nv, S, (Pst.bind (r := evO G.T G.call ca nv) h).mono (Ex.refl F) fun r _ h v F1 H1 e1 S1 o1 => ?_⟩
  refine ⟨F1, r.2, S1, (Pst.bind h).mono e1 fun r2 _ h F2 H2 e2 S2 => ?_⟩
  refine ⟨F2, r2.2, S2, (Pst.bind h).mono (e1.trans e2) fun r3 _ h F3 H3 e3 S3 => ?_⟩
  obtain ⟨x, tx, h⟩ := fin_top S3 (e2.trans e3) o1 h
  obtain ⟨d, q, h⟩ := h.nx (noex_cut x r2.1 r3.1)
  exact ⟨F3, x, d.1, d.2, S3.fh, tx, q, fin_end S3 fun v F' H' e' S' r => h v F' H' (((e1.trans e2).trans e3).trans e') S' r⟩
omit hK in
theorem g_noP : PO X none (tP G c W .no) := PO.imp po_none fun σ H Q ⟨F, nv, S, h⟩ => h F H (Ex.refl F) S
omit hK in
theorem g_soP {e : Expr} {ce : CE} (h : Good3 (G := G) (c := c) X W e ce) : PO X (some e) (tP G c W (.so ce)) := PO.imp (po_some h.ex) fun σ H Q ⟨F, nv, S, q⟩ => by
  refine ⟨F, nv, S, (Pst.bind (r := ev G.T G.call ce nv) q).mono (Ex.refl F) fun r _ q v F1 H1 e1 S1 vr => ?_⟩
  obtain ⟨d, ow, nv1⟩ := r
  cases d <;> first | exact q.elim | skip
  case int k _ =>
    cases ow with
    | false => cases (show Rp G.K F1 v (.int k) from vr); exact ⟨k, rfl, q F1 H1 e1 S1⟩
    | true => obtain ⟨a, o, _, _, _, r, _⟩ := vr; cases r
omit hK in
/-- written items, values that are kept -/
theorem g_nil : PA X [] (tA G c W .nil) := PA.imp pa_nil fun σ H Q ⟨F, nv, S, h⟩ => h [] F H (Ex.refl F) S .nil
omit hK in
theorem g_cons {e : Expr} {es : List Expr} {ce : CE} {ces : CEs} (hs : noStar e = true) (h : Good3 (G := G) (c := c) X W e ce) (hr : PA X es (tA G c W ces)) : PA X (e :: es) (tA G c W (.cons ce ces)) := PA.imp (pa_cons h.ex hr (star_one hs)) fun σ H Q ⟨F, nv, S, q⟩ => by
  refine ⟨F, nv, S, (Pst.bind (r := ev G.T G.call ce nv) q).mono (Ex.refl F) fun r _ q v F1 H1 e1 S1 vr => ?_⟩
  obtain ⟨F2, e2, S2, r2⟩ := S1.shared vr
  refine ⟨F2, r.2.2, S2, (Pst.bind q).mono (e1.trans e2) fun r3 _ q vs F3 H3 e3 S3 rs => ?_⟩
  exact q (v :: vs) F3 H3 ((e1.trans e2).trans e3) S3 (.cons (r2.up e3) rs)
omit hK in
theorem g_nilO : PA X [] (tAs G c W .nil) := PA.imp pa_nil fun σ H Q ⟨F, nv, S, h⟩ => h [] F H (Ex.refl F) S trivial
omit hK in
theorem g_consO {e : Expr} {es : List Expr} {ce : CE} {ces : CEs} (hs : noStar e = true) (h : Good3 (G := G) (c := c) X W e ce) (hr : PA X es (tAs G c W ces)) : PA X (e :: es) (tAs G c W (.cons ce ces)) := PA.imp (pa_cons h.op hr (star_one hs)) fun σ H Q ⟨F, nv, S, q⟩ => by
  refine ⟨F, nv, S, (Pst.bind (r := evO G.T G.call ce nv) q).mono (Ex.refl F) fun r _ q v F1 H1 e1 S1 o1 => ?_⟩
  refine ⟨F1, r.2, S1, (Pst.bind q).mono e1 fun r3 _ q vs F3 H3 e3 S3 rs => ?_⟩
  exact q (v :: vs) F3 H3 (e1.trans e3) S3 ⟨o1.up e3, rs⟩
theorem g_tup {es : List Expr} {ces : CEs} {k : Nat} {pos : Pos} (hl : ces.len ≤ 1000) (h : PA X es (tA G c W ces)) : Good3 (G := G) (c := c) X W (.Tuple es k pos) (.tup ces) := by
  have h10 : (1000 : Nat) ≤ sizeLine := by rw [sizeLine_eq]; decide
  refine mk3 hK (PE.imp (pe_tup h) fun σ H Q q => ?_) (fun i h => by cases h) rfl fun _ => rfl
  obtain ⟨F, nv, S, q⟩ := q
  refine ⟨F, nv, S, (Pst.bind q).mono (Ex.refl F) fun r hr q vs F1 H1 e1 S1 rs => ⟨?_, fun p hp => ?_⟩⟩
  · rw [rs.length, evs_len hr]
    omega
  · have hF : F1 p = none := Evl.fresh_back S1.fh hp
    exact q _ _ _ (e1.trans (ex_upd hF)) (S1.share hp) (.tup (.inl (.inl upd_same)) (rs.up (ex_upd hF)))
theorem g_lst {es : List Expr} {ces : CEs} {pos : Pos} (hl : ces.len ≤ 1000) (h : PA X es (tA G c W ces)) : Good3 (G := G) (c := c) X W (.List es pos) (.lst ces) := by
  have h10 : (1000 : Nat) ≤ sizeLine := by rw [sizeLine_eq]; decide
  refine mk3 hK (PE.imp (pe_lst h) fun σ H Q q => ?_) (fun i h => by cases h) rfl fun _ => rfl
  obtain ⟨F, nv, S, q⟩ := q
  refine ⟨F, nv, S, (Pst.bind q).mono (Ex.refl F) fun r hr q vs F1 H1 e1 S1 rs => ⟨?_, fun p hp => ?_⟩⟩
  · rw [rs.length, evs_len hr]
    omega
  · exact q _ _ _ e1 (S1.fresh hp) (S1.newV hp (.lst rs))
/-- a value is a bool -/
theorem VR.bool {F H : Hp} {σ : L2.St} {nv : Nv} {v : V} {b : Bool} {ow : Bool} (h : VR G.K c F H σ nv v (.bool b) ow) : v = .bl b := by
  cases ow with
  | false => cases (show Rp G.K F v (.bool b) from h); rfl
  | true => obtain ⟨a, o, _, _, _, r, _⟩ := h; cases r
theorem g_and {a b : Expr} {rest : List Expr} {ca cb : CE} {pos : Pos} (ha : Good3 (G := G) (c := c) X W a ca) (hb : Good3 (G := G) (c := c) X W (.BoolOp .And (b :: rest) pos) cb) : Good3 (G := G) (c := c) X W (.BoolOp .And (a :: b :: rest) pos) (.and ca cb) := by
  have e : PE X (.BoolOp .And (a :: b :: rest) pos) (tE G c W (.and ca cb)) := PE.imp (pe_and ha.ex hb.ex) fun σ H Q q => by
    obtain ⟨F, nv, S, q⟩ := q
    refine ⟨F, nv, S, (Pst.bind (r := ev G.T G.call ca nv) q).mono (Ex.refl F) fun r _ q v F1 H1 e1 S1 vr => ?_⟩
    obtain ⟨d, ow, nv1⟩ := r
    cases d <;> first | exact q.elim | skip
    case bool k _ =>
      refine ⟨k, VR.bool hK vr, ?_⟩
      cases k with
      | true => exact ⟨F1, nv1, S1, Pst.mono (show Pst G c F W (ev G.T G.call cb nv1) _ from q) e1 fun r2 _ q w F2 H2 e2 S2 vr2 => q w F2 H2 (e1.trans e2) S2 vr2⟩
      | false => exact (show ∀ v F' H', Ex F F' → Sat G.K c F' H' σ nv1 → Rp G.K F' v (.bool false) → Q v H' from q) _ F1 H1 e1 S1 (.bl false)
  refine ⟨e, PE.imp e fun σ H Q q => ofO (fun i h => by cases h) q, PT.imp (pw_and ha.ts ⟨fun wh => hb.ts.run⟩).pt fun σ H Q q => ?_⟩
  obtain ⟨F, nv, S, q⟩ := q
  refine ⟨F, nv, S, (Pst.bind (r := evT G.T G.call ca nv) q).mono (Ex.refl F) fun r _ q F1 H1 e1 S1 => ?_⟩
  obtain ⟨k, nv1⟩ := r
  cases k with
  | true => exact ⟨F1, nv1, S1, Pst.mono (show Pst G c F W (evT G.T G.call cb nv1) _ from q) e1 fun r2 _ q F2 H2 e2 S2 => q F2 H2 (e1.trans e2) S2⟩
  | false => exact (show ∀ F' H', Ex F F' → Sat G.K c F' H' σ nv1 → Q false H' from q) F1 H1 e1 S1
theorem g_or {a b : Expr} {rest : List Expr} {ca cb : CE} {pos : Pos} (ha : Good3 (G := G) (c := c) X W a ca) (hb : Good3 (G := G) (c := c) X W (.BoolOp .Or (b :: rest) pos) cb) : Good3 (G := G) (c := c) X W (.BoolOp .Or (a :: b :: rest) pos) (.or ca cb) := by
  have e : PE X (.BoolOp .Or (a :: b :: rest) pos) (tE G c W (.or ca cb)) := PE.imp (pe_or ha.ex hb.ex) fun σ H Q q => by
    obtain ⟨F, nv, S, q⟩ := q
    refine ⟨F, nv, S, (Pst.bind (r := ev G.T G.call ca nv) q).mono (Ex.refl F) fun r _ q v F1 H1 e1 S1 vr => ?_⟩
    obtain ⟨d, ow, nv1⟩ := r
    cases d <;> first | exact q.elim | skip
    case bool k _ =>
      refine ⟨k, VR.bool hK vr, ?_⟩
      cases k with
      | false => exact ⟨F1, nv1, S1, Pst.mono (show Pst G c F W (ev G.T G.call cb nv1) _ from q) e1 fun r2 _ q w F2 H2 e2 S2 vr2 => q w F2 H2 (e1.trans e2) S2 vr2⟩
      | true => exact (show ∀ v F' H', Ex F F' → Sat G.K c F' H' σ nv1 → Rp G.K F' v (.bool true) → Q v H' from q) _ F1 H1 e1 S1 (.bl true)
  refine ⟨e, PE.imp e fun σ H Q q => ofO (fun i h => by cases h) q, PT.imp (pw_or ha.ts ⟨fun wh => hb.ts.run⟩).pt fun σ H Q q => ?_⟩
  obtain ⟨F, nv, S, q⟩ := q
  refine ⟨F, nv, S, (Pst.bind (r := evT G.T G.call ca nv) q).mono (Ex.refl F) fun r _ q F1 H1 e1 S1 => ?_⟩
  obtain ⟨k, nv1⟩ := r
  cases k with
  | false => exact ⟨F1, nv1, S1, Pst.mono (show Pst G c F W (evT G.T G.call cb nv1) _ from q) e1 fun r2 _ q F2 H2 e2 S2 => q F2 H2 (e1.trans e2) S2⟩
  | true => exact (show ∀ F' H', Ex F F' → Sat G.K c F' H' σ nv1 → Q true H' from q) F1 H1 e1 S1
theorem g_one {a : Expr} {ca : CE} {op : BoolOp} {pos : Pos} (ha : Good3 (G := G) (c := c) X W a ca) : Good3 (G := G) (c := c) X W (.BoolOp op [a] pos) ca := by
  refine ⟨pe_one ha.ex, pe_one ha.op, ?_⟩
  cases op with
  | And => exact (pw_and1 ha.ts).pt
  | Or => exact (pw_or1 ha.ts).pt
theorem g_not {a : Expr} {ca : CE} {pos : Pos} (ha : Good3 (G := G) (c := c) X W a ca) : Good3 (G := G) (c := c) X W (.UnaryOp .Not a pos) (.not ca) := by
  have e : PE X (.UnaryOp .Not a pos) (tE G c W (.not ca)) := PE.imp (pe_not ha.ex) fun σ H Q q => by
    obtain ⟨F, nv, S, q⟩ := q
    refine ⟨F, nv, S, (Pst.bind (r := ev G.T G.call ca nv) q).mono (Ex.refl F) fun r _ q v F1 H1 e1 S1 vr => ?_⟩
    obtain ⟨d, ow, nv1⟩ := r
    cases d <;> first | exact q.elim | skip
    case bool k _ => exact ⟨k, VR.bool hK vr, q _ F1 H1 e1 S1 (.bl _)⟩
  refine ⟨e, PE.imp e fun σ H Q q => ofO (fun i h => by cases h) q, PT.imp (pt_not ha.ts) fun σ H Q q => ?_⟩
  obtain ⟨F, nv, S, q⟩ := q
  exact ⟨F, nv, S, (Pst.bind (r := evT G.T G.call ca nv) q).mono (Ex.refl F) fun r _ q F1 H1 e1 S1 => q F1 H1 e1 S1⟩
omit hK in
/-- a if t else b, as a test -/
theorem pt_ite {t a b : Expr} {pos : Pos} {tc ta tb : TT} (hc : PT X t tc) (ha : PT X a ta) (hb : PT X b tb) : PT X (.IfExp t a b pos) (fun σ H Q => tc σ H fun k H1 => if k = true then ta σ H1 Q else tb σ H1 Q) := by
  refine ⟨fun pins s σ H Q I h => ?_⟩
  show wpAny (model X.prog X.w) X.A (isTrue t X.env (eval t X.env) >>= fun k => if k = true then isTrue a X.env (eval a X.env) else isTrue b X.env (eval b X.env)) _ _ _
  refine wpAny_bind (thn (hc.run pins s σ H _ I h) fun k s1 ⟨H1, I1, q1⟩ => ?_)
  cases k with
  | true => exact ha.run pins s1 σ H1 Q I1 q1
  | false => exact hb.run pins s1 σ H1 Q I1 q1
theorem g_ite {t a b : Expr} {ct ca cb : CE} {pos : Pos} (ht : Good3 (G := G) (c := c) X W t ct) (ha : Good3 (G := G) (c := c) X W a ca) (hb : Good3 (G := G) (c := c) X W b cb) : Good3 (G := G) (c := c) X W (.IfExp t a b pos) (.ite ct ca cb) := by
  have e : PE X (.IfExp t a b pos) (tE G c W (.ite ct ca cb)) := PE.imp (pe_ifExp ht.ts ha.ex hb.ex) fun σ H Q q => by
    obtain ⟨F, nv, S, q⟩ := q
    refine ⟨F, nv, S, (Pst.bind (r := evT G.T G.call ct nv) q).mono (Ex.refl F) fun r _ q F1 H1 e1 S1 => ?_⟩
    obtain ⟨k, nv1⟩ := r
    cases k with
    | true => exact ⟨F1, nv1, S1, Pst.mono (show Pst G c F W (ev G.T G.call ca nv1) _ from q) e1 fun r2 _ q w F2 H2 e2 S2 vr2 => q w F2 H2 (e1.trans e2) S2 vr2⟩
    | false => exact ⟨F1, nv1, S1, Pst.mono (show Pst G c F W (ev G.T G.call cb nv1) _ from q) e1 fun r2 _ q w F2 H2 e2 S2 vr2 => q w F2 H2 (e1.trans e2) S2 vr2⟩
  refine ⟨e, PE.imp e fun σ H Q q => ofO (fun i h => by cases h) q, PT.imp (pt_ite ht.ts ha.ts hb.ts) fun σ H Q q => ?_⟩
  obtain ⟨F, nv, S, q⟩ := q
  refine ⟨F, nv, S, (Pst.bind (r := evT G.T G.call ct nv) q).mono (Ex.refl F) fun r _ q F1 H1 e1 S1 => ?_⟩
  obtain ⟨k, nv1⟩ := r
  cases k with
  | true => exact ⟨F1, nv1, S1, Pst.mono (show Pst G c F W (evT G.T G.call ca nv1) _ from q) e1 fun r2 _ q F2 H2 e2 S2 => q F2 H2 (e1.trans e2) S2⟩
  | false => exact ⟨F1, nv1, S1, Pst.mono (show Pst G c F W (evT G.T G.call cb nv1) _ from q) e1 fun r2 _ q F2 H2 e2 S2 => q F2 H2 (e1.trans e2) S2⟩
end
end SF

/-! Expressions: names, chains, dicts; targets; comprehensions. -/
namespace SF
open PySem PySem.Spec PyProof.Rows L2
open Evl (Ex)
section
variable {G : Gd} {c : EC} {X : Cx} {W : WX}
theorem IR.up {K : PySem.W.Frag} {F F' : Hp} {J : It} {l : List D} (h : IR K F J l) (e : Ex F F') : IR K F' J l := by
  obtain ⟨Gd, Y, w, g, y⟩ := h
  refine ⟨Gd, Y, w, fun H q => g H (e.trans q), fun i H v H' d hd q yy => ?_⟩
  rcases y i H v H' d hd (e.trans q) yy with ⟨h1, h2⟩ | ⟨p, xs, es, h1, h2, h3, h4, h5⟩
  · exact .inl ⟨h1, h2.up e⟩
  · exact .inr ⟨p, xs, es, h1, h2, h3, h4, h5.up e⟩
theorem IR.turn {F F2 H : Hp} {J : It} {l : List D} {σ : L2.St} {nv : Nv} {i : Nat} {d : D} (h : IR G.K F J l) (e : Ex F F2) (S : Sat G.K c F2 H σ nv) (hd : l[i]? = some d) :
    J.go i H ∧ ∀ v H', J.yld i H v H' → ∃ F3, Ex F2 F3 ∧ Sat G.K c F3 H' σ nv ∧ Rp G.K F3 v d := by
  obtain ⟨Gd, Y, w, g, y⟩ := h.up e
  have hi : i < l.length := (List.getElem?_eq_some_iff.mp hd).1
  refine ⟨w.goes i H hi (g H S.fh), fun v H' yy => ?_⟩
  rcases y i H v H' d hd S.fh (w.yields i H v H' hi (g H S.fh) yy) with ⟨rfl, h2⟩ | ⟨p, xs, es, rfl, h2, rfl, rfl, h5⟩
  · exact ⟨F2, Ex.refl F2, S, h2⟩
  · have hF : F2 p = none := Evl.fresh_back S.fh h2
    exact ⟨_, ex_upd hF, S.share h2, .tup (.inl (.inl upd_same)) (h5.up (ex_upd hF))⟩
theorem IR.stop {F F2 H : Hp} {J : It} {l : List D} {σ : L2.St} {nv : Nv} (h : IR G.K F J l) (e : Ex F F2) (S : Sat G.K c F2 H σ nv) : J.stop l.length H := by
  obtain ⟨Gd, Y, w, g, y⟩ := h.up e
  exact w.stops H (g H S.fh)
/-! ### names, constants -/
theorem g_k {e : Expr} {d : D} {v : V} (hK : G.K = X.K) (h : PE X e (tC v)) (r : ∀ F, Rp G.K F v d) (he : ∀ whole, isTrue e X.env whole = (do let v ← whole; standAt e.pos; holding [v] (truthy v))) : Good3 (G := G) (c := c) X W e (.k d) :=
  mk3 hK (PE.imp h fun σ H Q ⟨F, nv, S, q⟩ => q v F H (Ex.refl F) S (r F)) (fun i h => by cases h) rfl he
theorem g_g {e : Expr} {x : Str} {d : D} {v : V} (hK : G.K = X.K) (h : PE X e (tC v)) (r : ∀ F, Rp G.K F v d) (he : ∀ whole, isTrue e X.env whole = (do let v ← whole; standAt e.pos; holding [v] (truthy v))) : Good3 (G := G) (c := c) X W e (.g x d) :=
  mk3 hK (PE.imp h fun σ H Q ⟨F, nv, S, q⟩ => q v F H (Ex.refl F) S (r F)) (fun i h => by cases h) rfl he
theorem peek_ok {α : Type} {F : Hp} {nv : Nv} {i : Nat} {f : D → R α} {Q : α → Prop} (h : Pst G c F W ((peek nv i).bind f) Q) : ∃ d, peek nv i = .ok d ∧ Pst G c F W (f d) Q := by
  unfold peek at h ⊢
  obtain ⟨d, e, h⟩ := h.of
  exact ⟨d, by rw [e]; rfl, h⟩
theorem noex_leak (nv : Nv) (i : Nat) : NoEx (leak nv i) := by
  unfold leak
  split <;> first | exact NoEx.ok _ | exact NoEx.no
theorem g_v {e : Expr} {i : Nat} (hK : G.K = X.K) (h : PE X e (tVar i)) (he : ∀ whole, isTrue e X.env whole = (do let v ← whole; standAt e.pos; holding [v] (truthy v))) : Good3 (G := G) (c := c) X W e (.v i) := by
  refine ⟨PE.imp h fun σ H Q ⟨F, nv, S, q⟩ => ?_, PE.imp h fun σ H Q ⟨F, nv, S, q⟩ => ?_, PT.imp (pt_truth (PE.imp (t' := tO G c W (.v i)) h fun σ H Q ⟨F, nv, S, q⟩ => ?_) he) fun σ H Q q => ?_⟩
  · obtain ⟨r, hr, q⟩ := Pst.nx (noex_leak nv i) q
    obtain ⟨v, F', h1, e1, S1, r1⟩ := S.leak hr
    exact ⟨v, h1, q v F' H e1 S1 r1⟩
  · obtain ⟨d, hd, q⟩ := peek_ok q
    obtain ⟨v, hv⟩ := peek_some S hd
    exact ⟨v, hv, q v F H (Ex.refl F) S hv⟩
  · obtain ⟨d, hd, q⟩ := peek_ok q
    obtain ⟨v, hv⟩ := peek_some S hd
    exact ⟨v, hv, q v F H (Ex.refl F) S hv⟩
  · rw [← hK]
    exact tT_O rfl q
/-! ### a < b < c -/
theorem chain {o p : Op2} {ca cb cd : CE} {F H : Hp} {σ : L2.St} {nv : Nv} {Q : VK} {R0 : D × Bool × Nv → Prop} (hc : isCmp o = true) (S : Sat G.K c F H σ nv) (h : Pst G c F W (ev G.T G.call (.ch o p ca cb cd) nv) R0)
    (hf : ∀ nv2 F2 H2, Ex F F2 → Sat G.K c F2 H2 σ nv2 → R0 (.bool false, false, nv2) → Q (.bl false) H2)
    (k : ∀ d ow nv2 F2 H2, Ex F F2 → Sat G.K c F2 H2 σ nv2 → (∃ x y, op2 p x y = .ok (d, ow)) → R0 (d, ow, nv2) → FinR G.K F2 H2 d ow Q) : tChain (rOp2 G.K o) (rOp2 G.K p) (tO G c W ca) (tO G c W cb) (tO G c W cd) σ H Q := by
  refine ⟨F, nv, S, (Pst.bind (r := evO G.T G.call ca nv) h).mono (Ex.refl F) fun r _ h v F1 H1 e1 S1 o1 => ?_⟩
  refine ⟨F1, r.2, S1, (Pst.bind (r := evO G.T G.call cb r.2) h).mono e1 fun r2 _ h u F2 H2 e2 S2 o2 => ?_⟩
  obtain ⟨x, tx, h⟩ := fin_top S2 e2 o1 h
  obtain ⟨y, ty, h⟩ := fin_top S2 (Ex.refl F2) o2 h
  obtain ⟨d, q, h⟩ := h.nx (noex2 o x y)
  obtain ⟨d, ow⟩ := d
  obtain ⟨b, hd, ho⟩ := cmp_bool hc x y d ow q
  subst hd ho
  refine ⟨F2, x, y, _, _, S2.fh, tx, ty, q, FinR.bl S2 rfl rfl ?_⟩
  cases b with
  | false => exact hf r2.2 F2 H2 (e1.trans e2) S2 h
  | true =>
    refine ⟨F2, r2.2, S2, (Pst.bind (r := evO G.T G.call cd r2.2) h).mono (e1.trans e2) fun r3 _ h w F3 H3 e3 S3 o3 => ?_⟩
    obtain ⟨y', ty', h⟩ := fin_top S3 e3 o2 h
    obtain ⟨z, tz, h⟩ := fin_top S3 (Ex.refl F3) o3 h
    obtain ⟨d', q', h⟩ := h.nx (noex2 p y' z)
    exact ⟨F3, y', z, d'.1, d'.2, S3.fh, ty', tz, q', k d'.1 d'.2 r3.2 F3 H3 ((e1.trans e2).trans e3) S3 ⟨y', z, q'⟩ h⟩
theorem g_ch {a b d : Expr} {ca cb cd : CE} {op op' : CmpOp} {o p : Op2} {pos : Pos} (hK : G.K = X.K) (ho : OpR X (compareOp op) (rOp2 X.K o)) (hp : OpR X (compareOp op') (rOp2 X.K p)) (hm : lastMarks [op, op'] [b, d] = false) (hc : isCmp o = true) (hc' : isCmp p = true)
    (ha : Good3 (G := G) (c := c) X W a ca) (hb : Good3 (G := G) (c := c) X W b cb) (hd : Good3 (G := G) (c := c) X W d cd) : Good3 (G := G) (c := c) X W (.Compare a [op, op'] [b, d] pos) (.ch o p ca cb cd) := by
  rw [← hK] at ho hp
  have e := PE.imp (t' := tE G c W (.ch o p ca cb cd)) (pe_chain (pos := pos) ho hp ha.op hb.op hd.op hm) fun σ H Q ⟨F, nv, S, q⟩ => chain hc S q (fun nv2 F2 H2 e S2 q => q _ F2 H2 e S2 (.bl false)) fun d ow nv2 F2 H2 e S2 _ q => fin_end S2 fun v F' H' e' S' r => q v F' H' (e.trans e') S' r
  refine ⟨e, PE.imp e fun σ H Q q => ofO (fun i h => by cases h) q, PT.imp (pt_chain ho hp ha.op hb.op hd.op hm) fun σ H Q ⟨F, nv, S, q⟩ => ?_⟩
  refine chain hc S (tTE rfl q) (fun nv2 F2 H2 e S2 q => ?_) fun d ow nv2 F2 H2 e S2 ⟨x, y, z⟩ q => ?_
  · obtain ⟨b, hb, q⟩ := q
    cases hb
    exact ⟨false, rfl, q F2 H2 e S2⟩
  · obtain ⟨b, hd, ho⟩ := cmp_bool hc' x y d ow z
    obtain ⟨b', h1, h2⟩ := q
    subst hd
    cases h1
    exact FinR.bl S2 rfl ho (h2 F2 H2 e S2)
/-! ### d.get(k, x) -/
theorem op3_get {d k x r : D} {ow : Bool} (h : op3 .get d k x = .ok (r, ow)) : ∃ l, d = .dict l ∧ isKey k = true ∧ still x = true ∧ r = (dGet k l).getD x ∧ ow = false := by
  cases d <;> first | (cases h; done) | skip
  case dict l =>
    obtain ⟨hk, h⟩ := if_ok (show (if (isKey k && still x) = true then val ((dGet k l).getD x) else .no) = R.ok (r, ow) from h)
    obtain ⟨rfl, rfl⟩ := val_ok h
    rw [Bool.and_eq_true] at hk
    exact ⟨l, rfl, hk.1, hk.2, rfl, rfl⟩
/-- no super() ahead of the name of a method -/
def noBare : Expr → Bool
  | .Call _ _ _ _ => false
  | _ => true
theorem g_get {o e f : Expr} {co ce cf : CE} {apos cpos : Pos} (hK : G.K = X.K) (hu : X.A.units + 1 < cLine) (hb : noBare o = true) (hl : (apos.endLine == cpos.line) = true) (hs1 : noStar e = true) (hs2 : noStar f = true) (hnv : ∀ i, co ≠ .v i) (hdict : ∀ nv r, evO G.T G.call co nv = .ok r → ∃ l, r.1 = .dict l)
    (h1 : Good3 (G := G) (c := c) X W o co) (h2 : Good3 (G := G) (c := c) X W e ce) (h3 : Good3 (G := G) (c := c) X W f cf) : Good3 (G := G) (c := c) X W (.Call (.Attribute o "get" apos) [e, f] [] cpos) (.o3 .get co ce cf) := by
  have m : M2 X o "get" apos e f cpos := ⟨by cases o <;> first | rfl | exact absurd hb Bool.false_ne_true, by rw [star_one hs1, star_one hs2]; rfl, hl, by rw [star_one hs1, star_one hs2]; rfl⟩
  refine mk3 hK (PE.imp (pe_dget2 hu h1.op h2.op h3.op m) fun σ H Q ⟨F, nv, S, h⟩ => ?_) (fun i h => by cases h) rfl fun _ => rfl
  refine ⟨F, nv, S, (Pst.bind (r := evO G.T G.call co nv) h).mono (Ex.refl F) fun r hr h v F1 H1 e1 S1 o1 => ?_⟩
  obtain ⟨l, hl⟩ := hdict nv r hr
  have rp : Rp G.K F1 v (.dict l) := by
    rw [hl] at o1
    cases co <;> first | exact o1 | exact absurd rfl (hnv _)
  obtain ⟨a, kvs, rfl, ha, hkv⟩ := (show TopR G.K F1 H1 v (.dict l) from .inl rp).dict S1.fh
  refine ⟨a, rfl, .inl ⟨kvs, .inl ha⟩, F1, r.2, S1, (Pst.bind (r := evO G.T G.call ce r.2) h).mono e1 fun r2 _ h u F2 H2 e2 S2 o2 => ?_⟩
  refine ⟨F2, r2.2, S2, (Pst.bind (r := evO G.T G.call cf r2.2) h).mono (e1.trans e2) fun r3 _ h w F3 H3 e3 S3 o3 => ?_⟩
  obtain ⟨x, tx, h⟩ := fin_top S3 (e2.trans e3) o1 h
  obtain ⟨y, ty, h⟩ := fin_top S3 e3 o2 h
  obtain ⟨z, tz, h⟩ := fin_top S3 (Ex.refl F3) o3 h
  obtain ⟨d, q, h⟩ := h.nx (noex3 .get x y z)
  obtain ⟨d, ow⟩ := d
  obtain ⟨l', rfl, hk, hst, rfl, rfl⟩ := op3_get q
  obtain ⟨k, rfl⟩ := isKey_of hk
  have ek := kV_top ty
  subst ek
  obtain ⟨a', kvs', e', ha', hkv'⟩ := tx.dict S3.fh
  cases e'
  refine ⟨valV kvs' k, DGet.k ha', ?_⟩
  have E := ((e1.trans e2).trans e3)
  rcases hkv'.look k with ⟨w', d', g1, g2, g3⟩ | ⟨g1, g2⟩
  · rw [g1]
    rw [g2] at h
    exact h w' F3 H3 E S3 g3
  · rw [g1]
    rw [g2] at h
    rcases tz with tz | ⟨p, o, rfl, hp, hr⟩
    · exact h w F3 H3 E S3 tz
    · cases hr <;> cases hst
end
end SF

/-! Dict displays; targets. -/
namespace SF
open PySem PySem.Spec PyProof.Rows L2
open Evl (Ex)
section
variable {G : Gd} {c : EC} {X : Cx} {W : WX}
/-- with whatever is set apart -/
def uE (G : Gd) (W : WX) (ce : CE) : TE := fun σ H Q => ∃ c, tE G c W ce σ H Q
def uT (G : Gd) (W : WX) (ce : CE) : TT := fun σ H Q => ∃ c, tT G c W ce σ H Q
theorem pe_u {e : Expr} {ce : CE} (h : ∀ c, Good3 (G := G) (c := c) X W e ce) : PE X e (uE G W ce) := ⟨fun pins s σ H Q I ⟨c, q⟩ => (h c).ex.run pins s σ H Q I q⟩
theorem pt_u {e : Expr} {ce : CE} (h : ∀ c, Good3 (G := G) (c := c) X W e ce) : PT X e (uT G W ce) := ⟨fun pins s σ H Q I ⟨c, q⟩ => (h c).ts.run pins s σ H Q I q⟩
theorem Pst.apart {α : Type} {r : List (Addr × HO)} {F : Hp} {x : R α} {Q : α → Prop} (h : Pst G c F W x Q) : Pst G { c with rs := r } F W x Q := by
  cases x with
  | ok a => exact h
  | ex k ds => exact fun cls d σ F' H' e b q => h cls d σ F' H' e ⟨b.fh, b.f0, b.new, b.keep, b.there⟩ q
  | no => exact h
/-! ### dicts -/
theorem any_put {K : PySem.W.Frag} {F : Hp} (k : Key) : ∀ {kvs : List (Key × V)} {ds : List (D × D)}, RpK K F kvs ds → (kvs.any fun kv => decide (kv.1 = k)) = ds.any fun p => keyEq (keyD k) p.1
  | _, _, .nil => rfl
  | _, _, .cons (k := l) h r => by
    rw [List.any_cons, List.any_cons, any_put k r, keyD_inj]
theorem map_put {K : PySem.W.Frag} {F : Hp} {v : V} {d : D} (k : Key) (h : Rp K F v d) : ∀ {kvs : List (Key × V)} {ds : List (D × D)}, RpK K F kvs ds → RpK K F (kvs.map fun kv => if kv.1 = k then (kv.1, v) else kv) (ds.map fun p => if keyEq (keyD k) p.1 then (p.1, d) else p)
  | _, _, .nil => .nil
  | _, _, .cons (k := l) (v := u) (kvs := kvs) (d := e) (ds := ds) g r => by
    rw [List.map_cons, List.map_cons, keyD_inj]
    by_cases z : l = k
    · simp only [z, decide_true, if_true]
      exact .cons h (map_put k h r)
    · simp only [z, decide_false, if_false]
      exact .cons g (map_put k h r)
theorem RpK.append {K : PySem.W.Frag} {F : Hp} : ∀ {kvs : List (Key × V)} {ds : List (D × D)} {kvs' : List (Key × V)} {ds' : List (D × D)}, RpK K F kvs ds → RpK K F kvs' ds' → RpK K F (kvs ++ kvs') (ds ++ ds')
  | _, _, _, _, .nil, q => q
  | _, _, _, _, .cons h r, q => .cons h (RpK.append r q)
theorem RpK.put {K : PySem.W.Frag} {F : Hp} {kvs : List (Key × V)} {ds : List (D × D)} {v : V} {d : D} (r : RpK K F kvs ds) (k : Key) (h : Rp K F v d) : RpK K F (putK kvs k v) (dPut (keyD k) d ds) := by
  unfold putK dPut
  rw [any_put k r]
  by_cases z : (ds.any fun p => keyEq (keyD k) p.1) = true
  · rw [if_pos z, if_pos z]
    exact map_put k h r
  · rw [if_neg z, if_neg z]
    exact r.append (.cons h .nil)
theorem RpK.merge {K : PySem.W.Frag} {F : Hp} : ∀ {more : List (Key × V)} {qs : List (D × D)} {kvs : List (Key × V)} {ds : List (D × D)}, RpK K F more qs → RpK K F kvs ds → RpK K F (mergeK kvs more) (dPuts ds qs)
  | _, _, _, _, .nil, r => r
  | _, _, _, _, .cons (k := k) h t, r => by
    have z := RpK.merge t (r.put k h)
    exact z
def flat : List (V × V) → List V
  | [] => []
  | (x, y) :: l => x :: y :: flat l
theorem two_key {K : PySem.W.Frag} {F : Hp} {v : V} {k : Key} (h : Rp K F v (keyD k)) : v = kV k := by
  cases k with
  | inl i => cases (show Rp K F v (.int i) from h); rfl
  | inr i => cases (show Rp K F v (.str i) from h); rfl
theorem twos_keys {K : PySem.W.Frag} {F : Hp} : ∀ {ps : List (V × V)} {ds : List D} {qs : List (D × D)}, RpA K F (flat ps) ds → twos ds = some qs → (qs.all fun p => isKey p.1) = true → ∃ kvs : List (Key × V), ps = kvs.map (fun kv => (kV kv.1, kv.2)) ∧ RpK K F kvs qs
  | [], _, qs, .nil, h, _ => by cases h; exact ⟨[], rfl, .nil⟩
  | (x, y) :: ps, _, qs, .cons (d := d1) h1 (.cons (d := d2) (ds := ds) h2 r), h, a => by
    obtain ⟨q, e, h⟩ := Option.map_eq_some_iff.mp (show (twos ds).map ((d1, d2) :: ·) = some qs from h)
    subst h
    rw [List.all_cons, Bool.and_eq_true] at a
    obtain ⟨k, rfl⟩ := isKey_of a.1
    obtain ⟨kvs, rfl, r'⟩ := twos_keys r e a.2
    rw [two_key h1]
    exact ⟨(k, y) :: kvs, rfl, .cons h2 r'⟩
def trsOf (G : Gd) (W : WX) : CEs → List (TE × TE)
  | .cons k (.cons v l) => (uE G W k, uE G W v) :: trsOf G W l
  | _ => []
/-- an even number of items -/
def even : CEs → Bool
  | .nil => true
  | .cons _ .nil => false
  | .cons _ (.cons _ l) => even l
theorem pairs_of {σ : L2.St} : ∀ {kvs : CEs} {F H : Hp} {nv : Nv} {Q : List (V × V) → Hp → Prop}, even kvs = true → Sat G.K c F H σ nv →
    Pst G c F W (evs G.T G.call kvs nv) (fun r => ∀ ps F' H', Ex F F' → Sat G.K c F' H' σ r.2 → RpA G.K F' (flat ps) r.1 → Q ps H') → tPairs (trsOf G W kvs) σ H Q
  | .nil, F, H, nv, Q, _, S, q => q [] F H (Ex.refl F) S .nil
  | .cons _ .nil, _, _, _, _, h, _, _ => absurd h Bool.false_ne_true
  | .cons k (.cons v l), F, H, nv, Q, he, S, q => by
    refine ⟨c, F, nv, S, (Pst.bind (r := ev G.T G.call k nv) q).mono (Ex.refl F) fun r _ q x F1 H1 e1 S1 v1 => ?_⟩
    obtain ⟨F2, e2, S2, r2⟩ := S1.shared v1
    have q2 := Pst.bind q
    refine ⟨c, F2, r.2.2, S2, (Pst.bind (r := ev G.T G.call v r.2.2) q2).mono (e1.trans e2) fun r3 _ q y F3 H3 e3 S3 v3 => ?_⟩
    obtain ⟨F4, e4, S4, r4⟩ := S3.shared v3
    have E : Ex F F4 := ((e1.trans e2).trans e3).trans e4
    refine pairs_of (show even l = true from he) S4 ((Pst.bind q).mono E fun r5 _ q ps F' H' e5 S5 rs => ?_)
    exact q ((x, y) :: ps) F' H' (E.trans e5) S5 (.cons (r2.up ((e3.trans e4).trans e5)) (.cons (r4.up e5) rs))
theorem g_dct {ks : List (Option Expr)} {vs : List Expr} {kvs : CEs} {pos : Pos} (hK : G.K = X.K) (hp : PPs X pos ks vs (trsOf G W kvs)) (hall : ks.all (·.isSome) = true) (hl : ks.length = vs.length) (h0 : ks ≠ []) (h15 : ks.length ≤ 15) (hev : even kvs = true) :
    Good3 (G := G) (c := c) X W (.Dict ks vs pos) (.dct kvs) := by
  refine mk3 hK (PE.imp (pe_disp hp hall hl h0 h15) fun σ H Q ⟨F, nv, S, q⟩ p hp => ?_) (fun i h => by cases h) rfl fun _ => rfl
  have S0 := S.keepApart (o := .dK []) hp
  have nr : ∀ q ∈ c.rs, q.1 ≠ p := fun q hq => ne_of_none (S.res q hq).2.1 hp
  refine pairs_of hev S0 (((Pst.bind (r := evs G.T G.call kvs nv) q).apart).mono (Ex.refl F) fun r _ q ps F' H' e' S' rs => ?_)
  obtain ⟨qs, hq, q⟩ := Pst.of q
  obtain ⟨hc, q⟩ := Pst.if_ q
  rw [Bool.and_eq_true, decide_eq_true_eq] at hc
  obtain ⟨kvs, rfl, rk⟩ := twos_keys rs hq hc.1
  obtain ⟨h1, h2, h3⟩ := S'.comeBack nr (HR.dic (rk.merge .nil))
  exact ⟨h1, kvs, rfl, by rw [rk.length]; exact hc.2, q _ _ _ e' h2 h3⟩
/-! ### targets -/
def tG (G : Gd) (c : EC) (tg : Tg) : TG := fun v σ H Q => ∃ F nv d ow nv', Sat G.K c F H σ nv ∧ VR G.K c F H σ nv v d ow ∧ asg tg d ow nv = .ok nv' ∧
  ∀ σ', (∀ vs : List Nat, tgAll (fun i => vs.contains i) tg = true → wipe σ' vs = wipe σ vs) → Sat G.K c F H σ' nv' → Q σ' H
def tGs (G : Gd) (c : EC) (l : Tgs) : TGs := fun ws σ H Q => ∃ F nv ds nv', Sat G.K c F H σ nv ∧ RpA G.K F ws ds ∧ asgs l ds nv = .ok nv' ∧
  ∀ σ', (∀ vs : List Nat, tgAll.tgsAll (fun i => vs.contains i) l = true → wipe σ' vs = wipe σ vs) → Sat G.K c F H σ' nv' → Q σ' H
theorem PG.imp {e : Expr} {t t' : TG} (h : PG X e t) (k : ∀ v σ H Q, t' v σ H Q → t v σ H Q) : PG X e t' := ⟨fun pins s σ H v u Q I r q => h.run pins s σ H v u Q I r (k v σ H Q q)⟩
theorem PGs.imp {e : List Expr} {t t' : TGs} (h : PGs X e t) (k : ∀ v σ H Q, t' v σ H Q → t v σ H Q) : PGs X e t' := ⟨fun pins s σ H v u Q I r q => h.run pins s σ H v u Q I r (k v σ H Q q)⟩
theorem wipe_set {σ : L2.St} {i : Nat} {x : Option V} : ∀ {vs : List Nat}, i ∈ vs → wipe (σ.set i x) vs = wipe σ vs
  | v :: vs, h => by
    show (wipe (σ.set i x) vs).set v none = (wipe σ vs).set v none
    by_cases z : i ∈ vs
    · rw [wipe_set z]
    · have e : v = i := by
        rcases List.mem_cons.mp h with h | h
        · exact h.symm
        · exact absurd h z
      subst e
      have : ∀ {ws : List Nat}, v ∉ ws → wipe (σ.set v x) ws = (wipe σ ws).set v x := by
        intro ws
        induction ws with
        | nil => intro _; rfl
        | cons w ws ih =>
          intro hw
          show (wipe (σ.set v x) ws).set w none = ((wipe σ ws).set w none).set v x
          rw [ih fun q => hw (List.mem_cons_of_mem _ q)]
          exact List.set_comm _ _ fun q => hw (by rw [q]; exact List.mem_cons_self)
      rw [this z, List.set_set]
theorem put_ok {nv nv' : Nv} {i : Nat} {d : D} {ow : Bool} (h : put nv i d ow = .ok nv') : i < nv.length ∧ nv' = nv.set i (if ow then .own d else .val d) := by
  unfold put at h
  cases e : nv[i]? with
  | none => rw [e] at h; cases h
  | some s =>
    rw [e] at h
    have hl := (List.getElem?_eq_some_iff.mp e).1
    cases s <;> first | (cases h; done) | (cases h; exact ⟨hl, rfl⟩)
/-- a value is given to a name -/
theorem Sat.put {F H : Hp} {σ : L2.St} {nv nv' : Nv} {i : Nat} {v : V} {d : D} {ow : Bool} (S : Sat G.K c F H σ nv) (r : VR G.K c F H σ nv v d ow) (h : SF.put nv i d ow = .ok nv') : Sat G.K c F H (σ.set i (some v)) nv' := by
  obtain ⟨hl, rfl⟩ := put_ok h
  cases ow with
  | false => exact S.store hl (s := .val d) ⟨v, rfl, r⟩ fun z => by cases z
  | true =>
    obtain ⟨a, o, rfl, h1, h2, h3, h4, h5, h6⟩ := r
    refine S.store hl (s := .own d) ⟨a, o, rfl, h1, h2, h3, h4⟩ fun _ b z => ?_
    cases z
    exact ⟨h5, h6⟩
theorem g_tn {x : Str} {i : Nat} {pos : Pos} (hN : X.N.Nodup) (hi : X.N[i]? = some x) (hx : Loc X.env.scope x) (hf : X.fn x = true ∨ X.env.scope.names.lookup x = some .local) : PG X (.Name x pos) (tG G c (.n i)) :=
  PG.imp (pg_name hN hi hx hf) fun v σ H Q ⟨F, nv, d, ow, nv', S, r, h, q⟩ => q _ (fun vs hv => wipe_set (List.contains_iff_mem.mp hv)) (S.put r h)
theorem VR.tuple {F H : Hp} {σ : L2.St} {nv : Nv} {v : V} {ds : List D} {ow : Bool} (h : VR G.K c F H σ nv v (.tuple ds) ow) : Rp G.K F v (.tuple ds) := by
  cases ow with
  | false => exact h
  | true => obtain ⟨a, o, _, _, _, r, _⟩ := h; cases r
def tgLen : Tgs → Nat
  | .nil => 0
  | .cons _ l => tgLen l + 1
theorem asgs_len : ∀ {l : Tgs} {ds : List D} {nv nv' : Nv}, asgs l ds nv = .ok nv' → ds.length = tgLen l
  | .nil, [], _, _, _ => rfl
  | .nil, _ :: _, _, _, h => by cases h
  | .cons _ _, [], _, _, h => by cases h
  | .cons a l, d :: ds, nv, nv', h => by
    obtain ⟨n1, _, h⟩ := bind_ok (show (asg a d false nv).bind (fun nv1 => asgs l ds nv1) = .ok nv' from h)
    show ds.length + 1 = tgLen l + 1
    rw [asgs_len h]
theorem g_ts0 : PGs X [] (tGs G c .nil) := PGs.imp pgs_nil fun ws σ H Q ⟨F, nv, ds, nv', S, r, h, q⟩ => by
  cases r with
  | nil => cases h; exact ⟨rfl, q σ (fun _ _ => rfl) S⟩
  | cons _ _ => cases h
theorem g_tsC {e : Expr} {es : List Expr} {a : Tg} {l : Tgs} (hs : (assignEach (e :: es) X.env).map (·.2) = assign e X.env :: (assignEach es X.env).map (·.2)) (h1 : PG X e (tG G c a)) (h2 : PGs X es (tGs G c l)) : PGs X (e :: es) (tGs G c (.cons a l)) :=
  PGs.imp (pgs_cons h1 h2 hs) fun ws σ H Q ⟨F, nv, ds, nv', S, r, h, q⟩ => by
    cases r with
    | nil => cases h
    | @cons w ws d ds rw' rs =>
      obtain ⟨n1, h3, h⟩ := bind_ok (show (asg a d false nv).bind (fun nv1 => asgs l ds nv1) = .ok nv' from h)
      refine ⟨w, ws, rfl, F, nv, d, false, n1, S, rw', h3, fun σ1 w1 S1 => ⟨F, n1, ds, nv', S1, rs, h, fun σ2 w2 S2 => q σ2 (fun vs hv => ?_) S2⟩⟩
      have hv' : (tgAll (fun i => vs.contains i) a && tgAll.tgsAll (fun i => vs.contains i) l) = true := hv
      rw [Bool.and_eq_true] at hv'
      rw [w2 vs hv'.2, w1 vs hv'.1]
theorem g_tt {es : List Expr} {k : Nat} {l : Tgs} {pos : Pos} (hK : G.K = X.K) (hc : X.calm = true) (hn : (assignEach es X.env).length = tgLen l) (hst : (assignEach es X.env).findIdx? (·.1) = none) (h : PGs X es (tGs G c l)) : PG X (.Tuple es k pos) (tG G c (.t l)) :=
  PG.imp (pg_tup hc h hn hst) fun v σ H Q ⟨F, nv, d, ow, nv', S, r, h, q⟩ => by
    cases d <;> first | (cases h; done) | skip
    case tuple ds =>
      cases VR.tuple r with
      | tup hs rs => exact ⟨_, _, rfl, by rw [← hK]; exact Evl.ex_t S.fh hs, by rw [rs.length]; exact asgs_len h, F, nv, ds, nv', S, rs, h, q⟩
end
end SF

/-! Comprehensions. -/
namespace SF
open PySem PySem.Spec PyProof.Rows L2
open Evl (Ex)
theorem blank_out {j : Nat} {nv : Nv} : ∀ {own : List Nat}, j ∉ own → (blank own nv)[j]? = nv[j]?
  | [], _ => rfl
  | i :: l, h => by
    show ((blank l nv).set i .emp)[j]? = _
    rw [List.getElem?_set_ne fun z => h (by rw [z]; exact List.mem_cons_self)]
    exact blank_out fun z => h (List.mem_cons_of_mem _ z)
theorem blank_in {j : Nat} {nv : Nv} {s : Slot} : ∀ {own : List Nat}, j ∈ own → (blank own nv)[j]? = some s → s = .emp
  | i :: l, h, e => by
    have e' : ((blank l nv).set i .emp)[j]? = some s := e
    by_cases z : i = j
    · subst z
      rw [List.getElem?_set] at e'
      simp only [if_true] at e'
      split at e'
      · exact (Option.some.inj e').symm
      · cases e'
    · rw [List.getElem?_set_ne z] at e'
      rcases List.mem_cons.mp h with h | h
      · exact absurd h.symm z
      · exact blank_in h e'
theorem blank_len {nv : Nv} : ∀ {own : List Nat}, (blank own nv).length = nv.length
  | [] => rfl
  | i :: l => by
    show ((blank l nv).set i .emp).length = _
    rw [List.length_set, blank_len]
theorem back_out {j : Nat} {old nv : Nv} : ∀ {own : List Nat}, j ∉ own → (back own old nv)[j]? = nv[j]?
  | [], _ => rfl
  | i :: l, h => by
    show ((back l old nv).set i _)[j]? = _
    rw [List.getElem?_set_ne fun z => h (by rw [z]; exact List.mem_cons_self)]
    exact back_out fun z => h (List.mem_cons_of_mem _ z)
theorem back_in {j : Nat} {old nv : Nv} {s : Slot} : ∀ {own : List Nat}, j ∈ own → (back own old nv)[j]? = some s → s = old.getD j .emp
  | i :: l, h, e => by
    have e' : ((back l old nv).set i (old.getD i .emp))[j]? = some s := e
    by_cases z : i = j
    · subst z
      rw [List.getElem?_set] at e'
      simp only [if_true] at e'
      split at e'
      · exact (Option.some.inj e').symm
      · cases e'
    · rw [List.getElem?_set_ne z] at e'
      rcases List.mem_cons.mp h with h | h
      · exact absurd h.symm z
      · exact back_in h e'
theorem back_len {old nv : Nv} : ∀ {own : List Nat}, (back own old nv).length = nv.length
  | [] => rfl
  | i :: l => by
    show ((back l old nv).set i _).length = _
    rw [List.length_set, back_len]
theorem wipe_out {j : Nat} {σ : L2.St} : ∀ {own : List Nat}, j ∉ own → (wipe σ own)[j]? = σ[j]?
  | [], _ => rfl
  | i :: l, h => by
    show ((wipe σ l).set i none)[j]? = _
    rw [List.getElem?_set_ne fun z => h (by rw [z]; exact List.mem_cons_self)]
    exact wipe_out fun z => h (List.mem_cons_of_mem _ z)
theorem wipe_in {j : Nat} {σ : L2.St} {x : Option V} : ∀ {own : List Nat}, j ∈ own → (wipe σ own)[j]? = some x → x = none
  | i :: l, h, e => by
    have e' : ((wipe σ l).set i none)[j]? = some x := e
    by_cases z : i = j
    · subst z
      rw [List.getElem?_set] at e'
      simp only [if_true] at e'
      split at e'
      · exact (Option.some.inj e').symm
      · cases e'
    · rw [List.getElem?_set_ne z] at e'
      rcases List.mem_cons.mp h with h | h
      · exact absurd h.symm z
      · exact wipe_in h e'
theorem wipe_wipe {σ : L2.St} {own : List Nat} : wipe (wipe σ own) own = wipe σ own := by
  refine List.ext_getElem? fun j => ?_
  by_cases h : j ∈ own
  · have l1 : (wipe (wipe σ own) own).length = σ.length := by rw [wipe_length, wipe_length]
    have l2 : (wipe σ own).length = σ.length := wipe_length σ own
    by_cases hj : j < σ.length
    · rw [List.getElem?_eq_getElem (by rw [l1]; exact hj), List.getElem?_eq_getElem (by rw [l2]; exact hj)]
      rw [wipe_in h (List.getElem?_eq_getElem (by rw [l1]; exact hj)), wipe_in h (List.getElem?_eq_getElem (by rw [l2]; exact hj))]
    · rw [List.getElem?_eq_none (by rw [l1]; omega), List.getElem?_eq_none (by rw [l2]; omega)]
  · rw [wipe_out h]
section
variable {G : Gd} {c : EC} {X : Cx} {W : WX} {F H : Hp} {σ : L2.St} {nv : Nv} {own : List Nat}
theorem held_blank {j : Nat} {a : Addr} (h : Held (blank own nv) (wipe σ own) j a) : j ∉ own ∧ Held nv σ j a := by
  obtain ⟨⟨s, h1, h2⟩, h3⟩ := h
  have n : j ∉ own := fun z => by rw [blank_in z h1] at h2; cases h2
  rw [blank_out n] at h1
  rw [wipe_out n] at h3
  exact ⟨n, ⟨s, h1, h2⟩, h3⟩
theorem Sat.blank (S : Sat G.K c F H σ nv) : Sat G.K c F H (wipe σ own) (SF.blank own nv) := by
  refine ⟨S.toBs, by rw [blank_len, wipe_length]; exact S.len, fun j s e => ?_, fun i j a h1 h2 => S.dis i j a (held_blank h1).2 (held_blank h2).2, fun p hp => ?_⟩
  · by_cases h : j ∈ own
    · rw [blank_in h e]
      trivial
    · rw [blank_out h] at e
      rw [wipe_out h]
      exact S.slot j s e
  · obtain ⟨r1, r2, r3, r4⟩ := S.res p hp
    exact ⟨r1, r2, r3, fun i h => r4 i (held_blank h).2⟩
theorem Sat.back {c0 : EC} {F0 H0 : Hp} {old : Nv} (S : Sat G.K c F H (wipe σ own) (SF.blank own nv)) (S0 : Sat G.K c0 F0 H0 σ old) (hb : blankOk own old = true) (e : Ex F0 F) : Sat G.K c F H σ (SF.back own old nv) := by
  have emp : ∀ j ∈ own, ∀ s, (SF.back own old nv)[j]? = some s → s.holds = false ∧ SlotR G.K c F H σ[j]? s := fun j hj s q => by
    rw [back_in hj q]
    have z := List.all_eq_true.mp hb j hj
    rw [List.getD_eq_getElem?_getD]
    cases k : old[j]? with
    | none => exact ⟨rfl, trivial⟩
    | some u =>
      rw [k] at z
      have sl := S0.slot j u k
      cases u with
      | emp => exact ⟨rfl, trivial⟩
      | val d => obtain ⟨v, h1, h2⟩ := sl; exact ⟨rfl, v, h1, h2.up e⟩
      | own d => cases z
      | io d => cases z
  have held : ∀ {j : Nat} {a : Addr}, Held (SF.back own old nv) σ j a → Held (SF.blank own nv) (wipe σ own) j a := fun {j a} ⟨⟨s, h1, h2⟩, h3⟩ => by
    have n : j ∉ own := fun z => by rw [(emp j z s h1).1] at h2; cases h2
    exact ⟨⟨s, by rw [blank_out n, ← back_out n]; exact h1, h2⟩, by rw [wipe_out n]; exact h3⟩
  refine ⟨S.toBs, ?_, fun j s q => ?_, fun i j a h1 h2 => S.dis i j a (held h1) (held h2), fun p hp => ?_⟩
  · have := S.len
    rw [blank_len, wipe_length] at this
    rw [back_len]
    exact this
  · by_cases h : j ∈ own
    · exact (emp j h s q).2
    · rw [back_out h] at q
      have := S.slot j s (by rw [blank_out h]; exact q)
      rw [wipe_out h] at this
      exact this
  · obtain ⟨r1, r2, r3, r4⟩ := S.res p hp
    exact ⟨r1, r2, r3, fun i h => r4 i (held h)⟩
theorem Pst.calm {α β : Type} {r : R α} {f : α → R β} {Q : β → Prop} (h : Pst G c F W (r.calm.bind f) Q) : ∃ a, r = .ok a ∧ Pst G c F W (f a) Q := by
  cases r with
  | ok a => exact ⟨a, rfl, h⟩
  | ex _ _ => exact h.elim
  | no => exact h.elim
def uG (G : Gd) (tg : Tg) : TG := fun v σ H Q => ∃ c, tG G c tg v σ H Q
/-- nothing is let out -/
def W0 : WX := fun _ _ _ _ => False
theorem Pst.ok {α : Type} {r : R α} {a : α} {Q : α → Prop} (h : r = .ok a) (q : Q a) : Pst G c F W r Q := by
  subst h
  exact q
theorem lc_t {tg : Tg} {ci : CI} {ct ce : CE} {Q : VK} (ht : tgAll (fun i => own.contains i) tg = true) (q : tE G c W (.lc own tg ci ct ce) σ H Q) : tLc (tI G c W ci) (uG G tg) (uT G W0 ct) (uE G W0 ce) own σ H Q := by
  obtain ⟨F, nv, S, q⟩ := q
  refine ⟨F, nv, S, (Pst.bind (r := evI G.T G.call ci nv) q).mono (Ex.refl F) fun r _ q J F1 H1 e1 S1 ir D hD => ?_⟩
  obtain ⟨hb, q⟩ := Pst.if_ q
  obtain ⟨q2, hq2, q⟩ := Pst.calm q
  have nr : ∀ q ∈ c.rs, q.1 ≠ D := fun q hq => ne_of_none (S1.res q hq).2.1 hD
  generalize hturn : (fun (d : PyData) (n : Nv) => (asg tg d false (blank own n)).bind fun n1 => ((evB G.T G.call ct).t n1).bind fun b => if b.1 = true then ((evB G.T G.call ce).v b.2).bind fun x => R.ok (some x.1, x.2.2) else R.ok (none, b.2)) = turn at hq2
  refine ⟨fun i m H' => m = r.1.length - i ∧ i ≤ r.1.length ∧ ∃ F2 n acc accD, Ex F1 F2 ∧ Sat G.K { c with rs := (D, .lst acc) :: c.rs } F2 H' (wipe σ own) (blank own n) ∧ RpA G.K F2 acc accD ∧ lcR turn (r.1.drop i) accD n = .ok q2,
    ⟨r.1.length, rfl, Nat.zero_le _, F1, r.2, [], [], Ex.refl F1, (S1.keepApart hD).blank, .nil, hq2⟩, ?_⟩
  rintro i m H2 ⟨rfl, hi, F2, n, acc, accD, e2, S2, ra, hl⟩
  by_cases hlt : i < r.1.length
  · refine .inr ?_
    have hd : r.1[i]? = some r.1[i] := List.getElem?_eq_getElem hlt
    rw [List.drop_eq_getElem_cons hlt] at hl
    obtain ⟨t, htn, hl⟩ := bind_ok (show (turn r.1[i] n).bind _ = R.ok q2 from hl)
    subst hturn
    obtain ⟨n1, hn1, htn⟩ := bind_ok htn
    obtain ⟨b, hbt, htn⟩ := bind_ok htn
    obtain ⟨go, yl⟩ := ir.turn e2 S2 hd
    refine ⟨go, fun H' => ∃ F2 n acc accD, Ex F1 F2 ∧ Sat G.K { c with rs := (D, .lst acc) :: c.rs } F2 H' (wipe σ own) (blank own n) ∧ RpA G.K F2 acc accD ∧ lcR _ (r.1.drop (i + 1)) accD n = .ok q2, fun H' p => ⟨_, by omega, rfl, hlt, p⟩, fun x H3 y => ?_⟩
    obtain ⟨F3, e3, S3, r3⟩ := yl x H3 y
    refine ⟨_, F3, blank own n, r.1[i], false, n1, S3, r3, hn1, fun σ2 w2 S4 => ?_⟩
    have hw : wipe σ2 own = wipe σ own := (w2 own ht).trans wipe_wipe
    refine ⟨hw, _, F3, n1, S4, Pst.ok hbt fun F5 H5 e5 S5 => ?_⟩
    obtain ⟨b, nb⟩ := b
    cases b with
    | true =>
      obtain ⟨z, hz, htn⟩ := bind_ok (show ((evB G.T G.call ce).v nb).bind (fun x => R.ok (some x.1, x.2.2)) = R.ok t from htn)
      cases htn
      obtain ⟨hlen, hl⟩ := if_ok (show (if accD.length < lim then lcR _ (r.1.drop (i + 1)) (accD ++ [z.1]) z.2.2 else .no) = R.ok q2 from hl)
      refine ⟨_, F5, nb, S5, Pst.ok hz fun v F6 H6 e6 S6 vr => ?_⟩
      obtain ⟨F7, e7, S7, r7⟩ := S6.shared vr
      refine ⟨acc, (S7.res (D, .lst acc) List.mem_cons_self).2.1, ?_, F7, z.2.2, acc ++ [v], accD ++ [z.1], ((((e2.trans e3).trans e5).trans e6).trans e7), ?_, (ra.up (((e3.trans e5).trans e6).trans e7)).append (.cons r7 .nil), hl⟩
      · rw [ra.length]
        exact Nat.lt_of_lt_of_le hlen lim_le
      · have S8 := (S7.stayApart (o' := .lst (acc ++ [v])) nr).blank (own := own)
        rw [hw] at S8
        exact S8
    | false =>
      have htn' : (R.ok (none, nb) : R (Option PyData × Nv)) = R.ok t := htn
      cases htn'
      have S8 := S5.blank (own := own)
      rw [hw] at S8
      exact ⟨F5, nb, acc, accD, ((e2.trans e3).trans e5), S8, ra.up (e3.trans e5), hl⟩
  · refine .inl ?_
    have ei : i = r.1.length := by omega
    subst ei
    rw [List.drop_length] at hl
    cases hl
    obtain ⟨h1, h2, h3⟩ := (S2.back S1 hb e2).comeBack nr (HR.lst ra)
    rw [upd_self h1] at h2 h3
    exact ⟨ir.stop e2 S2, q _ F2 _ (e1.trans e2) h2 h3⟩
theorem dc_t {tg : Tg} {ci : CI} {ct ck ce : CE} {Q : VK} (ht : tgAll (fun i => own.contains i) tg = true) (q : tE G c W (.dc own tg ci ct ck ce) σ H Q) : tDc (tI G c W ci) (uG G tg) (uT G W0 ct) (uE G W0 ck) (uE G W0 ce) own σ H Q := by
  obtain ⟨F, nv, S, q⟩ := q
  refine ⟨F, nv, S, (Pst.bind (r := evI G.T G.call ci nv) q).mono (Ex.refl F) fun r _ q J F1 H1 e1 S1 ir D hD => ?_⟩
  obtain ⟨hb, q⟩ := Pst.if_ q
  obtain ⟨q2, hq2, q⟩ := Pst.calm q
  have nr : ∀ q ∈ c.rs, q.1 ≠ D := fun q hq => ne_of_none (S1.res q hq).2.1 hD
  generalize hturn : (fun (d : PyData) (n : Nv) => (asg tg d false (blank own n)).bind fun n1 => ((evB G.T G.call ct).t n1).bind fun b => if b.1 = true then ((evB G.T G.call ck).v b.2).bind fun k => ((evB G.T G.call ce).v k.2.2).bind fun x => R.ok (some (k.1, x.1), x.2.2) else R.ok (none, b.2)) = turn at hq2
  refine ⟨fun i m H' => m = r.1.length - i ∧ i ≤ r.1.length ∧ ∃ F2 n acc accD, Ex F1 F2 ∧ Sat G.K { c with rs := (D, .dK acc) :: c.rs } F2 H' (wipe σ own) (blank own n) ∧ RpK G.K F2 acc accD ∧ dcR turn (r.1.drop i) accD n = .ok q2,
    ⟨r.1.length, rfl, Nat.zero_le _, F1, r.2, [], [], Ex.refl F1, (S1.keepApart hD).blank, .nil, hq2⟩, ?_⟩
  rintro i m H2 ⟨rfl, hi, F2, n, acc, accD, e2, S2, ra, hl⟩
  by_cases hlt : i < r.1.length
  · refine .inr ?_
    have hd : r.1[i]? = some r.1[i] := List.getElem?_eq_getElem hlt
    rw [List.drop_eq_getElem_cons hlt] at hl
    obtain ⟨t, htn, hl⟩ := bind_ok (show (turn r.1[i] n).bind _ = R.ok q2 from hl)
    subst hturn
    obtain ⟨n1, hn1, htn⟩ := bind_ok htn
    obtain ⟨b, hbt, htn⟩ := bind_ok htn
    obtain ⟨go, yl⟩ := ir.turn e2 S2 hd
    refine ⟨go, fun H' => ∃ F2 n acc accD, Ex F1 F2 ∧ Sat G.K { c with rs := (D, .dK acc) :: c.rs } F2 H' (wipe σ own) (blank own n) ∧ RpK G.K F2 acc accD ∧ dcR _ (r.1.drop (i + 1)) accD n = .ok q2, fun H' p => ⟨_, by omega, rfl, hlt, p⟩, fun x H3 y => ?_⟩
    obtain ⟨F3, e3, S3, r3⟩ := yl x H3 y
    refine ⟨_, F3, blank own n, r.1[i], false, n1, S3, r3, hn1, fun σ2 w2 S4 => ?_⟩
    have hw : wipe σ2 own = wipe σ own := (w2 own ht).trans wipe_wipe
    refine ⟨hw, _, F3, n1, S4, Pst.ok hbt fun F5 H5 e5 S5 => ?_⟩
    obtain ⟨b, nb⟩ := b
    cases b with
    | true =>
      obtain ⟨k, hk, htn⟩ := bind_ok (show ((evB G.T G.call ck).v nb).bind (fun k => ((evB G.T G.call ce).v k.2.2).bind fun x => R.ok (some (k.1, x.1), x.2.2)) = R.ok t from htn)
      obtain ⟨z, hz, htn⟩ := bind_ok htn
      cases htn
      obtain ⟨hlen, hl⟩ := if_ok (show (if (isKey k.1 && decide (accD.length < lim)) = true then dcR _ (r.1.drop (i + 1)) (dPut k.1 z.1 accD) z.2.2 else .no) = R.ok q2 from hl)
      rw [Bool.and_eq_true, decide_eq_true_eq] at hlen
      obtain ⟨kk, ek⟩ := isKey_of hlen.1
      refine ⟨_, F5, nb, S5, Pst.ok hk fun u F6 H6 e6 S6 vr => ?_⟩
      obtain ⟨F7, e7, S7, r7⟩ := S6.shared vr
      refine ⟨_, F7, k.2.2, S7, Pst.ok hz fun v F8 H8 e8 S8 vr2 => ?_⟩
      obtain ⟨F9, e9, S9, r9⟩ := S8.shared vr2
      rw [ek] at r7 hl
      have eu := two_key r7
      subst eu
      refine ⟨acc, kk, rfl, (S9.res (D, .dK acc) List.mem_cons_self).2.1, ?_, F9, z.2.2, putK acc kk v, dPut (keyD kk) z.1 accD, ((((((e2.trans e3).trans e5).trans e6).trans e7).trans e8).trans e9), ?_, (ra.up (((((e3.trans e5).trans e6).trans e7).trans e8).trans e9)).put kk r9, hl⟩
      · rw [RpK.length ra]
        exact Nat.lt_of_lt_of_le hlen.2 lim_le
      · have S10 := (S9.stayApart (o' := .dK (putK acc kk v)) nr).blank (own := own)
        rw [hw] at S10
        exact S10
    | false =>
      have htn' : (R.ok (none, nb) : R (Option (PyData × PyData) × Nv)) = R.ok t := htn
      cases htn'
      have S8 := S5.blank (own := own)
      rw [hw] at S8
      exact ⟨F5, nb, acc, accD, ((e2.trans e3).trans e5), S8, ra.up (e3.trans e5), hl⟩
  · refine .inl ?_
    have ei : i = r.1.length := by omega
    subst ei
    rw [List.drop_length] at hl
    cases hl
    obtain ⟨h1, h2, h3⟩ := (S2.back S1 hb e2).comeBack nr (HR.dic ra)
    rw [upd_self h1] at h2 h3
    exact ⟨ir.stop e2 S2, q _ F2 _ (e1.trans e2) h2 h3⟩
end
end SF

/-! What is walked: the readings. -/
namespace SF
open PySem PySem.Spec PyProof.Rows L2
open Evl (Ex)
theorem smallI_62 {i : Int} (h : smallI i = true) : -(2 ^ 62) ≤ i ∧ i < 2 ^ 62 := by
  unfold smallI at h
  rw [Bool.and_eq_true, decide_eq_true_eq, decide_eq_true_eq] at h
  omega
section
variable {G : Gd} {c : EC} {X : Cx} {W : WX} {tg : Expr}
theorem ir_down {K : PySem.W.Frag} {F : Hp} {a b : Int} : IR K F (Itc a (-1) (a - b).toNat) (rangeD a b) := by
  refine .mk (G := fun _ => True) (Y := fun i H v H' => H' = H ∧ v = .int (a + (i : Nat) * (-1))) ⟨fun i H h _ => h, fun H _ => Nat.le_refl _, fun i H x H' _ _ y => y⟩ (by unfold rangeD; rw [List.length_map, List.length_range]) (fun _ _ => trivial) fun i H v H' d hd e y => .inl ⟨y.1, ?_⟩
  unfold rangeD at hd
  rw [List.getElem?_map] at hd
  obtain ⟨j, h1, h2⟩ := Option.map_eq_some_iff.mp hd
  obtain ⟨h3, h4⟩ := List.getElem?_eq_some_iff.mp h1
  rw [List.getElem_range] at h4
  subst h4 h2
  rw [y.2]
  exact .int _
theorem i_seq {e : Expr} {ce : CE} (hK : G.K = X.K) (h : Good3 (G := G) (c := c) X W e ce) : PI X tg e (tI G c W (.seq ce)) := by
  refine PI.imp (pi_seqR h.ex) fun σ H R ⟨F, nv, S, q⟩ => ?_
  rw [← hK]
  refine ⟨F, nv, S, (Pst.bind (r := ev G.T G.call ce nv) q).mono (Ex.refl F) fun r _ q v F1 H1 e1 S1 vr => ?_⟩
  obtain ⟨l, hl, q⟩ := Pst.of q
  obtain ⟨F2, e2, S2, r2⟩ := S1.shared vr
  obtain ⟨d, ow, nv1⟩ := r
  cases d <;> first | (cases hl; done) | skip
  case str z _ _ =>
    cases hl
    cases r2
    exact .inr (.inr ⟨z, rfl, q _ F2 H1 (e1.trans e2) S2 ir_str⟩)
  case list l =>
    cases hl
    cases r2 with
    | lst h r => exact .inl ⟨_, _, rfl, .inl (Evl.ex_rd S2.fh h), q _ F2 H1 (e1.trans e2) S2 (ir_list h r)⟩
  case tuple l =>
    cases hl
    cases r2 with
    | tup h r => exact .inr (.inl ⟨_, _, rfl, Evl.ex_t S2.fh h, q _ F2 H1 (e1.trans e2) S2 (ir_tup h r)⟩)
theorem i_enm {e : Expr} {es : List Expr} {ce : CE} {k : Nat} {tpos p pos : Pos} (hK : G.K = X.K) (hg : Gl X "enumerate") (hm : X.mg "enumerate" = none) (hs : noStar e = true) (h : Good3 (G := G) (c := c) X W e ce) : PI X (.Tuple es k tpos) (.Call (.Name "enumerate" p) [e] [] pos) (tI G c W (.enm ce)) := by
  refine PI.imp (pi_enumR hg hm (pa_cons h.ex pa_nil (star_one hs)) (star_one hs)) fun σ H R ⟨F, nv, S, q⟩ => ?_
  rw [← hK]
  refine ⟨F, nv, S, (Pst.bind (r := ev G.T G.call ce nv) q).mono (Ex.refl F) fun r _ q v F1 H1 e1 S1 vr => ?_⟩
  obtain ⟨F2, e2, S2, r2⟩ := S1.shared vr
  obtain ⟨d, ow, nv1⟩ := r
  cases d <;> first | exact q.elim | skip
  case list l =>
    cases r2 with
    | lst h r => exact ⟨_, _, rfl, .inl ⟨.inl (Evl.ex_rd S2.fh h), q _ F2 H1 (e1.trans e2) S2 (ir_enumL h r)⟩⟩
  case tuple l =>
    cases r2 with
    | tup h r => exact ⟨_, _, rfl, .inr ⟨Evl.ex_t S2.fh h, q _ F2 H1 (e1.trans e2) S2 (ir_enumT h r)⟩⟩
theorem i_zip {a b : Expr} {es : List Expr} {ca cb : CE} {k : Nat} {tpos p pos : Pos} (hK : G.K = X.K) (hg : Gl X "zip") (hm : X.mg "zip" = none) (hs : noStar a = true) (hs2 : noStar b = true) (h : Good3 (G := G) (c := c) X W a ca) (h2 : Good3 (G := G) (c := c) X W b cb) : PI X (.Tuple es k tpos) (.Call (.Name "zip" p) [a, b] [] pos) (tI G c W (.zip2 ca cb)) := by
  refine PI.imp (RZ.pi_zipA hg hm (pa_cons h.ex (pa_cons h2.ex pa_nil (star_one hs2)) (star_one hs)) (star_one hs) (plain_one hs2)) fun σ H R ⟨F, nv, S, q⟩ => ?_
  rw [← hK]
  refine ⟨F, nv, S, (Pst.bind (r := ev G.T G.call ca nv) q).mono (Ex.refl F) fun r _ q v F1 H1 e1 S1 vr => ?_⟩
  obtain ⟨F2, e2, S2, r2⟩ := S1.shared vr
  refine ⟨F2, r.2.2, S2, (Pst.bind (r := ev G.T G.call cb r.2.2) q).mono (e1.trans e2) fun r3 _ q u F3 H3 e3 S3 vr3 => ?_⟩
  obtain ⟨F4, e4, S4, r4⟩ := S3.shared vr3
  have r2' := r2.up (e3.trans e4)
  obtain ⟨d, ow, nv1⟩ := r
  obtain ⟨d', ow', nv2⟩ := r3
  have E := ((e1.trans e2).trans e3).trans e4
  cases d <;> first | exact q.elim | skip
  case list l =>
    cases d' <;> first | exact q.elim | skip
    case list m =>
      cases r2' with
      | lst h r =>
        cases r4 with
        | lst h' r' => exact ⟨_, _, _, _, rfl, .inl ⟨.inl (Evl.ex_rd S4.fh h), .inl (Evl.ex_rd S4.fh h'), q _ F4 H3 E S4 (ir_zipL h h' r r')⟩⟩
  case tuple l =>
    cases d' <;> first | exact q.elim | skip
    case tuple m =>
      cases r2' with
      | tup h r =>
        cases r4 with
        | tup h' r' => exact ⟨_, _, _, _, rfl, .inr ⟨Evl.ex_t S4.fh h, Evl.ex_t S4.fh h', q _ F4 H3 E S4 (ir_zipT h h' r r')⟩⟩
theorem i_rev {e : Expr} {ce : CE} {p pos : Pos} (hK : G.K = X.K) (hg : Gl X "reversed") (hm : X.mg "reversed" = none) (hs : noStar e = true) (h : Good3 (G := G) (c := c) X W e ce) : PI X tg (.Call (.Name "reversed" p) [e] [] pos) (tI G c W (.rev ce)) := by
  refine PI.imp (pi_reversed hg hm (pa_cons h.ex pa_nil (star_one hs)) (star_one hs)) fun σ H R ⟨F, nv, S, q⟩ => ?_
  rw [← hK]
  refine ⟨F, nv, S, (Pst.bind (r := ev G.T G.call ce nv) q).mono (Ex.refl F) fun r _ q v F1 H1 e1 S1 vr => ?_⟩
  obtain ⟨F2, e2, S2, r2⟩ := S1.shared vr
  obtain ⟨d, ow, nv1⟩ := r
  cases d <;> first | exact q.elim | skip
  case list l =>
    cases r2 with
    | lst h r => exact ⟨_, _, rfl, .inl (Evl.ex_rd S2.fh h), q _ F2 H1 (e1.trans e2) S2 (ir_rev h r)⟩
theorem RpA.nil_inv {K : PySem.W.Frag} {F : Hp} {vs : List V} (h : RpA K F vs []) : vs = [] := by cases h; rfl
theorem RpA.int_inv {K : PySem.W.Frag} {F : Hp} {vs : List V} {i : Int} {ds : List D} (h : RpA K F vs (.int i :: ds)) : ∃ ws, vs = .int i :: ws ∧ RpA K F ws ds := by
  cases h with
  | cons h r => cases h; exact ⟨_, rfl, r⟩
theorem i_rng1 {a : Expr} {ces : CEs} {p pos : Pos} (hg : Gl X "range") (hm : X.mg "range" = none) (hs : noStar a = true) (hl : ces.len = 1) (h : PA X [a] (tA G c W ces)) : PI X tg (.Call (.Name "range" p) [a] [] pos) (tI G c W (.rng ces)) := by
  refine PI.imp (pi_range1 hg hm h (star_one hs)) fun σ H R ⟨F, nv, S, q⟩ => ?_
  refine ⟨F, nv, S, (Pst.bind (r := evs G.T G.call ces nv) q).mono (Ex.refl F) fun r hr q vs F1 H1 e1 S1 rs => ?_⟩
  have hl2 := (evs_len hr).trans hl
  obtain ⟨ds, n1⟩ := r
  match ds, hl2, q, rs with
  | [d], _, q, rs =>
    cases d <;> first | exact q.elim | skip
    case int j _ =>
      obtain ⟨hb, q⟩ := Pst.if_ (show Pst G c F W (if smallI j = true then .ok (rangeL 0 j, n1) else .no) _ from q)
      obtain ⟨ws, rfl, rs1⟩ := RpA.int_inv rs
      rw [RpA.nil_inv rs1]
      refine ⟨j, rfl, (smallI_62 hb).1, (smallI_62 hb).2, q _ F1 H1 e1 S1 ?_⟩
      have z := ir_range (K := G.K) (F := F1) (a := 0) (b := j)
      rw [Int.sub_zero] at z
      exact z
theorem i_rng2 {a b : Expr} {ces : CEs} {p pos : Pos} (hg : Gl X "range") (hm : X.mg "range" = none) (hs : noStar a = true) (hs2 : noStar b = true) (hl : ces.len = 2) (h : PA X [a, b] (tA G c W ces)) : PI X tg (.Call (.Name "range" p) [a, b] [] pos) (tI G c W (.rng ces)) := by
  refine PI.imp (pi_range2 hg hm h (by rw [star_one hs, star_one hs2]; rfl) (star_one hs2)) fun σ H R ⟨F, nv, S, q⟩ => ?_
  refine ⟨F, nv, S, (Pst.bind (r := evs G.T G.call ces nv) q).mono (Ex.refl F) fun r hr q vs F1 H1 e1 S1 rs => ?_⟩
  have hl2 := (evs_len hr).trans hl
  obtain ⟨ds, n1⟩ := r
  match ds, hl2, q, rs with
  | [d, d'], _, q, rs =>
    cases d <;> first | exact q.elim | skip
    case int i _ =>
      cases d' <;> first | exact q.elim | skip
      case int j _ =>
        obtain ⟨hb, q⟩ := Pst.if_ (show Pst G c F W (if (smallI i && smallI j) = true then .ok (rangeL i j, n1) else .no) _ from q)
        rw [Bool.and_eq_true] at hb
        obtain ⟨ws, rfl, rs1⟩ := RpA.int_inv rs
        obtain ⟨ws, rfl, rs2⟩ := RpA.int_inv rs1
        rw [RpA.nil_inv rs2]
        exact ⟨i, j, rfl, ⟨(smallI_62 hb.1).1, (smallI_62 hb.1).2, (smallI_62 hb.2).1, (smallI_62 hb.2).2⟩, q _ F1 H1 e1 S1 ir_range⟩
theorem i_rng3 {a b d : Expr} {ces : CEs} {p pos : Pos} (hg : Gl X "range") (hm : X.mg "range" = none) (hs : noStar a = true) (hs2 : noStar b = true) (hs3 : noStar d = true) (hl : ces.len = 3) (h : PA X [a, b, d] (tA G c W ces)) : PI X tg (.Call (.Name "range" p) [a, b, d] [] pos) (tI G c W (.rng ces)) := by
  refine PI.imp (pi_range3 hg hm h (star_one hs) (by rw [star_one hs2, star_one hs3]; rfl)) fun σ H R ⟨F, nv, S, q⟩ => ?_
  refine ⟨F, nv, S, (Pst.bind (r := evs G.T G.call ces nv) q).mono (Ex.refl F) fun r hr q vs F1 H1 e1 S1 rs => ?_⟩
  have hl2 := (evs_len hr).trans hl
  obtain ⟨ds, n1⟩ := r
  match ds, hl2, q, rs with
  | [d, d', d3], _, q, rs =>
    cases d <;> first | exact q.elim | skip
    case int i _ =>
      cases d' <;> first | exact q.elim | skip
      case int j _ =>
        cases d3 <;> first | exact q.elim | skip
        case int k _ =>
          obtain ⟨hb, q9⟩ := Pst.if_ (show Pst G c F W (if (smallI i && smallI j && decide (k = -1)) = true then .ok (rangeD i j, n1) else .no) _ from q)
          rw [Bool.and_eq_true, Bool.and_eq_true, decide_eq_true_eq] at hb
          obtain ⟨⟨h1, h2⟩, rfl⟩ := hb
          obtain ⟨ws, rfl, rs1⟩ := RpA.int_inv rs
          obtain ⟨ws, rfl, rs2⟩ := RpA.int_inv rs1
          obtain ⟨ws, rfl, rs3⟩ := RpA.int_inv rs2
          rw [RpA.nil_inv rs3]
          exact ⟨i, j, -1, _, rfl, RgC.neg (smallI_62 h1).1 (smallI_62 h1).2 (smallI_62 h2).1 (smallI_62 h2).2, q9 _ F1 H1 e1 S1 ir_down⟩
end
end SF

/-! The call of a def: what it promises, what the caller may keep. -/
namespace SF
open PySem PySem.Spec PyProof.Rows L2
open Evl (Ex)
structure FOk (P : Program) (w : World) (K : PySem.W.Frag) (mg : Str → Option Value) (base : Heap) (k : Nat) (f : Addr) (fd : FuncData) (ps : List Str) (sp : Sp) : Prop where
  len : ∀ vs H Q E, sp vs H Q E → vs.length = ps.length
  run : ∀ (A : Around) (outer : List Env) (s : Shared) (H : Hp) (args : Args) (us : List Value) (vs : List V) (Q : VK) (E : XK), Room k A → A.guards = some [] → Env0 P w K mg base A outer s H → BindsTo s fd args (ps.zip us) → Vals vs us → sp vs H Q E →
    codeAny (model P w) A (.call (.ref f) args) (CR (L2.CX P w) outer P w H s Q E) s
theorem FOk.mono {P : Program} {w : World} {K : PySem.W.Frag} {mg : Str → Option Value} {base : Heap} {j k : Nat} {f : Addr} {fd : FuncData} {ps : List Str} {sp : Sp} (F : FOk P w K mg base j f fd ps sp) (h : j ≤ k) : FOk P w K mg base k f fd ps sp :=
  ⟨F.len, fun A outer s H args us vs Q E hr => F.run A outer s H args us vs Q E (hr.mono h)⟩
/-- the arguments as they lie: those that are changed stand apart -/
structure ArgsOk (K : PySem.W.Frag) (io : List Nat) (F H : Hp) (vs : List V) (ds : List D) : Prop where
  len : vs.length = ds.length
  plain : ∀ (j : Nat) (v : V) (d : D), vs[j]? = some v → ds[j]? = some d → io.contains j = false → Rp K F v d
  chg : ∀ (j : Nat) (v : V) (d : D), vs[j]? = some v → ds[j]? = some d → io.contains j = true → ∃ a o, v = .ref a ∧ F a = none ∧ H a = some o ∧ HR K F o d
  dis : ∀ (j k : Nat) (a : Addr), io.contains j = true → io.contains k = true → vs[j]? = some (.ref a) → vs[k]? = some (.ref a) → j = k
def ioAddrs (io : List Nat) (vs : List V) : List Addr := io.filterMap fun j => match vs[j]? with
  | some (V.ref a) => some a
  | _ => none
def RetR (K : PySem.W.Frag) (H0 F H : Hp) (v : V) (d : D) : Bool → Prop
  | false => Rp K F v d
  | true => ∃ a o, v = .ref a ∧ F a = none ∧ H a = some o ∧ HR K F o d ∧ H0 a = none
/-- what the changed arguments hold at the end -/
def OutsR (K : PySem.W.Frag) (io : List Nat) (vs : List V) (F H : Hp) (outs : List D) : Prop :=
  ∀ (m j : Nat) (d : D), io[m]? = some j → outs[m]? = some d → ∃ a o, vs[j]? = some (.ref a) ∧ F a = none ∧ H a = some o ∧ HR K F o d
def spF (G : Gd) (f : Nat) : Sp := fun vs H Q E => ∃ fn F ds, G.T[f]? = some fn ∧ Ex F H ∧ vs.length = fn.np ∧ ArgsOk G.K fn.io F H vs ds ∧ match G.call f ds with
  | .ok r => ∀ v F' H', Bs ⟨F, H, ioAddrs fn.io vs, []⟩ F' H' → OutsR G.K fn.io vs F' H' r.outs → RetR G.K H F' H' v r.d r.ow → Q v H'
  | .ex k es => ∀ cls d F' H', Bs ⟨F, H, ioAddrs fn.io vs, []⟩ F' H' → G.exr F' H' k es cls d → E cls d H'
  | .no => False
section
variable {X : Cx} {k : Nat} {f : Addr} {fd : FuncData} {ps : List Str} {sp : Sp} {E : L2.St → XK} {x : Str} {p pos : Pos} {e : Expr} {es : List Expr} {t : TA}
theorem run_FOk {pins : List (Addr × Obj)} {σ : L2.St} {H : Hp} {s : Shared} {Q : VK} {us : List Value} {vs : List V} (F : FOk X.prog X.w X.K X.mg X.base k f fd ps sp) (hr : Room k X.A) (hgu : X.A.guards = some []) (hb : Binds X.K fd ps []) (hx : PassesAt (L2.CX X.prog X.w) X σ (E σ))
    (I : Inv X pins σ H s) (r : Vals vs us) (h : sp vs H Q (E σ)) : wpAny (model X.prog X.w) X.A (call (.ref f) us) (EP X pins σ Q) X.xe s := by
  have hl : us.length = ps.length := by rw [← r.length]; exact F.len _ _ _ _ h
  have b := hb s us I.kIn (by rw [List.append_nil]; exact hl)
  rw [List.append_nil] at b
  refine wpAny_call (codeAny_mono (F.run X.A X.stack s H ⟨us, []⟩ us vs Q (E σ) hr hgu I.env0 b r h) fun r s' hq => ?_)
  rcases r with e | (u | _ | _ | _)
  · exact hx pins H s e s' I hq
  · exact False.elim hq
  · exact False.elim hq
  · exact False.elim hq
  · exact I.after hq
theorem pe_callF (F : FOk X.prog X.w X.K X.mg X.base k f fd ps sp) (hr : Room k X.A) (hgu : X.A.guards = some []) (hg : Gl X x) (hm : X.mg x = some (.ref f)) (hk : PySem.W.keepIn X.K (.ref f) = true) (hb : Binds X.K fd ps []) (hx : ∀ σ, PassesAt (L2.CX X.prog X.w) X σ (E σ))
    (ha : PA X (e :: es) t) (hdb : (x == ("__debug__" : Str)) = false) (he : starEach (e :: es) X.env = (false, eval e X.env) :: starEach es X.env) (hpl : (backTo pos (starEach es X.env)).any (·.1) = false) :
    PE X (.Call (.Name x p) (e :: es) [] pos) (tCallS sp E t) :=
  ⟨fun pins s σ H Q I h => wpAny_Call_Name_kw (ld_glob I hg hm (PySem.W.callWith_K (h₀ := X.base) I.ok.mod.kin hk (thn (ha.run pos pins s σ H _ I h) fun us s1 ⟨vs, H1, I1, r, q⟩ => ⟨I1.kIn, run_FOk F hr hgu hb (hx σ) I1 r q⟩) he hpl) hdb)⟩
end
/-! ### arguments by their places -/
theorem opvs_at {K : PySem.W.Frag} {σ : L2.St} {F : Hp} : ∀ {ces : CEs} {vs : List V} {ds : List D}, OpVs K σ F ces vs ds → vs.length = ces.len ∧ ds.length = ces.len ∧ ∀ (j : Nat) (v : V) (d : D), vs[j]? = some v → ds[j]? = some d → ∃ ce, argAt ces j = some ce ∧ OpV K σ F v d ce
  | .nil, [], [], _ => ⟨rfl, rfl, fun j v d h => by cases h⟩
  | .nil, _ :: _, _, h => h.elim
  | .nil, [], _ :: _, h => h.elim
  | .cons _ _, [], _, h => h.elim
  | .cons _ _, _ :: _, [], h => h.elim
  | .cons e es, v :: vs, d :: ds, h => by
    obtain ⟨l1, l2, q⟩ := opvs_at h.2
    refine ⟨by show vs.length + 1 = es.len + 1; rw [l1], by show ds.length + 1 = es.len + 1; rw [l2], fun j w x hw hx => ?_⟩
    cases j with
    | zero => cases hw; cases hx; exact ⟨e, rfl, h.1⟩
    | succ j => exact q j w x hw hx
theorem fins_at {nv : Nv} : ∀ {ces : CEs} {ds ds' : List D}, fins ces nv ds = .ok ds' → ds'.length = ds.length ∧ ∀ (j : Nat) (d' : D), ds'[j]? = some d' → ∃ ce d, argAt ces j = some ce ∧ ds[j]? = some d ∧ fin ce nv d = .ok d'
  | .nil, [], _, h => by cases h; exact ⟨rfl, fun j d h => by cases h⟩
  | .nil, _ :: _, _, h => by cases h
  | .cons _ _, [], _, h => by cases h
  | .cons e es, d :: ds, ds', h => by
    obtain ⟨x, hx, h⟩ := bind_ok (show (fin e nv d).bind (fun x => (fins es nv ds).bind fun xs => .ok (x :: xs)) = .ok ds' from h)
    obtain ⟨xs, hxs, h⟩ := bind_ok h
    cases h
    obtain ⟨l, q⟩ := fins_at hxs
    refine ⟨by show xs.length + 1 = ds.length + 1; rw [l], fun j d' hd => ?_⟩
    cases j with
    | zero => cases hd; exact ⟨e, d, rfl, rfl, hx⟩
    | succ j => exact q j d' hd
theorem noex_fin (e : CE) (nv : Nv) (d : D) : NoEx (fin e nv d) := by
  unfold fin
  split
  · exact NoEx.of _
  · exact NoEx.ok _
theorem noex_fins (nv : Nv) : ∀ (ces : CEs) (ds : List D), NoEx (fins ces nv ds)
  | .nil, [] => NoEx.ok _
  | .nil, _ :: _ => NoEx.no
  | .cons _ _, [] => NoEx.no
  | .cons e es, d :: ds => (noex_fin e nv d).bind fun _ => (noex_fins nv es ds).bind fun _ => NoEx.ok _
theorem holdsAt_some {nv : Nv} {i : Nat} (h : holdsAt nv i = true) : ∃ s, nv[i]? = some s ∧ s.holds = true := by
  unfold holdsAt at h
  cases e : nv[i]? with
  | none => rw [e] at h; cases h
  | some s => rw [e] at h; exact ⟨s, rfl, h⟩
theorem ownAt_some {nv : Nv} {i : Nat} (h : ownAt nv i = true) : ∃ d, nv[i]? = some (.own d) := by
  unfold ownAt at h
  cases e : nv[i]? with
  | none => rw [e] at h; cases h
  | some s =>
    rw [e] at h
    cases s <;> first | (cases h; done) | exact ⟨_, rfl⟩
theorem mem_lent {io : List Nat} {nv : Nv} {es : CEs} {i : Nat} : i ∈ lent io nv es ↔ ∃ j, j < es.len ∧ io.contains j = false ∧ nameAt es j = some i ∧ holdsAt nv i = true := by
  unfold lent
  rw [List.mem_filterMap]
  refine ⟨fun ⟨j, h1, h2⟩ => ?_, fun ⟨j, h1, h2, h3, h4⟩ => ⟨j, List.mem_range.mpr h1, ?_⟩⟩
  · cases hc : io.contains j with
    | true => rw [hc] at h2; cases h2
    | false =>
      rw [hc] at h2
      obtain ⟨i', e1, e2⟩ := Option.bind_eq_some_iff.mp (show ((nameAt es j).bind fun i => if holdsAt nv i = true then some i else none) = some i from h2)
      cases hh : holdsAt nv i' with
      | false => rw [hh] at e2; cases e2
      | true => rw [hh] at e2; cases e2; exact ⟨j, List.mem_range.mp h1, hc, e1, hh⟩
  · rw [h2, h3]
    show (if holdsAt nv i = true then some i else none) = some i
    rw [if_pos h4]
theorem argAt_lt : ∀ {es : CEs} {j : Nat} {ce : CE}, argAt es j = some ce → j < es.len
  | .cons _ _, 0, _, _ => Nat.succ_pos _
  | .cons _ _, j + 1, _, h => Nat.succ_lt_succ (argAt_lt (show argAt _ j = some _ from h))
theorem share_len : ∀ {l : List Nat} {nv : Nv}, (share l nv).length = nv.length
  | [], _ => rfl
  | i :: l, nv => by
    unfold share
    split
    · rw [List.length_set, share_len]
    · exact share_len
/-- what sharing leaves -/
theorem share_get {nv : Nv} : ∀ {l : List Nat} {j : Nat} {s : Slot}, (share l nv)[j]? = some s → nv[j]? = some s ∧ (j ∈ l → s.own? = false) ∨ ∃ d, j ∈ l ∧ nv[j]? = some (.own d) ∧ s = .val d
  | [], j, s, h => .inl ⟨h, fun z => by cases z⟩
  | i :: l, j, s, h => by
    unfold share at h
    split at h
    · rename_i d hd
      by_cases z : i = j
      · subst z
        rw [List.getElem?_set] at h
        simp only [if_true] at h
        split at h
        · cases h
          rcases share_get hd with ⟨q, _⟩ | ⟨d', _, q, z⟩
          · exact .inr ⟨d, List.mem_cons_self, q, rfl⟩
          · cases z
        · cases h
      · rw [List.getElem?_set_ne z] at h
        rcases share_get h with ⟨q, r⟩ | ⟨d', m, q, z'⟩
        · refine .inl ⟨q, fun m => ?_⟩
          rcases List.mem_cons.mp m with m | m
          · exact absurd m.symm z
          · exact r m
        · exact .inr ⟨d', List.mem_cons_of_mem _ m, q, z'⟩
    · rename_i hn
      rcases share_get h with ⟨q, r⟩ | ⟨d', m, q, z'⟩
      · refine .inl ⟨q, fun m => ?_⟩
        rcases List.mem_cons.mp m with m | m
        · subst m
          cases s <;> first | rfl | exact absurd h (hn _)
        · exact r m
      · exact .inr ⟨d', List.mem_cons_of_mem _ m, q, z'⟩
theorem handOut_len : ∀ {l : List (Nat × D)} {nv nv' : Nv}, handOut l nv = .ok nv' → nv'.length = nv.length
  | [], _, _, h => by cases h; rfl
  | (i, d) :: l, nv, nv', h => by
    unfold handOut at h
    split at h
    · rw [handOut_len h, List.length_set]
    · rw [handOut_len h, List.length_set]
    · cases h
theorem handOut_out : ∀ {l : List (Nat × D)} {nv nv' : Nv} {j : Nat}, handOut l nv = .ok nv' → j ∉ l.map (·.1) → nv'[j]? = nv[j]?
  | [], _, _, _, h, _ => by cases h; rfl
  | (i, d) :: l, nv, nv', j, h, n => by
    have n1 : i ≠ j := fun z => n (by rw [z]; exact List.mem_cons_self)
    have n2 : j ∉ l.map (·.1) := fun z => n (List.mem_cons_of_mem _ z)
    unfold handOut at h
    split at h
    · rw [handOut_out h n2, List.getElem?_set_ne n1]
    · rw [handOut_out h n2, List.getElem?_set_ne n1]
    · cases h
theorem handOut_in : ∀ {l : List (Nat × D)} {nv nv' : Nv} {m j : Nat} {d : D}, handOut l nv = .ok nv' → (l.map (·.1)).Nodup → l[m]? = some (j, d) → (∃ x, nv[j]? = some (.own x) ∧ nv'[j]? = some (.own d)) ∨ (∃ x, nv[j]? = some (.io x) ∧ nv'[j]? = some (.io d))
  | [], _, _, _, _, _, _, _, h => by cases h
  | (i, d0) :: l, nv, nv', m, j, d, h, nd, hm => by
    have nd' := List.nodup_cons.mp (show (i :: l.map (·.1)).Nodup from nd)
    cases m with
    | zero =>
      cases hm
      have hl : ∀ {s : Slot}, nv[i]? = some s → i < nv.length := fun e => (List.getElem?_eq_some_iff.mp e).1
      unfold handOut at h
      split at h
      · rename_i x e
        exact .inl ⟨_, e, by rw [handOut_out h nd'.1, List.getElem?_set_self (hl e)]⟩
      · rename_i x e
        exact .inr ⟨_, e, by rw [handOut_out h nd'.1, List.getElem?_set_self (hl e)]⟩
      · cases h
    | succ m =>
      have hm' : l[m]? = some (j, d) := hm
      have n1 : i ≠ j := fun z => nd'.1 (List.mem_map.mpr ⟨(j, d), List.mem_of_getElem? hm', z.symm⟩)
      unfold handOut at h
      split at h
      · have z := handOut_in h nd'.2 hm'
        rw [List.getElem?_set_ne n1] at z
        exact z
      · have z := handOut_in h nd'.2 hm'
        rw [List.getElem?_set_ne n1] at z
        exact z
      · cases h
end SF

/-! The caller's side of a call. -/
namespace SF
open PySem PySem.Spec PyProof.Rows L2
open Evl (Ex)
theorem RpK.still {K : PySem.W.Frag} {F F' : Hp} (t : ∀ a xs, SqT K F a xs → SqT K F' a xs) : ∀ (ds : List (D × D)) (kvs : List (Key × V)), (ds.all fun p => SF.still p.2) = true → RpK K F kvs ds → RpK K F' kvs ds
  | [], _, _, .nil => .nil
  | (_, d) :: ds, _, c, .cons h r => by
    rw [List.all_cons, Bool.and_eq_true] at c
    exact .cons (Rp.still t _ _ c.1 h) (RpK.still t ds _ c.2 r)
theorem HR.still {K : PySem.W.Frag} {F F' : Hp} {o : HO} {d : D} (t : ∀ a xs, SqT K F a xs → SqT K F' a xs) (c : stillIn d = true) (h : HR K F o d) : HR K F' o d := by
  cases h with
  | lst r => exact .lst (RpA.still t _ _ c r)
  | dic r => exact .dic (RpK.still t _ _ c r)
def isTupHO : HO → Bool
  | .tup _ => true
  | .frz _ (.tup _) => true
  | _ => false
/-- of F' only the tuples, beside F -/
def tupsOf (F F' : Hp) : Hp := fun a => match F a with
  | some o => some o
  | none => match F' a with
    | some o => if isTupHO o then some o else none
    | none => none
theorem HR.notTup {K : PySem.W.Frag} {F : Hp} {o : HO} {d : D} (h : HR K F o d) : isTupHO o = false := by cases h <;> rfl
section
variable {G : Gd} {c : EC} {X : Cx} {W : WX}
/-- no def runs with a wrong number of arguments -/
def CallNp (G : Gd) : Prop := ∀ f fn ds, G.T[f]? = some fn → ds.length ≠ fn.np → G.call f ds = .no
theorem peek_slot {nv : Nv} {i : Nat} {d : D} (h : peek nv i = .ok d) : ∃ s, nv[i]? = some s ∧ s.d = some d := by
  unfold peek at h
  cases e : nv[i]? with
  | none => rw [e] at h; cases h
  | some s =>
    rw [e] at h
    cases z : s.d with
    | none => rw [show (some s).bind Slot.d = s.d from rfl, z] at h; cases h
    | some x => rw [show (some s).bind Slot.d = s.d from rfl, z] at h; cases h; exact ⟨s, rfl, z⟩
theorem nameAt_some {es : CEs} {j i : Nat} (h : nameAt es j = some i) : argAt es j = some (.v i) := by
  unfold nameAt at h
  split at h
  · rename_i i' e
    cases h
    exact e
  · cases h
open Classical in
theorem call_t {f : Nat} {ces : CEs} {σ : L2.St} {H : Hp} {Q : VK} (np : CallNp G) (q : tE G c W (.call f ces) σ H Q) : tAs G c W ces σ H fun vs H1 => spF G f vs H1 Q (WE W σ) := by
  obtain ⟨F, nv0, S, q⟩ := q
  refine ⟨F, nv0, S, (Pst.bind (r := evAs G.T G.call ces nv0) q).mono (Ex.refl F) fun r _ q vs F1 H1 e1 S1 ov => ?_⟩
  obtain ⟨ds0, nv⟩ := r
  obtain ⟨ds, hds, q⟩ := Pst.nx (noex_fins _ _ _) q
  obtain ⟨fn, hfn, q⟩ := Pst.of q
  obtain ⟨hok, q⟩ := Pst.if_ q
  obtain ⟨l1, l2, oat⟩ := opvs_at ov
  obtain ⟨l3, fat⟩ := fins_at hds
  unfold callOk at hok
  rw [Bool.and_eq_true, Bool.and_eq_true, Bool.and_eq_true, List.all_eq_true, List.all_eq_true, List.all_eq_true, decide_eq_true_eq] at hok
  obtain ⟨⟨⟨hio, hown⟩, hnd⟩, hdis⟩ := hok
  -- the names at the changing places
  have ion : ∀ j, j ∈ fn.io → ∃ i, nameAt ces j = some i ∧ holdsAt nv i = true ∧ i ∉ lent fn.io nv ces := fun j hj => by
    have z := hio j hj
    cases e : nameAt ces j with
    | none => rw [e] at z; cases z
    | some i =>
      rw [e] at z
      have z' : (holdsAt nv i && !(lent fn.io nv ces).contains i) = true := z
      rw [Bool.and_eq_true, Bool.not_eq_true'] at z'
      exact ⟨i, rfl, z'.1, fun m => by rw [List.contains_iff_mem.mpr m] at z'; exact absurd z'.2 (by decide)⟩
  have ndn : ∀ j k, j ∈ fn.io → k ∈ fn.io → nameAt ces j = nameAt ces k → j = k := fun j k hj hk e => by
    have z := List.all_eq_true.mp (hdis j hj) k hk
    rw [e] at z
    simpa using z
  -- what a changing place holds
  have held_io : ∀ j i v, nameAt ces j = some i → holdsAt nv i = true → vs[j]? = some v → ∃ a, v = .ref a ∧ Held nv σ i a := fun j i v hn hh hv => by
    obtain ⟨s, e, hs⟩ := holdsAt_some hh
    obtain ⟨a, o, d, x1, x2, x3, x4, x5, x6⟩ := (S1.slot i s e).obj hs
    have hj : j < ds0.length := by rw [l2]; exact argAt_lt (nameAt_some hn)
    obtain ⟨ce, hce, hop⟩ := oat j v ds0[j] hv (List.getElem?_eq_getElem hj)
    rw [nameAt_some hn] at hce
    cases hce
    have : σ[i]? = some (some v) := hop
    rw [x1] at this
    cases this
    exact ⟨a, rfl, ⟨s, e, hs⟩, x1⟩
  -- what is lent
  obtain ⟨La, hLa⟩ : ∃ La : Addr → Prop, ∀ a, La a ↔ ∃ i ∈ lent fn.io nv ces, Held nv σ i a := ⟨_, fun _ => Iff.rfl⟩
  have la : ∀ a, La a → F1 a = none ∧ (∃ o x, H1 a = some o ∧ HR G.K F1 o x) ∧ c.H0 a = none := fun a h => by
    obtain ⟨i, hi, hh⟩ := (hLa a).mp h
    obtain ⟨d, hd⟩ := ownAt_some (hown i hi)
    obtain ⟨b, o, x1, x2, x3, x4, x5⟩ := S1.slot i _ hd
    rw [hh.2] at x1
    cases x1
    exact ⟨x2, ⟨o, d, x3, x4⟩, x5⟩
  obtain ⟨FL, hFL⟩ : ∃ FL : Hp, ∀ a, FL a = if La a then H1 a else F1 a := ⟨fun a => if La a then H1 a else F1 a, fun _ => rfl⟩
  have exL : Ex F1 FL := fun a o e => by
    rw [hFL, if_neg fun h => by rw [(la a h).1] at e; cases e]
    exact e
  have fhL : Ex FL H1 := fun a o e => by
    rw [hFL] at e
    by_cases z : La a
    · rw [if_pos z] at e; exact e
    · rw [if_neg z] at e; exact S1.fh a o e
  have notLa : ∀ i a, Held nv σ i a → i ∉ lent fn.io nv ces → ¬ La a := fun i a h n z => by
    obtain ⟨i', hi', h'⟩ := (hLa a).mp z
    exact n (by rw [S1.dis i i' a h h']; exact hi')
  have args : ArgsOk G.K fn.io FL H1 vs ds := by
    refine ⟨by rw [l1, l3, l2], fun j v d hv hd hc => ?_, fun j v d hv hd hc => ?_, fun j k a hj hk hv hw => ?_⟩
    · obtain ⟨ce, d0, hce, hd0, hf⟩ := fat j d hd
      obtain ⟨ce', hce', hop⟩ := oat j v d0 hv hd0
      rw [hce] at hce'
      cases hce'
      cases ce <;> first | (cases hf; exact Rp.up (F := F1) hop exL) | skip
      case v i =>
        have hn : nameAt ces j = some i := by unfold nameAt; rw [hce]
        obtain ⟨s, hs, hsd⟩ := peek_slot (show peek nv i = .ok d from hf)
        have sl := S1.slot i s hs
        have hop : σ[i]? = some (some v) := hop
        cases s with
        | emp => cases hsd
        | val x =>
          cases hsd
          obtain ⟨w, x1, x2⟩ := sl
          rw [hop] at x1
          cases x1
          exact x2.up exL
        | own x =>
          cases hsd
          obtain ⟨a, o, x1, x2, x3, x4, x5⟩ := sl
          rw [hop] at x1
          cases x1
          have hh : Held nv σ i a := ⟨⟨_, hs, rfl⟩, hop⟩
          have hl : La a := (hLa a).mpr ⟨i, mem_lent.mpr ⟨j, argAt_lt hce, hc, hn, by unfold holdsAt; rw [hs]; rfl⟩, hh⟩
          exact (x4.up exL).rp (by rw [hFL, if_pos hl]; exact x3)
        | io x =>
          have hl : i ∈ lent fn.io nv ces := mem_lent.mpr ⟨j, argAt_lt hce, hc, hn, by unfold holdsAt; rw [hs]; rfl⟩
          obtain ⟨y, hy⟩ := ownAt_some (hown i hl)
          rw [hs] at hy
          cases hy
    · obtain ⟨i, hn, hh, hnl⟩ := ion j (List.contains_iff_mem.mp hc)
      obtain ⟨a, rfl, hheld⟩ := held_io j i v hn hh hv
      obtain ⟨s, hs, hsh⟩ := hheld.1
      obtain ⟨b, o, x, x1, x2, x3, x4, x5, x6⟩ := (S1.slot i s hs).obj hsh
      rw [hheld.2] at x1
      cases x1
      obtain ⟨ce, d0, hce, hd0, hf⟩ := fat j d hd
      rw [nameAt_some hn] at hce
      cases hce
      obtain ⟨s', hs', hsd⟩ := peek_slot (show peek nv i = .ok d from hf)
      rw [hs] at hs'
      cases hs'
      rw [x5] at hsd
      cases hsd
      exact ⟨a, o, rfl, by rw [hFL, if_neg (notLa i a hheld hnl)]; exact x2, x3, x4.up exL⟩
    · obtain ⟨i, hn, hh, _⟩ := ion j (List.contains_iff_mem.mp hj)
      obtain ⟨i', hn', hh', _⟩ := ion k (List.contains_iff_mem.mp hk)
      obtain ⟨_, e, g⟩ := held_io j i _ hn hh hv
      obtain ⟨_, e', g'⟩ := held_io k i' _ hn' hh' hw
      cases e
      cases e'
      have := S1.dis i i' a g g'
      subst this
      exact ndn j k (List.contains_iff_mem.mp hj) (List.contains_iff_mem.mp hk) (hn.trans hn'.symm)
  have lenA : G.call f ds = .no ∨ vs.length = fn.np := by
    by_cases z : ds.length = fn.np
    · exact .inr (by rw [args.len]; exact z)
    · exact .inl (np f fn ds hfn z)
  have ioA : ∀ a, a ∈ ioAddrs fn.io vs → ∃ j i, j ∈ fn.io ∧ nameAt ces j = some i ∧ vs[j]? = some (.ref a) ∧ Held nv σ i a := fun a h => by
    obtain ⟨j, hj, e⟩ := List.mem_filterMap.mp h
    obtain ⟨i, hn, hh, _⟩ := ion j hj
    cases hv : vs[j]? with
    | none => rw [hv] at e; cases e
    | some v =>
      obtain ⟨b, rfl, g⟩ := held_io j i v hn hh hv
      rw [hv] at e
      cases e
      exact ⟨j, i, hj, hn, hv, g⟩
  have bs : ∀ {F' H' : Hp}, Bs ⟨FL, H1, ioAddrs fn.io vs, []⟩ F' H' → Bs c F' H' := fun {F' H'} B => by
    refine ⟨B.fh, S1.f0.trans (exL.trans B.f0), fun a o e => ?_, fun a o e n => ?_, fun a e => S1.there a (B.there a e)⟩
    · rcases B.new a o e with z | z
      · have z : FL a = some o := z
        rw [hFL] at z
        by_cases y : La a
        · exact .inr (la a y).2.2
        · rw [if_neg y] at z
          exact S1.new a o z
      · exact .inr (S1.there a z)
    · refine B.keep a o (S1.keep a o e n) fun m => ?_
      obtain ⟨j, i, _, _, _, g⟩ := ioA a m
      obtain ⟨_, _, _, _, _, z | z⟩ := S1.held g
      · rw [z] at e; cases e
      · exact n z
  refine ⟨fn, FL, ds, hfn, fhL, ?_, args, ?_⟩
  · rcases lenA with z | z
    · rw [z] at q; exact q.elim
    · exact z
  cases hcall : G.call f ds with
  | no => rw [hcall] at q; exact q.elim
  | ex k es =>
    rw [hcall] at q
    exact fun cls d F' H' B x => q cls d σ F' H' (e1.trans (exL.trans B.f0)) (bs B) x
  | ok r =>
    rw [hcall] at q
    intro v F' H' B outs ret
    obtain ⟨hlen, q⟩ := Pst.if_ (show Pst G c F W (if r.outs.length = fn.io.length then _ else .no) _ from q)
    have b0 := bs B
    have E1 : Ex F1 F' := exL.trans B.f0
    generalize hst : (still r.d && r.outs.all stillIn) = st at q
    generalize hnv1 : (if st = true then nv else share (lent fn.io nv ces) nv) = nv1 at q
    generalize hl : ((fn.io.map fun j => (nameAt ces j).getD 0).zip r.outs) = l at q
    obtain ⟨nv2, hho, q⟩ : ∃ nv2, handOut l nv1 = .ok nv2 ∧ Pst G c F W (.ok (r.d, r.ow, nv2) : R (D × Bool × Nv)) _ := by
      cases z : handOut l nv1 with
      | ok n => rw [z] at q; exact ⟨n, rfl, q⟩
      | no => rw [z] at q; exact q.elim
      | ex j es =>
        exfalso
        have : ∀ {l : List (Nat × D)} {nv : Nv}, NoEx (handOut l nv) := by
          intro l
          induction l with
          | nil => intro nv; exact NoEx.ok _
          | cons p l ih =>
            intro nv
            obtain ⟨i, d⟩ := p
            unfold handOut
            split
            · exact ih
            · exact ih
            · exact NoEx.no
        exact this j es z
    have q : ∀ v F'' H', Ex F F'' → Sat G.K c F'' H' σ nv2 → VR G.K c F'' H' σ nv2 v r.d r.ow → Q v H' := q
    -- what of F' stays shared
    obtain ⟨F2, hF2⟩ : ∃ F2 : Hp, F2 = if st = true then tupsOf F1 F' else F' := ⟨_, rfl⟩
    have p1 : Ex F1 F2 := fun a o e => by
      rw [hF2]
      cases st
      · exact E1 a o e
      · show tupsOf F1 F' a = some o
        unfold tupsOf
        rw [e]
    have p2 : Ex F2 F' := fun a o e => by
      rw [hF2] at e
      cases st
      · exact e
      · have e : tupsOf F1 F' a = some o := e
        unfold tupsOf at e
        cases z : F1 a with
        | some u => rw [z] at e; cases e; exact E1 a o z
        | none =>
          rw [z] at e
          cases y : F' a with
          | none => rw [y] at e; cases e
          | some u =>
            rw [y] at e
            have e : (if isTupHO u = true then some u else none) = some o := e
            split at e
            · exact e
            · cases e
    have p3 : ∀ a o, F2 a = some o → F1 a = some o ∨ H1 a = none ∨ (st = false ∧ La a) := fun a o e => by
      have e' := p2 a o e
      rcases B.new a o e' with z | z
      · have z : FL a = some o := z
        rw [hFL] at z
        by_cases y : La a
        · rw [if_pos y] at z
          cases st
          · exact .inr (.inr ⟨rfl, y⟩)
          · exfalso
            rw [hF2] at e
            have e : tupsOf F1 F' a = some o := e
            unfold tupsOf at e
            obtain ⟨f1, ⟨o', x, g1, g2⟩, _⟩ := la a y
            rw [f1, e'] at e
            have e : (if isTupHO o = true then some o else none) = some o := e
            rw [z] at g1
            cases g1
            rw [g2.notTup] at e
            cases e
        · rw [if_neg y] at z
          exact .inl z
      · exact .inr (.inl z)
    have tupF : st = true → ∀ a xs, SqT G.K F' a xs → SqT G.K F2 a xs := fun hs a xs h => by
      rw [hF2, if_pos hs]
      have go : ∀ o, F' a = some o → isTupHO o = true → tupsOf F1 F' a = some o := fun o e1 e2 => by
        unfold tupsOf
        cases z : F1 a with
        | some u =>
          have := E1 a u z
          rw [e1] at this
          cases this
          rfl
        | none =>
          rw [e1]
          show (if isTupHO o = true then some o else none) = some o
          rw [if_pos e2]
      rcases h with (h | ⟨o, h⟩) | h
      · exact .inl (.inl (go _ h rfl))
      · exact .inl (.inr ⟨o, go _ h rfl⟩)
      · exact .inr h
    have stl : st = true → still r.d = true ∧ ∀ d ∈ r.outs, stillIn d = true := fun hs => by
      rw [hs, Bool.and_eq_true, List.all_eq_true] at hst
      exact hst
    -- the names
    have lfst : l.map (·.1) = fn.io.map fun j => (nameAt ces j).getD 0 := by
      rw [← hl, List.map_fst_zip (by rw [List.length_map, hlen]; exact Nat.le_refl _)]
    have lnd : (l.map (·.1)).Nodup := by
      rw [lfst]
      refine List.Pairwise.map _ (R := fun j k => j ≠ k ∧ j ∈ fn.io ∧ k ∈ fn.io) (fun j k h e => ?_) ?_
      · obtain ⟨i, hi, _⟩ := ion j h.2.1
        obtain ⟨i', hi', _⟩ := ion k h.2.2
        rw [hi, hi'] at e
        have e : i = i' := e
        exact h.1 (ndn j k h.2.1 h.2.2 (by rw [hi, hi', e]))
      · exact List.Pairwise.imp_of_mem (R := (· ≠ ·)) (fun ha hb h => ⟨h, ha, hb⟩) hnd
    have lmem : ∀ j, j ∈ l.map (·.1) → ∃ m d jj, l[m]? = some (j, d) ∧ fn.io[m]? = some jj ∧ r.outs[m]? = some d ∧ nameAt ces jj = some j := fun j hj => by
      obtain ⟨p, hp, rfl⟩ := List.mem_map.mp hj
      obtain ⟨m, hm⟩ := List.getElem?_of_mem hp
      have hz := hm
      rw [← hl, List.getElem?_zip_eq_some] at hz
      rw [List.getElem?_map] at hz
      obtain ⟨jj, h1, h2⟩ := Option.map_eq_some_iff.mp hz.1
      obtain ⟨i, hi, _⟩ := ion jj (List.mem_of_getElem? h1)
      rw [hi] at h2
      exact ⟨m, p.2, jj, hm, h1, hz.2, by rw [hi, ← h2]; rfl⟩
    have nv1len : nv1.length = nv.length := by
      rw [← hnv1]
      split
      · rfl
      · exact share_len
    have nv1get : ∀ (j : Nat) (s : Slot), nv1[j]? = some s → (nv[j]? = some s ∧ (st = false → j ∈ lent fn.io nv ces → s.own? = false)) ∨ ∃ d, st = false ∧ j ∈ lent fn.io nv ces ∧ nv[j]? = some (.own d) ∧ s = .val d := fun j s e => by
      rw [← hnv1] at e
      cases st
      · rcases share_get e with ⟨h1, h2⟩ | ⟨d, h1, h2, h3⟩
        · exact .inl ⟨h1, fun _ => h2⟩
        · exact .inr ⟨d, rfl, h1, h2, h3⟩
      · exact .inl ⟨e, fun z => by cases z⟩
    have nv1hold : ∀ (j : Nat) (s : Slot), nv1[j]? = some s → s.holds = true → nv[j]? = some s := fun j s e hs => by
      rcases nv1get j s e with ⟨h, _⟩ | ⟨d, _, _, _, rfl⟩
      · exact h
      · cases hs
    have held2 : ∀ j a, Held nv2 σ j a → Held nv σ j a := fun j a ⟨⟨s, h1, h2⟩, h3⟩ => by
      by_cases m : j ∈ l.map (·.1)
      · obtain ⟨m', d, jj, g1, g2, g3, g4⟩ := lmem j m
        rcases handOut_in hho lnd g1 with ⟨x, y1, y2⟩ | ⟨x, y1, y2⟩
        · exact ⟨⟨_, nv1hold _ _ y1 rfl, rfl⟩, h3⟩
        · exact ⟨⟨_, nv1hold _ _ y1 rfl, rfl⟩, h3⟩
      · rw [handOut_out hho m] at h1
        exact ⟨⟨s, nv1hold j s h1 h2, h2⟩, h3⟩
    have keepNA : ∀ a o, H1 a = some o → (∀ i, Held nv σ i a → i ∉ l.map (·.1)) → H' a = some o := fun a o e n => by
      refine B.keep a o e fun m => ?_
      obtain ⟨j, i, hj, hn, _, g⟩ := ioA a m
      refine n i g ?_
      rw [lfst]
      exact List.mem_map.mpr ⟨j, hj, by rw [hn]; rfl⟩
    have S2 : Sat G.K c F2 H' σ nv2 := by
      refine ⟨⟨p2.trans B.fh, S1.f0.trans p1, fun a o e => b0.new a o (p2 a o e), b0.keep, b0.there⟩, ?_, fun j s e => ?_, fun i j a h1 h2 => S1.dis i j a (held2 i a h1) (held2 j a h2), fun p hp => ?_⟩
      · rw [handOut_len hho, nv1len]
        exact S1.len
      · by_cases m : j ∈ l.map (·.1)
        · obtain ⟨m', d, jj, g1, g2, g3, g4⟩ := lmem j m
          obtain ⟨a', o, o1, o2, o3, o4⟩ := outs m' jj d g2 g3
          have o4' : HR G.K F2 o d := by
            cases hs : st with
            | true => exact o4.still (tupF hs) ((stl hs).2 d (List.mem_of_getElem? g3))
            | false => rw [hF2, hs]; exact o4
          have f2 : F2 a' = none := by
            cases z : F2 a' with
            | none => rfl
            | some u => rw [p2 a' u z] at o2; cases o2
          rcases handOut_in hho lnd g1 with ⟨x, y1, y2⟩ | ⟨x, y1, y2⟩
          · rw [y2] at e
            cases e
            have y3 := nv1hold _ _ y1 rfl
            obtain ⟨a, h, x1, x2, x3, x4, x5⟩ := S1.slot j _ y3
            obtain ⟨b, eb, gb⟩ := held_io jj j _ g4 (by unfold holdsAt; rw [y3]; rfl) o1
            cases eb
            have : σ[j]? = some (some (.ref a')) := gb.2
            rw [x1] at this
            cases this
            exact ⟨a', o, x1, f2, o3, o4', x5⟩
          · rw [y2] at e
            cases e
            have y3 := nv1hold _ _ y1 rfl
            obtain ⟨a, h, x1, x2, x3, x4, x5⟩ := S1.slot j _ y3
            obtain ⟨b, eb, gb⟩ := held_io jj j _ g4 (by unfold holdsAt; rw [y3]; rfl) o1
            cases eb
            have : σ[j]? = some (some (.ref a')) := gb.2
            rw [x1] at this
            cases this
            exact ⟨a', o, x1, f2, o3, o4', x5⟩
        · rw [handOut_out hho m] at e
          rcases nv1get j s e with ⟨h, hno⟩ | ⟨d, hs, hj, hd, rfl⟩
          · have sl := S1.slot j s h
            refine sl.mono p1 fun a u f1 h1 x hh => ?_
            have hheld : Held nv σ j a := ⟨⟨s, h, hh⟩, x⟩
            refine ⟨?_, keepNA a u h1 fun i hi => by rw [S1.dis i j a hi hheld]; exact m⟩
            cases z : F2 a with
            | none => rfl
            | some o =>
              rcases p3 a o z with y | y | ⟨y1, y2⟩
              · rw [f1] at y; cases y
              · rw [h1] at y; cases y
              · obtain ⟨i', hi', h'⟩ := (hLa a).mp y2
                have ej := S1.dis i' j a h' hheld
                subst ej
                obtain ⟨d, hd⟩ := ownAt_some (hown i' hi')
                rw [h] at hd
                cases hd
                have := hno y1 hi'
                cases this
          · obtain ⟨a, h, x1, x2, x3, x4, x5⟩ := S1.slot j _ hd
            have hla : La a := (hLa a).mpr ⟨j, hj, ⟨_, hd, rfl⟩, x1⟩
            have e2 : F2 = F' := by rw [hF2, hs]; rfl
            rw [e2]
            exact ⟨.ref a, x1, (x4.up E1).rp (B.f0 a h (by show FL a = some h; rw [hFL, if_pos hla]; exact x3))⟩
      · obtain ⟨r1, r2, r3, r4⟩ := S1.res p hp
        refine ⟨?_, keepNA _ _ r2 fun i hi => absurd hi (r4 i), r3, fun i hi => r4 i (held2 i _ hi)⟩
        cases z : F2 p.1 with
        | none => rfl
        | some o =>
          rcases p3 _ o z with y | y | ⟨_, y⟩
          · rw [r1] at y; cases y
          · rw [r2] at y; cases y
          · obtain ⟨i', _, h'⟩ := (hLa _).mp y
            exact absurd h' (r4 i')
    refine q v F2 H' (e1.trans p1) S2 ?_
    cases how : r.ow with
    | false =>
      rw [how] at ret
      have ret : Rp G.K F' v r.d := ret
      show Rp G.K F2 v r.d
      cases hs : st with
      | true => exact Rp.still (tupF hs) _ _ (stl hs).1 ret
      | false => rw [hF2, hs]; exact ret
    | true =>
      rw [how] at ret
      obtain ⟨a, o, rfl, f1, h1, hr, n1⟩ := ret
      have hs : st = false := by
        cases hs : st with
        | false => rfl
        | true =>
          have := (stl hs).1
          have no : ∀ d, HR G.K F' o d → still d = true → False := fun d h z => by
            cases h <;> cases z
          exact (no _ hr this).elim
      have e2 : F2 = F' := by rw [hF2, hs]; rfl
      refine ⟨a, o, rfl, by rw [e2]; exact f1, h1, by rw [e2]; exact hr, S1.there a n1, fun i hi => ?_, fun p hp => ne_of_none (S1.res p hp).2.1 n1⟩
      obtain ⟨_, u, _, g, _⟩ := S1.held (held2 i a hi)
      rw [n1] at g
      cases g
end
end SF

/-! The main induction: expressions. -/
namespace SF
open PySem PySem.Spec PyProof.Rows L2
open Evl (Ex)
def bltNames : List Str := (["len", "abs", "int", "str", "repr", "all", "any", "sum", "min", "max", "tuple", "list", "isinstance", "bool", "range", "enumerate", "zip", "reversed"] : List String).map Str.ofString
structure Cok (G : Gd) (cc : CC) (X : Cx) (st : Nat → Bool) : Prop where
  hK : G.K = X.K
  calm : X.calm = true
  nd : X.N.Nodup
  hN : X.N = cc.N
  hsc : X.env.scope = cc.sc
  un : X.A.units + 100 < cLine
  gd : X.A.guards = some []
  kind : X.env.scope.kind = .function
  blt : ∀ x, bltNames.contains x = true → (!cc.fns.contains x && !cc.exs.contains x && !(cc.con.map (·.1)).contains x) = true → X.mg x = none
  con : ∀ x d, cc.con.lookup x = some d → ∃ v u, X.mg x = some u ∧ RelV v u ∧ ∀ F, Rp G.K F v d
  fns : ∀ x f, idxOf? x cc.fns = some f → ∃ k a fd ps, FOk X.prog X.w X.K X.mg X.base k a fd ps (spF G f) ∧ Room k X.A ∧ X.mg x = some (.ref a) ∧ PySem.W.keepIn X.K (.ref a) = true ∧ Binds X.K fd ps []
  np : CallNp G
  fnok : ∀ x i, cc.loc x = some i → st i = true → X.fn x = true ∨ X.env.scope.names.lookup x = some .local
def okE : Expr → Bool
  | .Starred _ _ => false
  | .Set _ _ _ => false
  | .Slice _ _ _ _ => false
  | _ => true
theorem okForm {n : Nat} {cc : CC} {e : Expr} {ce : CE} (h : cE n cc e = some ce) : okE e = true := by
  cases n with
  | zero => cases h
  | succ n => cases e <;> first | rfl | (cases h; done)
theorem okE.star {e : Expr} (h : okE e = true) : noStar e = true := by cases e <;> first | rfl | (cases h; done)
theorem okE.mark {e : Expr} (h : okE e = true) (op : CmpOp) : behindInMarks op e = false := by cases e <;> first | rfl | (cases h; done)
theorem okE.ix {e : Expr} (h : okE e = true) : PlainIx e := by
  intro o i
  cases e <;> first | rfl | (cases h; done)
theorem okE.fold {e : Expr} (h : okE e = true) {env : Env} (x : Value) : foldedSetIterable e env x = pure x := by cases e <;> first | rfl | (cases h; done)
theorem idxOf_some {x : Str} {l : List Str} {i : Nat} (h : idxOf? x l = some i) : l[i]? = some x := by
  unfold idxOf? at h
  have h : (if l.idxOf x < l.length then some (l.idxOf x) else none) = some i := h
  split at h
  · rename_i hl
    cases h
    rw [List.getElem?_eq_getElem hl]
    exact congrArg some (List.getElem_idxOf hl)
  · cases h
section
variable {G : Gd} {cc : CC} {X : Cx} {st : Nat → Bool} {W : WX}
theorem okName_dbg {x : Str} (h : okName x = true) : (x == ("__debug__" : Str)) = false ∧ (x == ("__classdict__" : Str)) = false ∧ x ≠ ("__name__" : Str) := by
  unfold okName at h
  rw [Bool.and_eq_true, Bool.and_eq_true, Bool.not_eq_true', Bool.not_eq_true', Bool.not_eq_true'] at h
  exact ⟨h.1.1, h.1.2, fun z => by rw [z] at h; exact absurd h.2 (by decide)⟩
theorem Cok.slot (C : Cok G cc X st) {x : Str} {i : Nat} (h : cc.slot x = some i) : X.N[i]? = some x ∧ Vis X.env.scope x ∧ okName x = true := by
  unfold CC.slot at h
  split at h
  · rename_i hs
    rw [Bool.and_eq_true] at hs
    refine ⟨by rw [C.hN]; exact idxOf_some h, ?_, hs.2⟩
    have s := hs.1
    unfold CC.seen at s
    unfold Vis
    rw [C.hsc]
    split at s
    · rename_i e; exact .inl e
    · rename_i e; exact .inr (.inl e)
    · rename_i e; exact .inr (.inr e)
    · cases s
  · cases h
theorem opt_if {α : Type} {p : Prop} [Decidable p] {a : Option α} {b : α} (h : (if p then a else none) = some b) : p ∧ a = some b := by
  by_cases z : p
  · rw [if_pos z] at h; exact ⟨z, h⟩
  · rw [if_neg z] at h; cases h
theorem Cok.loc (C : Cok G cc X st) {x : Str} {i : Nat} (h : cc.loc x = some i) : X.N[i]? = some x ∧ L2.Loc X.env.scope x := by
  obtain ⟨hs, h⟩ := opt_if h
  rw [Bool.and_eq_true] at hs
  refine ⟨by rw [C.hN]; exact idxOf_some h, ?_⟩
  have s := hs.1
  unfold L2.Loc
  rw [C.hsc]
  split at s
  · rename_i e; exact .inl e
  · rename_i e; exact .inr e
  · cases s
theorem Cok.gl (C : Cok G cc X st) {x : Str} (h : cc.gl x = true) : Gl X x ∧ okName x = true := by
  unfold CC.gl at h
  rw [Bool.and_eq_true] at h
  refine ⟨?_, h.2⟩
  have s := h.1
  show X.env.scope.names.lookup x = some .globalImplicit
  rw [C.hsc]
  split at s
  · assumption
  · cases s
theorem Cok.bl (C : Cok G cc X st) {x : Str} (h : cc.blt x = true) (hm : bltNames.contains x = true) : Gl X x ∧ X.mg x = none := by
  unfold CC.blt at h
  rw [Bool.and_eq_true, Bool.and_eq_true, Bool.and_eq_true] at h
  refine ⟨(C.gl h.1.1.1).1, C.blt x hm ?_⟩
  rw [Bool.and_eq_true, Bool.and_eq_true]
  exact ⟨⟨h.1.1.2, h.1.2⟩, h.2⟩
theorem opB_ok {o : Operator} {p : Op2} (h : opB o = some p) : OpR X (binaryOp o) (rOp2 X.K p) := by
  cases o <;> first | (cases h; done) | (cases h; first | exact op_addD | exact op_subD | exact op_mulD | exact op_fdivD | exact op_modD | exact op_powD | exact op_shlD | exact op_shrD | exact op_bandD | exact op_borD)
theorem opC_ok (hu : X.A.units + 100 < cLine) {o : CmpOp} {p : Op2} (h : opC o = some p) : OpR X (compareOp o) (rOp2 X.K p) ∧ isCmp p = true := by
  have h1 : X.A.units + 64 < cLine := by omega
  have h2 : X.A.units + 1 < cLine := by omega
  cases o <;> first | (cases h; done) | (cases h; first | exact ⟨op_eqDD h1, rfl⟩ | exact ⟨op_neDD h1, rfl⟩ | exact ⟨op_ltD, rfl⟩ | exact ⟨op_leD, rfl⟩ | exact ⟨op_gtD, rfl⟩ | exact ⟨op_geD, rfl⟩ | exact ⟨op_inD' h2, rfl⟩ | exact ⟨op_notInD' h2, rfl⟩)
theorem opt_bind {α β : Type} {o : Option α} {f : α → Option β} {b : β} (h : o.bind f = some b) : ∃ a, o = some a ∧ f a = some b := Option.bind_eq_some_iff.mp h
theorem opt_map {α β : Type} {o : Option α} {f : α → β} {b : β} (h : o.map f = some b) : ∃ a, o = some a ∧ f a = b := Option.map_eq_some_iff.mp h
/-- what is known of all that is compiled with the fuel n -/
structure IH (G : Gd) (n : Nat) : Prop where
  e : ∀ {cc : CC} {X : Cx} {st : Nat → Bool} {W : WX} {e : Expr} {ce : CE}, Cok G cc X st → Takes X W → cE n cc e = some ce → ∀ c, Good3 (G := G) (c := c) X W e ce
  es : ∀ {cc : CC} {X : Cx} {st : Nat → Bool} {W : WX} {es : List Expr} {ces : CEs}, Cok G cc X st → Takes X W → cEs n cc es = some ces → (∀ c, PA X es (tA G c W ces)) ∧ (∀ c, PA X es (tAs G c W ces)) ∧ ces.len = es.length ∧ ∀ e ∈ es, noStar e = true
  o : ∀ {cc : CC} {X : Cx} {st : Nat → Bool} {W : WX} {e : Option Expr} {co : CO}, Cok G cc X st → Takes X W → cO n cc e = some co → ∀ c, PO X e (tP G c W co)
  iff : ∀ {cc : CC} {X : Cx} {st : Nat → Bool} {W : WX} {es : List Expr} {ce : CE}, Cok G cc X st → Takes X W → cIf n cc es = some ce → PTs X es (uT G W ce)
  call : ∀ {cc : CC} {X : Cx} {st : Nat → Bool} {W : WX} {x : Str} {es : List Expr} {ce : CE} {p pos : Pos}, Cok G cc X st → Takes X W → cCall n cc x es = some ce → ∀ c, Good3 (G := G) (c := c) X W (.Call (.Name x p) es [] pos) ce
  meth : ∀ {cc : CC} {X : Cx} {st : Nat → Bool} {W : WX} {o : Expr} {m : Str} {es : List Expr} {ce : CE} {p pos : Pos}, Cok G cc X st → Takes X W → cMeth n cc o m es = some ce → (p.endLine == pos.line) = true → ∀ c, Good3 (G := G) (c := c) X W (.Call (.Attribute o m p) es [] pos) ce
  ks : ∀ {cc : CC} {X : Cx} {st : Nat → Bool} {W : WX} {ks : List (Option Expr)} {vs : List Expr} {kvs : CEs} {pos : Pos}, Cok G cc X st → Takes X W → cKs n cc ks vs = some kvs → PPs X pos ks vs (trsOf G W kvs) ∧ ks.all (·.isSome) = true ∧ ks.length = vs.length ∧ even kvs = true
  i : ∀ {cc : CC} {X : Cx} {st : Nat → Bool} {W : WX} {tg e : Expr} {ci : CI}, Cok G cc X st → Takes X W → cI n cc tg e = some ci → (∀ c, PI X tg e (tI G c W ci)) ∧ okE e = true
/-- targets -/
theorem tgts (n : Nat) : (∀ {cc : CC} {X : Cx} {st : Nat → Bool} {e : Expr} {tg : Tg}, Cok G cc X st → cTg n cc e = some tg → tgAll st tg = true → ∀ c, PG X e (tG G c tg)) ∧
    (∀ {cc : CC} {X : Cx} {st : Nat → Bool} {es : List Expr} {l : Tgs}, Cok G cc X st → cTgs n cc es = some l → tgAll.tgsAll st l = true → ∀ c, PGs X es (tGs G c l) ∧ (assignEach es X.env).length = tgLen l ∧ (assignEach es X.env).findIdx? (·.1) = none) := by
  induction n with
  | zero => exact ⟨fun {cc X st e tg} C h => (by cases h), fun {cc X st es l} C h => (by cases h)⟩
  | succ n ih =>
    refine ⟨fun {cc X st e tg} C h ht c => ?_, fun {cc X st es l} C h ht c => ?_⟩
    · cases e <;> first | (cases h; done) | skip
      case Name x p =>
        obtain ⟨i, hi, rfl⟩ := opt_map (show (cc.loc x).map Tg.n = some tg from h)
        obtain ⟨h1, h2⟩ := C.loc hi
        exact g_tn C.nd h1 h2 (C.fnok x i hi ht)
      case Tuple es k p =>
        obtain ⟨l, hl, rfl⟩ := opt_map (show (cTgs n cc es).map Tg.t = some tg from h)
        obtain ⟨h1, h2, h3⟩ := ih.2 C hl ht c
        exact g_tt C.hK C.calm h2 h3 h1
    · cases es with
      | nil => cases h; exact ⟨g_ts0, rfl, rfl⟩
      | cons e es =>
        obtain ⟨a, ha, h⟩ := opt_bind (show (cTg n cc e).bind (fun a => (cTgs n cc es).map fun l => Tgs.cons a l) = some l from h)
        obtain ⟨l', hl, rfl⟩ := opt_map h
        have ht' : (tgAll st a && tgAll.tgsAll st l') = true := ht
        rw [Bool.and_eq_true] at ht'
        obtain ⟨h1, h2, h3⟩ := ih.2 C hl ht'.2 c
        have hs : assignEach (e :: es) X.env = (false, assign e X.env) :: assignEach es X.env := by
          cases n with
          | zero => cases ha
          | succ n => cases e <;> first | rfl | (cases ha; done)
        refine ⟨g_tsC (by rw [hs]; rfl) (ih.1 C ha ht'.1 c) h1, ?_, ?_⟩
        · rw [hs]
          show (assignEach es X.env).length + 1 = tgLen l' + 1
          rw [h2]
        · rw [hs, List.findIdx?_cons, h3]
          rfl
end
end SF

/-! The main induction: expressions, the steps. -/
namespace SF
open PySem PySem.Spec PyProof.Rows L2
open Evl (Ex)
section
variable {G : Gd} {cc : CC} {X : Cx} {st : Nat → Bool} {W : WX} {n : Nat}
theorem step_es (I : IH G n) {es : List Expr} {ces : CEs} (C : Cok G cc X st) (tk : Takes X W) (h : cEs (n + 1) cc es = some ces) : (∀ c, PA X es (tA G c W ces)) ∧ (∀ c, PA X es (tAs G c W ces)) ∧ ces.len = es.length ∧ ∀ e ∈ es, noStar e = true := by
  cases es with
  | nil => cases h; exact ⟨fun c => g_nil, fun c => g_nilO, rfl, fun e h => by cases h⟩
  | cons e es =>
    obtain ⟨a, ha, h⟩ := opt_bind (show (cE n cc e).bind (fun a => (cEs n cc es).map fun l => CEs.cons a l) = some ces from h)
    obtain ⟨l, hl, rfl⟩ := opt_map h
    obtain ⟨h1, h2, h3, h4⟩ := I.es C tk hl
    have s := okE.star (okForm ha)
    refine ⟨fun c => g_cons s (I.e C tk ha c) (h1 c), fun c => g_consO s (I.e C tk ha c) (h2 c), by show l.len + 1 = es.length + 1; rw [h3], fun e' he => ?_⟩
    rcases List.mem_cons.mp he with rfl | he
    · exact s
    · exact h4 e' he
theorem step_o (I : IH G n) {e : Option Expr} {co : CO} (C : Cok G cc X st) (tk : Takes X W) (h : cO (n + 1) cc e = some co) (c : EC) : PO X e (tP G c W co) := by
  cases e with
  | none => cases h; exact g_noP
  | some e =>
    obtain ⟨a, ha, rfl⟩ := opt_map (show (cE n cc e).map CO.so = some co from h)
    exact g_soP (I.e C tk ha c)
theorem PTs.imp {X : Cx} {es : List Expr} {t t' : TT} (h : PTs X es t) (k : ∀ σ H Q, t' σ H Q → t σ H Q) : PTs X es t' := ⟨fun pins s σ H Q I q => h.run pins s σ H Q I (k σ H Q q)⟩
theorem step_if (I : IH G n) {es : List Expr} {ce : CE} (C : Cok G cc X st) (tk : Takes X W) (h : cIf (n + 1) cc es = some ce) : PTs X es (uT G W ce) := by
  match es, h with
  | [], h =>
    cases h
    exact PTs.imp pts_nil fun σ H Q ⟨c, F, nv, S, q⟩ => q F H (Ex.refl F) S
  | [e], h => exact pts_one (pt_u fun c => I.e C tk (show cE n cc e = some ce from h) c)
  | _ :: _ :: _, h => cases h
theorem step_ks (I : IH G n) {ks : List (Option Expr)} {vs : List Expr} {kvs : CEs} {pos : Pos} (C : Cok G cc X st) (tk : Takes X W) (h : cKs (n + 1) cc ks vs = some kvs) : PPs X pos ks vs (trsOf G W kvs) ∧ ks.all (·.isSome) = true ∧ ks.length = vs.length ∧ even kvs = true := by
  match ks, vs, h with
  | [], [], h => cases h; exact ⟨pps_nil, rfl, rfl, rfl⟩
  | [], _ :: _, h => cases h
  | none :: _, _, h => cases h
  | some _ :: _, [], h => cases h
  | some k :: ks, v :: vs, h =>
    obtain ⟨a, ha, h⟩ := opt_bind (show (cE n cc k).bind (fun k => (cE n cc v).bind fun v => (cKs n cc ks vs).map fun l => CEs.cons k (.cons v l)) = some kvs from h)
    obtain ⟨b, hb, h⟩ := opt_bind h
    obtain ⟨l, hl, rfl⟩ := opt_map h
    obtain ⟨h1, h2, h3, h4⟩ := I.ks (pos := pos) C tk hl
    exact ⟨pps_cons (pe_u fun c => I.e C tk ha c) (pe_u fun c => I.e C tk hb c) h1, h2, by rw [List.length_cons, List.length_cons, h3], h4⟩
theorem g_callF {x : Str} {f : Nat} {e : Expr} {es : List Expr} {ces : CEs} {p pos : Pos} (C : Cok G cc X st) (tk : Takes X W) (hg : cc.gl x = true) (hf : idxOf? x cc.fns = some f) (hs : ∀ a ∈ e :: es, noStar a = true) (h : ∀ c, PA X (e :: es) (tAs G c W ces)) (c : EC) :
    Good3 (G := G) (c := c) X W (.Call (.Name x p) (e :: es) [] pos) (.call f ces) := by
  obtain ⟨k, a, fd, ps, F, hr, hm, hk, hb⟩ := C.fns x f hf
  obtain ⟨g1, g2⟩ := C.gl hg
  have ns : ∀ {l : List Expr} {env : Env}, (∀ a ∈ l, noStar a = true) → (backTo pos (starEach l env)).any (·.1) = false := by
    intro l env hl
    have : (starEach l env).any (·.1) = false := by
      induction l with
      | nil => rfl
      | cons a l ih =>
        rw [star_one (hl a List.mem_cons_self), List.any_cons, ih fun b hb => hl b (List.mem_cons_of_mem _ hb)]
        rfl
    unfold backTo
    rw [List.any_map]
    exact this
  exact mk3 C.hK (PE.imp (pe_callF F hr C.gd g1 hm hk hb (fun σ => passAt tk σ) (h c) (okName_dbg g2).1 (star_one (hs e List.mem_cons_self)) (ns fun b hb => hs b (List.mem_cons_of_mem _ hb))) fun σ H Q q => call_t C.np q) (fun i h => by cases h) rfl fun _ => rfl
theorem step_call (I : IH G n) {x : Str} {es : List Expr} {ce : CE} {p pos : Pos} (C : Cok G cc X st) (tk : Takes X W) (h : cCall (n + 1) cc x es = some ce) (c : EC) : Good3 (G := G) (c := c) X W (.Call (.Name x p) es [] pos) ce := by
  obtain ⟨hg, h⟩ := opt_if h
  cases hf : idxOf? x cc.fns with
  | some f =>
    rw [hf] at h
    cases es with
    | nil => cases h
    | cons e es =>
      obtain ⟨l, hl, rfl⟩ := opt_map (show (cEs n cc (e :: es)).map (CE.call f) = some ce from h)
      obtain ⟨_, h2, _, h4⟩ := I.es C tk hl
      exact g_callF C tk hg hf h4 h2 c
  | none =>
    rw [hf] at h
    obtain ⟨hb, h⟩ := opt_if (show (if cc.blt x = true then _ else none) = some ce from h)
    have hdb := (okName_dbg (C.gl hg).2)
    match es, h with
    | [], h => cases h
    | [a], h =>
      obtain ⟨o, ho, h⟩ := opt_bind (show (b1 x).bind (fun o => (cE n cc a).map (CE.o1 o)) = some ce from h)
      obtain ⟨ca, ha, rfl⟩ := opt_map h
      have ga := I.e C tk ha c
      have s := okE.star (okForm ha)
      unfold b1 at ho
      have key : ∀ {y : Str}, x = y → bltNames.contains y = true → Gl X x ∧ X.mg x = none := fun {y} e h => C.bl hb (by rw [e]; exact h)
      repeat' (split at ho)
      all_goals first | (cases ho; done) | skip
      · rename_i e; cases ho; obtain ⟨g1, g2⟩ := key e (by decide +kernel); exact g_cb1 C.hK cr_lenD g1 g2 (by rw [e]; exact boot_len) hdb.2.2 hdb.1 s ga
      · rename_i e; cases ho; obtain ⟨g1, g2⟩ := key e (by decide +kernel); exact g_cb1 C.hK cr_absD g1 g2 (by rw [e]; exact boot_abs) hdb.2.2 hdb.1 s ga
      · rename_i e; cases ho; obtain ⟨g1, g2⟩ := key e (by decide +kernel); exact g_ct1 C.hK cr_intD g1 g2 (by rw [e]; exact boot_int) hdb.2.2 hdb.1 s ga
      · rename_i e; cases ho; obtain ⟨g1, g2⟩ := key e (by decide +kernel); exact g_ct1 C.hK cr_strD g1 g2 (by rw [e]; exact boot_str) hdb.2.2 hdb.1 s ga
      · rename_i e; cases ho; obtain ⟨g1, g2⟩ := key e (by decide +kernel); exact g_cb1 C.hK (cr_reprD C.un C.gd) g1 g2 (by rw [e]; exact boot_repr) hdb.2.2 hdb.1 s ga
      · rename_i e; cases ho; obtain ⟨g1, g2⟩ := key e (by decide +kernel); exact g_cb1 C.hK (cr_allD C.calm) g1 g2 (by rw [e]; decide +kernel) hdb.2.2 hdb.1 s ga
      · rename_i e; cases ho; obtain ⟨g1, g2⟩ := key e (by decide +kernel); exact g_cb1 C.hK (cr_anyD C.calm) g1 g2 (by rw [e]; decide +kernel) hdb.2.2 hdb.1 s ga
      · rename_i e; cases ho; obtain ⟨g1, g2⟩ := key e (by decide +kernel); exact g_cb1 C.hK (cr_sumD C.calm) g1 g2 (by rw [e]; decide +kernel) hdb.2.2 hdb.1 s ga
      · rename_i e; cases ho; obtain ⟨g1, g2⟩ := key e (by decide +kernel); exact g_cb1 C.hK (cr_minD C.calm) g1 g2 (by rw [e]; decide +kernel) hdb.2.2 hdb.1 s ga
      · rename_i e; cases ho; obtain ⟨g1, g2⟩ := key e (by decide +kernel); exact g_cb1 C.hK (cr_maxD C.calm) g1 g2 (by rw [e]; decide +kernel) hdb.2.2 hdb.1 s ga
      · rename_i e; cases ho; obtain ⟨g1, g2⟩ := key e (by decide +kernel); exact g_ct1 C.hK cr_tupleD g1 g2 (by rw [e]; exact boot_tuple) hdb.2.2 hdb.1 s ga
      · rename_i e; cases ho; obtain ⟨g1, g2⟩ := key e (by decide +kernel); exact g_ct1 C.hK cr_listD g1 g2 (by rw [e]; exact boot_list) hdb.2.2 hdb.1 s ga
    | [a, b], h =>
      by_cases hi : x = ("isinstance" : Str)
      · dsimp only at h
        rw [if_pos hi] at h
        rename_i hh0 hh1
        clear hh0 hh1
        cases b <;> first | (cases h; done) | skip
        case Name t p2 =>
          obtain ⟨hbt, h⟩ := opt_if h
          obtain ⟨ty, ht, h⟩ := opt_bind h
          obtain ⟨ca, ha, rfl⟩ := opt_map h
          obtain ⟨g1, g2⟩ := C.bl hb (by rw [hi]; decide +kernel)
          have hb2 : PE X (.Name t p2) (tC (.ty (tyN ty))) := by
            have key : ∀ {y : Str}, t = y → bltNames.contains y = true → Gl X t ∧ X.mg t = none := fun {y} e h => C.bl hbt (by rw [e]; exact h)
            have hdt := okName_dbg (C.gl (show cc.gl t = true by unfold CC.blt at hbt; rw [Bool.and_eq_true, Bool.and_eq_true, Bool.and_eq_true] at hbt; exact hbt.1.1.1)).2
            unfold tyOf at ht
            repeat' (split at ht)
            all_goals first | (cases ht; done) | skip
            all_goals (rename_i e; cases ht; obtain ⟨g1, g2⟩ := key e (by decide +kernel); exact pe_bltn g1 g2 (by rw [e]; decide +kernel) rfl hdt.2.2 hdt.1)
          exact g_isi C.hK hi g1 g2 (okE.star (okForm ha)) hb2 (I.e C tk ha c)
      · dsimp only at h
        rw [if_neg hi] at h
        obtain ⟨o, ho, h⟩ := opt_bind h
        obtain ⟨ca, ha, h⟩ := opt_bind h
        obtain ⟨cb, hb', rfl⟩ := opt_map h
        have key : ∀ {y : Str}, x = y → bltNames.contains y = true → Gl X x ∧ X.mg x = none := fun {y} e h => C.bl hb (by rw [e]; exact h)
        unfold b2 at ho
        repeat' (split at ho)
        all_goals first | (cases ho; done) | skip
        · rename_i e; cases ho; obtain ⟨g1, g2⟩ := key e (by decide +kernel); exact g_cb2 C.hK (cr_min2D C.calm) g1 g2 (by rw [e]; decide +kernel) hdb.2.2 hdb.1 (okE.star (okForm ha)) (okE.star (okForm hb')) (I.e C tk ha c) (I.e C tk hb' c)
        · rename_i e; cases ho; obtain ⟨g1, g2⟩ := key e (by decide +kernel); exact g_cb2 C.hK (cr_max2D C.calm) g1 g2 (by rw [e]; decide +kernel) hdb.2.2 hdb.1 (okE.star (okForm ha)) (okE.star (okForm hb')) (I.e C tk ha c) (I.e C tk hb' c)
    | _ :: _ :: _ :: _, h => cases h
end
end SF

/-! The main induction: expressions, joined. -/
namespace SF
open PySem PySem.Spec PyProof.Rows L2
open Evl (Ex)
section
variable {G : Gd} {cc : CC} {X : Cx} {st : Nat → Bool} {W : WX} {n : Nat}
theorem takes_W0 {X : Cx} : Takes X W0 := takes_none5
theorem ownOf_mem {N : List Str} {scope : Scope} {p : Str × Nat} (h : p ∈ ownOf N scope) : (∃ k, (p.1, k) ∈ scope.names ∧ (k = .local ∨ k = .cell)) ∧ idxOf? p.1 N = some p.2 := by
  obtain ⟨y, hy, e⟩ := List.mem_filterMap.mp h
  obtain ⟨y1, y2⟩ := y
  cases y2 <;> first | (cases e; done) | skip
  · obtain ⟨i, hi, rfl⟩ := opt_map (show (idxOf? y1 N).map (fun i => (y1, i)) = some p from e)
    exact ⟨⟨_, hy, .inl rfl⟩, hi⟩
  · obtain ⟨i, hi, rfl⟩ := opt_map (show (idxOf? y1 N).map (fun i => (y1, i)) = some p from e)
    exact ⟨⟨_, hy, .inr rfl⟩, hi⟩
theorem Cok.blkOk (C : Cok G cc X st) {scope : Scope} (ok : blkC cc.N cc.sc scope (ownOf cc.N scope) = true) : BlkOk X.N X.env.scope scope (ownOf cc.N scope) := by
  rw [C.hN, C.hsc]
  exact blkOk_by ok
theorem Cok.blk (C : Cok G cc X st) {scope : Scope} (ok : blkC cc.N cc.sc scope (ownOf cc.N scope) = true) (s : Shared) (H : Hp) (cl : List (Str × Addr)) (A : Addr) (fp : List Addr) :
    Cok G { cc with sc := relS scope cc.sc } (X.blk s H scope (compEnvC scope cl A X.env) fp) (fun i => ((ownOf cc.N scope).map (·.2)).contains i) := by
  have B := C.blkOk ok
  refine ⟨C.hK, C.calm, C.nd, C.hN, by show relS scope X.env.scope = _; rw [C.hsc], C.un, C.gd, B.kind, C.blt, C.con, C.fns, C.np, fun x i h hs => ?_⟩
  obtain ⟨p, hp, rfl⟩ := List.mem_map.mp (List.contains_iff_mem.mp hs)
  obtain ⟨⟨k, hk, kk⟩, hi⟩ := ownOf_mem hp
  have e1 := idxOf_some hi
  obtain ⟨_, h⟩ := opt_if h
  have e2 := idxOf_some h
  have e : x = p.1 := Option.some.inj (e2.symm.trans e1)
  have lk := B.uniq _ hk
  have lk : scope.names.lookup x = some k := by rw [e]; exact lk
  rcases kk with rfl | rfl
  · refine .inr ?_
    show (relS scope X.env.scope).names.lookup x = some .local
    exact lookup_relS_keep (by decide) lk
  · refine .inl ?_
    show (scope.names.lookup x == some .cell) = true
    rw [lk]
    rfl
theorem last2 {o p : CmpOp} {b d : Expr} (h : okE d = true) : lastMarks [o, p] [b, d] = false := by
  show behindInMarks p d = false
  exact okE.mark h p
theorem step_e (I : IH G n) {e : Expr} {ce : CE} (C : Cok G cc X st) (tk : Takes X W) (h : cE (n + 1) cc e = some ce) (c : EC) : Good3 (G := G) (c := c) X W e ce := by
  cases e <;> first | (cases h; done) | skip
  case Name x p =>
    cases hs : cc.slot x with
    | some i =>
      have h : (match cc.slot x with | some i => some (CE.v i) | none => if cc.gl x then (cc.con.lookup x).map fun d => CE.g x d else none) = some ce := h
      rw [hs] at h
      cases h
      obtain ⟨h1, h2, h3⟩ := C.slot hs
      exact g_v C.hK (pe_var h1 h2 (okName_dbg h3).1 (okName_dbg h3).2.1) fun _ => rfl
    | none =>
      have h : (match cc.slot x with | some i => some (CE.v i) | none => if cc.gl x then (cc.con.lookup x).map fun d => CE.g x d else none) = some ce := h
      rw [hs] at h
      obtain ⟨hg, h⟩ := opt_if h
      obtain ⟨d, hd, rfl⟩ := opt_map h
      obtain ⟨v, u, h1, h2, h3⟩ := C.con x d hd
      obtain ⟨g1, g2⟩ := C.gl hg
      exact g_g C.hK (pe_glob g1 h1 h2 (okName_dbg g2).1) h3 fun _ => rfl
  case Constant k j p =>
    cases k <;> first | (cases h; done) | skip
    · cases h; exact g_k C.hK pe_non (fun F => .non) fun _ => rfl
    · cases h; exact g_k C.hK pe_bl (fun F => .bl _) fun _ => rfl
    · cases h; exact g_k C.hK pe_int (fun F => .int _) fun _ => rfl
    · cases h; exact g_k C.hK pe_str (fun F => .str _) fun _ => rfl
  case BinOp a o b p =>
    obtain ⟨o', ho, h⟩ := opt_bind (show (opB o).bind (fun o => (cE n cc a).bind fun a => (cE n cc b).bind fun b => some (CE.o2 o a b)) = some ce from h)
    obtain ⟨ca, ha, h⟩ := opt_bind h
    obtain ⟨cb, hb, h⟩ := opt_bind h
    cases h
    exact g_bin C.hK (opB_ok ho) (I.e C tk ha c) (I.e C tk hb c)
  case UnaryOp o a p =>
    cases o <;> first | (cases h; done) | skip
    · obtain ⟨ca, ha, rfl⟩ := opt_map (show (cE n cc a).map CE.not = some ce from h)
      exact g_not C.hK (I.e C tk ha c)
    · obtain ⟨ca, ha, rfl⟩ := opt_map (show (cE n cc a).map (CE.o1 .neg) = some ce from h)
      exact g_un C.hK un_negD (fun _ => rfl) (I.e C tk ha c)
  case BoolOp o es p =>
    match o, es, h with
    | .And, [], h => cases h
    | .Or, [], h => cases h
    | .And, [a], h => exact g_one C.hK (I.e C tk (show cE n cc a = some ce from h) c)
    | .Or, [a], h => exact g_one C.hK (I.e C tk (show cE n cc a = some ce from h) c)
    | .And, a :: b :: r, h =>
      obtain ⟨ca, ha, h⟩ := opt_bind (show (cE n cc a).bind (fun x => (cE n cc (.BoolOp .And (b :: r) p)).map fun y => CE.and x y) = some ce from h)
      obtain ⟨cb, hb, rfl⟩ := opt_map h
      exact g_and C.hK (I.e C tk ha c) (I.e C tk hb c)
    | .Or, a :: b :: r, h =>
      obtain ⟨ca, ha, h⟩ := opt_bind (show (cE n cc a).bind (fun x => (cE n cc (.BoolOp .Or (b :: r) p)).map fun y => CE.or x y) = some ce from h)
      obtain ⟨cb, hb, rfl⟩ := opt_map h
      exact g_or C.hK (I.e C tk ha c) (I.e C tk hb c)
  case IfExp t a b p =>
    obtain ⟨ct, ht, h⟩ := opt_bind (show (cE n cc t).bind (fun t => (cE n cc a).bind fun a => (cE n cc b).bind fun b => some (CE.ite t a b)) = some ce from h)
    obtain ⟨ca, ha, h⟩ := opt_bind h
    obtain ⟨cb, hb, h⟩ := opt_bind h
    cases h
    exact g_ite C.hK (I.e C tk ht c) (I.e C tk ha c) (I.e C tk hb c)
  case Compare a ops bs p =>
    match ops, bs, h with
    | [], _, h => cases h
    | [o], [], h => cases h
    | [o], [b], h =>
      have gen : (opC o).bind (fun o => (cE n cc a).bind fun a => (cE n cc b).bind fun b => some (CE.o2 o a b)) = some ce → Good3 (G := G) (c := c) X W (.Compare a [o] [b] p) ce := fun h => by
        obtain ⟨o', ho, h⟩ := opt_bind h
        obtain ⟨ca, ha, h⟩ := opt_bind h
        obtain ⟨cb, hb, h⟩ := opt_bind h
        cases h
        obtain ⟨h1, h2⟩ := opC_ok C.un ho
        exact g_cmp C.hK h1 (okE.mark (okForm hb) o) h2 (I.e C tk ha c) (I.e C tk hb c)
      cases o <;> first | exact gen h | skip
      all_goals (cases b <;> first | exact gen h | skip)
      all_goals (rename_i k j p2; cases k <;> first | exact gen h | skip)
      · obtain ⟨ca, ha, rfl⟩ := opt_map (show (cE n cc a).map (CE.o1 .isN) = some ce from h)
        refine g_isT C.hK (by decide) (by decide) (fun x d ow h => ?_) op_isND (I.e C tk ha c) pe_non
        cases x <;> (cases h; exact ⟨_, rfl, rfl⟩)
      · obtain ⟨ca, ha, rfl⟩ := opt_map (show (cE n cc a).map (CE.o1 .notN) = some ce from h)
        refine g_isT C.hK (by decide) (by decide) (fun x d ow h => ?_) op_notND (I.e C tk ha c) pe_non
        cases x <;> (cases h; exact ⟨_, rfl, rfl⟩)
    | [_], _ :: _ :: _, h => cases h
    | [_, _], [], h => cases h
    | [_, _], [_], h => cases h
    | [o, q], [b, d], h =>
      obtain ⟨o', ho, h⟩ := opt_bind (show (opC o).bind (fun o => (opC q).bind fun p => (cE n cc a).bind fun a => (cE n cc b).bind fun b => (cE n cc d).bind fun d => some (CE.ch o p a b d)) = some ce from h)
      obtain ⟨q', hq, h⟩ := opt_bind h
      obtain ⟨ca, ha, h⟩ := opt_bind h
      obtain ⟨cb, hb, h⟩ := opt_bind h
      obtain ⟨cd, hd, h⟩ := opt_bind h
      cases h
      obtain ⟨h1, h2⟩ := opC_ok C.un ho
      obtain ⟨h3, h4⟩ := opC_ok C.un hq
      exact g_ch C.hK h1 h3 (last2 (okForm hd)) h2 h4 (I.e C tk ha c) (I.e C tk hb c) (I.e C tk hd c)
    | [_, _], _ :: _ :: _ :: _, h => cases h
    | _ :: _ :: _ :: _, _, h => cases h
  case Tuple es k p =>
    obtain ⟨hl, h⟩ := opt_if (show (if es.length ≤ 1000 then (cEs n cc es).map CE.tup else none) = some ce from h)
    obtain ⟨ces, hc, rfl⟩ := opt_map h
    obtain ⟨h1, _, h3, _⟩ := I.es C tk hc
    exact g_tup C.hK (by rw [h3]; exact hl) (h1 c)
  case List es p =>
    obtain ⟨hl, h⟩ := opt_if (show (if es.length ≤ 1000 then (cEs n cc es).map CE.lst else none) = some ce from h)
    obtain ⟨ces, hc, rfl⟩ := opt_map h
    obtain ⟨h1, _, h3, _⟩ := I.es C tk hc
    exact g_lst C.hK (by rw [h3]; exact hl) (h1 c)
  case Dict ks vs p =>
    obtain ⟨hl, h⟩ := opt_if (show (if (decide (ks.length ≤ 15) && !ks.isEmpty) = true then (cKs n cc ks vs).map CE.dct else none) = some ce from h)
    rw [Bool.and_eq_true, decide_eq_true_eq] at hl
    obtain ⟨kvs, hc, rfl⟩ := opt_map h
    obtain ⟨h1, h2, h3, h4⟩ := I.ks (pos := p) C tk hc
    exact g_dct C.hK h1 h2 h3 (fun z => by rw [z] at hl; exact absurd hl.2 (by decide)) hl.1 h4
  case Subscript a b p =>
    have plain : okE b = true → (cE n cc a).bind (fun a => (cE n cc b).map fun b => CE.o2 .at a b) = some ce → Good3 (G := G) (c := c) X W (.Subscript a b p) ce := fun hb h => by
      obtain ⟨ca, ha, h⟩ := opt_bind h
      obtain ⟨cb, hb', rfl⟩ := opt_map h
      exact g_ix C.hK (okE.ix hb) (I.e C tk ha c) (I.e C tk hb' c)
    have bad : okE b = false → (cE n cc a).bind (fun a => (cE n cc b).map fun b => CE.o2 .at a b) = some ce → Good3 (G := G) (c := c) X W (.Subscript a b p) ce := fun hb h => by
      obtain ⟨ca, ha, h⟩ := opt_bind h
      obtain ⟨cb, hb', rfl⟩ := opt_map h
      rw [okForm hb'] at hb
      cases hb
    cases b <;> first | exact plain rfl h | exact bad rfl h | skip
    case Slice lo hi step p2 =>
      cases step with
      | some s => cases h
      | none =>
        obtain ⟨ca, ha, h⟩ := opt_bind (show (cE n cc a).bind (fun a => (cO n cc lo).bind fun lo => (cO n cc hi).map fun hi => CE.sl a lo hi) = some ce from h)
        obtain ⟨cl, hl, h⟩ := opt_bind h
        obtain ⟨ch, hh, rfl⟩ := opt_map h
        exact g_sl C.hK (I.e C tk ha c) (I.o C tk hl c) (I.o C tk hh c)
  case ListComp elt gs scope p =>
    match gs, h with
    | [], h => cases h
    | [⟨tg, iter, ifs, .ofNat 0⟩], h =>
      obtain ⟨ok, h⟩ := opt_if (show (if blkC cc.N cc.sc scope (ownOf cc.N scope) = true then _ else none) = some ce from h)
      obtain ⟨ci, hi, h⟩ := opt_bind h
      obtain ⟨tg', ht, h⟩ := opt_bind h
      obtain ⟨ct, hc, h⟩ := opt_bind h
      obtain ⟨ce', he, h⟩ := opt_bind h
      obtain ⟨hall, h⟩ := opt_if h
      cases h
      obtain ⟨h1, h2⟩ := I.i C tk hi
      exact mk3 C.hK (PE.imp (pe_lc C.calm C.nd (h1 c) (C.blkOk ok)
        (fun s H A cl fp => ⟨fun pins s' σ H' v u Q J r ⟨c', q⟩ => ((tgts n).1 (C.blk ok s H cl A fp) ht hall c').run pins s' σ H' v u Q J r q⟩)
        (fun s H A cl fp => I.iff (C.blk ok s H cl A fp) takes_W0 hc) (fun s H A cl fp => pe_u fun c' => I.e (C.blk ok s H cl A fp) takes_W0 he c') (fun x => okE.fold h2 x)) fun σ H Q q => lc_t hall q) (fun i h => by cases h) rfl fun _ => rfl
    | [⟨_, _, _, .ofNat (_ + 1)⟩], h => cases h
    | [⟨_, _, _, .negSucc _⟩], h => cases h
    | g :: _ :: _, h =>
      obtain ⟨_, _, _, k⟩ := g
      cases k with
      | ofNat m => cases m <;> cases h
      | negSucc m => cases h
  case DictComp kx vx gs scope p =>
    match gs, h with
    | [], h => cases h
    | [⟨tg, iter, ifs, .ofNat 0⟩], h =>
      obtain ⟨ok, h⟩ := opt_if (show (if blkC cc.N cc.sc scope (ownOf cc.N scope) = true then _ else none) = some ce from h)
      obtain ⟨ci, hi, h⟩ := opt_bind h
      obtain ⟨tg', ht, h⟩ := opt_bind h
      obtain ⟨ct, hc, h⟩ := opt_bind h
      obtain ⟨ck, hk, h⟩ := opt_bind h
      obtain ⟨ce', he, h⟩ := opt_bind h
      obtain ⟨hall, h⟩ := opt_if h
      cases h
      obtain ⟨h1, h2⟩ := I.i C tk hi
      exact mk3 C.hK (PE.imp (pe_dc C.calm C.nd (h1 c) (C.blkOk ok)
        (fun s H A cl fp => ⟨fun pins s' σ H' v u Q J r ⟨c', q⟩ => ((tgts n).1 (C.blk ok s H cl A fp) ht hall c').run pins s' σ H' v u Q J r q⟩)
        (fun s H A cl fp => I.iff (C.blk ok s H cl A fp) takes_W0 hc) (fun s H A cl fp => pe_u fun c' => I.e (C.blk ok s H cl A fp) takes_W0 hk c') (fun s H A cl fp => pe_u fun c' => I.e (C.blk ok s H cl A fp) takes_W0 he c') (fun x => okE.fold h2 x)) fun σ H Q q => dc_t hall q) (fun i h => by cases h) rfl fun _ => rfl
    | [⟨_, _, _, .ofNat (_ + 1)⟩], h => cases h
    | [⟨_, _, _, .negSucc _⟩], h => cases h
    | g :: _ :: _, h =>
      obtain ⟨_, _, _, k⟩ := g
      cases k with
      | ofNat m => cases m <;> cases h
      | negSucc m => cases h
  case Call f es kws p =>
    cases kws with
    | cons _ _ => cases h
    | nil =>
      cases f <;> first | (cases h; done) | skip
      case Name x p2 => exact I.call C tk (show cCall n cc x es = some ce from h) c
      case Attribute o m ap =>
        obtain ⟨hl, h⟩ := opt_if (show (if (ap.endLine == p.line) = true then cMeth n cc o m es else none) = some ce from h)
        exact I.meth C tk h hl c
theorem step_meth (I : IH G n) {o : Expr} {m : Str} {es : List Expr} {ce : CE} {p pos : Pos} (C : Cok G cc X st) (tk : Takes X W) (h : cMeth (n + 1) cc o m es = some ce) (hl : (p.endLine == pos.line) = true) (c : EC) : Good3 (G := G) (c := c) X W (.Call (.Attribute o m p) es [] pos) ce := by
  cases o <;> first | (cases h; done) | skip
  case Dict ks vs p2 =>
    match es, h with
    | [], h => cases h
    | [_], h => cases h
    | [a, b], h =>
      obtain ⟨hm, h⟩ := opt_if (show (if m = ("get" : Str) then _ else none) = some ce from h)
      subst hm
      obtain ⟨co, ho, h⟩ := opt_bind h
      obtain ⟨ca, ha, h⟩ := opt_bind h
      obtain ⟨cb, hb, rfl⟩ := opt_map h
      obtain ⟨kvs, rfl⟩ : ∃ kvs, co = .dct kvs := by
        cases n with
        | zero => cases ho
        | succ n =>
          obtain ⟨_, ho⟩ := opt_if (show (if (decide (ks.length ≤ 15) && !ks.isEmpty) = true then (cKs n cc ks vs).map CE.dct else none) = some co from ho)
          obtain ⟨kvs, _, rfl⟩ := opt_map ho
          exact ⟨kvs, rfl⟩
      refine g_get C.hK (by have := C.un; omega) rfl hl (okE.star (okForm ha)) (okE.star (okForm hb)) (fun i h => by cases h) (fun nv r hr => ?_) (I.e C tk ho c) (I.e C tk ha c) (I.e C tk hb c)
      obtain ⟨q, hq, hr⟩ := bind_ok (show (ev G.T G.call (.dct kvs) nv).bind _ = R.ok r from hr)
      obtain ⟨a1, _, hq⟩ := bind_ok (show (evs G.T G.call kvs nv).bind _ = R.ok q from hq)
      obtain ⟨a2, _, hq⟩ := of_ok hq
      obtain ⟨_, hq⟩ := if_ok hq
      cases hq
      cases hr
      exact ⟨_, rfl⟩
    | _ :: _ :: _ :: _, h => cases h
theorem star_all {l : List Expr} (h : ∀ e ∈ l, noStar e = true) : ∀ e ∈ l, noStar e = true := h
theorem step_i (I : IH G n) {tg e : Expr} {ci : CI} (C : Cok G cc X st) (tk : Takes X W) (h : cI (n + 1) cc tg e = some ci) : (∀ c, PI X tg e (tI G c W ci)) ∧ okE e = true := by
  have seq : (cE n cc e).map CI.seq = some ci → (∀ c, PI X tg e (tI G c W ci)) ∧ okE e = true := fun h => by
    obtain ⟨ce, he, rfl⟩ := opt_map h
    exact ⟨fun c => i_seq C.hK (I.e C tk he c), okForm he⟩
  cases e <;> first | exact seq h | skip
  case Call f args kws pos =>
    cases f <;> first | exact seq h | skip
    case Name x p =>
      cases kws with
      | cons _ _ => exact seq h
      | nil =>
        by_cases hb : cc.blt x = true
        · have key : ∀ {y : Str}, x = y → bltNames.contains y = true → Gl X x ∧ X.mg x = none := fun {y} e h => C.bl hb (by rw [e]; exact h)
          simp only [cI, hb, if_true] at h
          split at h
          · rename_i e
            subst e
            obtain ⟨g1, g2⟩ := key rfl (by decide +kernel)
            obtain ⟨h3l, h⟩ := opt_if h
            obtain ⟨ces, hc, rfl⟩ := opt_map h
            obtain ⟨h1, _, h3, h4⟩ := I.es C tk hc
            refine ⟨fun c => ?_, rfl⟩
            match args, h1, h3, h4, h3l with
            | [], h1, h3, h4, _ =>
              refine ⟨fun pins s σ H R J ⟨F, nv, S, q⟩ => ?_⟩
              exfalso
              have q := Pst.bind (r := evs G.T G.call ces nv) q
              cases z : evs G.T G.call ces nv with
              | no => rw [z] at q; exact q
              | ok r =>
                rw [z] at q
                have l := (evs_len z).trans h3
                obtain ⟨r1, r2⟩ := r
                cases r1 with
                | nil => exact q
                | cons _ _ => cases l
              | ex j ds =>
                have l : ces.len = 0 := h3
                cases ces with
                | nil => cases z
                | cons _ _ => cases l
            | [a], h1, h3, h4, _ => exact i_rng1 g1 g2 (h4 a List.mem_cons_self) h3 (h1 c)
            | [a, b], h1, h3, h4, _ => exact i_rng2 g1 g2 (h4 a List.mem_cons_self) (h4 b (List.mem_cons_of_mem _ List.mem_cons_self)) h3 (h1 c)
            | [a, b, d], h1, h3, h4, _ => exact i_rng3 g1 g2 (h4 a List.mem_cons_self) (h4 b (List.mem_cons_of_mem _ List.mem_cons_self)) (h4 d (List.mem_cons_of_mem _ (List.mem_cons_of_mem _ List.mem_cons_self))) h3 (h1 c)
            | _ :: _ :: _ :: _ :: _, _, _, _, hl => exact absurd hl (by simp)
          · split at h
            · rename_i e
              subst e
              obtain ⟨g1, g2⟩ := key rfl (by decide +kernel)
              match args, h with
              | [], h => cases h
              | [a], h =>
                dsimp only at h
                obtain ⟨ht, h⟩ := opt_if h
                obtain ⟨ca, ha, rfl⟩ := opt_map h
                cases tg <;> first | (cases ht; done) | skip
                exact ⟨fun c => i_enm C.hK g1 g2 (okE.star (okForm ha)) (I.e C tk ha c), rfl⟩
              | _ :: _ :: _, h => cases h
            · split at h
              · rename_i e
                subst e
                obtain ⟨g1, g2⟩ := key rfl (by decide +kernel)
                match args, h with
                | [], h => cases h
                | [_], h => cases h
                | [a, b], h =>
                  dsimp only at h
                  obtain ⟨ht, h⟩ := opt_if h
                  obtain ⟨ca, ha, h⟩ := opt_bind h
                  obtain ⟨cb, hb', rfl⟩ := opt_map h
                  cases tg <;> first | (cases ht; done) | skip
                  exact ⟨fun c => i_zip C.hK g1 g2 (okE.star (okForm ha)) (okE.star (okForm hb')) (I.e C tk ha c) (I.e C tk hb' c), rfl⟩
                | _ :: _ :: _ :: _, h => cases h
              · split at h
                · rename_i e
                  subst e
                  obtain ⟨g1, g2⟩ := key rfl (by decide +kernel)
                  match args, h with
                  | [], h => cases h
                  | [a], h =>
                    dsimp only at h
                    obtain ⟨ca, ha, rfl⟩ := opt_map h
                    exact ⟨fun c => i_rev C.hK g1 g2 (okE.star (okForm ha)) (I.e C tk ha c), rfl⟩
                  | _ :: _ :: _, h => cases h
                · exact seq h
        · simp only [cI, hb] at h
          exact seq h
theorem exprs (G : Gd) : ∀ n, IH G n
  | 0 => ⟨fun _ _ h => (by cases h), fun _ _ h => (by cases h), fun _ _ h => (by cases h), fun _ _ h => (by cases h), fun _ _ h => (by cases h), fun _ _ h => (by cases h), fun _ _ h => (by cases h), fun _ _ h => (by cases h)⟩
  | n + 1 => ⟨fun C tk h c => step_e (exprs G n) C tk h c, fun C tk h => step_es (exprs G n) C tk h, fun C tk h c => step_o (exprs G n) C tk h c, fun C tk h => step_if (exprs G n) C tk h, fun C tk h c => step_call (exprs G n) C tk h c,
      fun C tk h hl c => step_meth (exprs G n) C tk h hl c, fun C tk h => step_ks (exprs G n) C tk h, fun C tk h => step_i (exprs G n) C tk h⟩
end
end SF

/-! Statements: the readings and the single rules. -/
namespace SF
open PySem PySem.Spec PyProof.Rows L2
open Evl (Ex)
section
variable (G : Gd) (c : EC)
/-- where a statement's run leads -/
def EndR (D : Ends) (F : Hp) (r : Fl × Nv) : Prop :=
  match r.1 with
  | .nx => ∀ σ' F' H', Ex F F' → Sat G.K c F' H' σ' r.2 → D.nx σ' H'
  | .br => ∀ σ' F' H', Ex F F' → Sat G.K c F' H' σ' r.2 → D.bk σ' H'
  | .ct => ∀ σ' F' H', Ex F F' → Sat G.K c F' H' σ' r.2 → D.ct σ' H'
  | .rt d ow => ∀ v σ' F' H', Ex F F' → Sat G.K c F' H' σ' r.2 → VR G.K c F' H' σ' r.2 v d ow → D.rt v H'
def tS (W : WX) (cs : CS) : TS := fun D σ H => ∃ F nv, Sat G.K c F H σ nv ∧ Pst G c F W (exS G.T G.call G.sub G.W cs nv) (EndR G c D F)
def tSs (W : WX) (cs : CSs) : TS := fun D σ H => ∃ F nv, Sat G.K c F H σ nv ∧ Pst G c F W (exs G.T G.call G.sub G.W cs nv) (EndR G c D F)
variable {G c}
theorem EndR.up {D : Ends} {F F1 : Hp} {r : Fl × Nv} (h : EndR G c D F r) (e : Ex F F1) : EndR G c D F1 r := by
  obtain ⟨fl, nv⟩ := r
  cases fl with
  | nx => exact fun σ' F' H' e' S => h σ' F' H' (e.trans e') S
  | br => exact fun σ' F' H' e' S => h σ' F' H' (e.trans e') S
  | ct => exact fun σ' F' H' e' S => h σ' F' H' (e.trans e') S
  | rt d ow => exact fun v σ' F' H' e' S r => h v σ' F' H' (e.trans e') S r
theorem Pst.end_ {D : Ends} {F F1 : Hp} {W : WX} {r : R (Fl × Nv)} (h : Pst G c F W r (EndR G c D F)) (e : Ex F F1) : Pst G c F1 W r (EndR G c D F1) := h.mono e fun _ _ q => q.up e
theorem PSs.imp {X : Cx} {e : List Stmt} {t t' : TS} (h : PSs X e t) (k : ∀ D σ H, t' D σ H → t D σ H) : PSs X e t' := ⟨fun pins s σ H Q I q => h.run pins s σ H Q I (k Q σ H q)⟩
variable {X : Cx} {W : WX}
theorem s_nil : PSs X [] (tSs G c W .nil) := PSs.imp pss_nil fun D σ H ⟨F, nv, S, q⟩ => q σ F H (Ex.refl F) S
theorem s_cons {s : Stmt} {ss : List Stmt} {a : CS} {as : CSs} (h1 : PS X s (tS G c W a)) (h2 : PSs X ss (tSs G c W as)) : PSs X (s :: ss) (tSs G c W (.cons a as)) := PSs.imp (pss_cons h1 h2) fun D σ H ⟨F, nv, S, q⟩ => by
  refine ⟨F, nv, S, (Pst.bind (r := exS G.T G.call G.sub G.W a nv) q).mono (Ex.refl F) fun r _ q => ?_⟩
  obtain ⟨fl, n1⟩ := r
  cases fl with
  | nx => exact fun σ' F' H' e S' => ⟨F', n1, S', Pst.end_ (show Pst G c F W (exs G.T G.call G.sub G.W as n1) (EndR G c D F) from q) e⟩
  | br => exact q
  | ct => exact q
  | rt d ow => exact q
theorem s_expr {e : Expr} {ce : CE} {pos : Pos} (hs : swapsWith e none pos.line X.env = pure false) (h : Good3 (G := G) (c := c) X W e ce) : PS X (.Expr e pos) (tS G c W (.expr ce)) := PS.imp (ps_expr h.ex hs) fun D σ H ⟨F, nv, S, q⟩ =>
  ⟨F, nv, S, (Pst.bind (r := ev G.T G.call ce nv) q).mono (Ex.refl F) fun r _ q v F' H' e' S' vr => q σ F' H' e' S'⟩
theorem s_ret {e : Expr} {ce : CE} {pos : Pos} (h : Good3 (G := G) (c := c) X W e ce) : PS X (.Return (some e) pos) (tS G c W (.ret ce)) := PS.imp (ps_ret h.ex) fun D σ H ⟨F, nv, S, q⟩ =>
  ⟨F, nv, S, (Pst.bind (r := ev G.T G.call ce nv) q).mono (Ex.refl F) fun r _ q v F' H' e' S' vr => q v σ F' H' e' S' vr⟩
theorem s_retN {pos : Pos} : PS X (.Return none pos) (tS G c W .retN) := PS.imp ps_retN fun D σ H ⟨F, nv, S, q⟩ => q .non σ F H (Ex.refl F) S .non
theorem s_pass {pos : Pos} : PS X (.Pass pos) (tS G c W .pass) := PS.imp ps_pass fun D σ H ⟨F, nv, S, q⟩ => q σ F H (Ex.refl F) S
theorem s_brk {pos : Pos} : PS X (.Break pos) (tS G c W .brk) := PS.imp ps_break fun D σ H ⟨F, nv, S, q⟩ => q σ F H (Ex.refl F) S
theorem s_cont {pos : Pos} : PS X (.Continue pos) (tS G c W .cont) := PS.imp ps_continue fun D σ H ⟨F, nv, S, q⟩ => q σ F H (Ex.refl F) S
theorem s_mv {e : Expr} {i : Nat} {pos : Pos} (h : PE X e (tVar i)) : PS X (.Return (some e) pos) (tS G c W (.mv i)) := PS.imp (ps_ret h) fun D σ H ⟨F, nv, S, q⟩ => by
  have q : Pst G c F W (match nv[i]? with
      | some (.own d) => .ok (.rt d true, nv.set i .emp)
      | some (.val d) => .ok (.rt d false, nv)
      | _ => .no) (EndR G c D F) := q
  cases e : nv[i]? with
  | none => rw [e] at q; exact q.elim
  | some s =>
    rw [e] at q
    have sl := S.slot i s e
    cases s with
    | emp => exact q.elim
    | io d => exact q.elim
    | val d =>
      obtain ⟨v, h1, h2⟩ := sl
      exact ⟨v, h1, (show EndR G c D F (.rt d false, nv) from q) v σ F H (Ex.refl F) S h2⟩
    | own d =>
      obtain ⟨a, o, h1, h2, h3, h4, h5⟩ := sl
      have hl : i < nv.length := (List.getElem?_eq_some_iff.mp e).1
      have held : Held nv σ i a := ⟨⟨_, e, rfl⟩, h1⟩
      have S1 : Sat G.K c F H σ (nv.set i .emp) := S.setSlot (s := .emp) trivial fun z => by cases z
      refine ⟨.ref a, h1, (show EndR G c D F (.rt d true, nv.set i .emp) from q) (.ref a) σ F H (Ex.refl F) S1 ⟨a, o, rfl, h2, h3, h4, h5, fun j ⟨⟨s, g1, g2⟩, g3⟩ => ?_, fun p hp z => (S.res p hp).2.2.2 i (by rw [z]; exact held)⟩⟩
      by_cases z : i = j
      · subst z
        rw [List.getElem?_set_self hl] at g1
        cases g1
        cases g2
      · rw [List.getElem?_set_ne z] at g1
        exact z (S.dis i j a held ⟨⟨s, g1, g2⟩, g3⟩)
theorem s_if {t : Expr} {a b : List Stmt} {ct : CE} {ca cb : CSs} {pos : Pos} (ht : Good3 (G := G) (c := c) X W t ct) (ha : PSs X a (tSs G c W ca)) (hb : PSs X b (tSs G c W cb)) : PS X (.If t a b pos) (tS G c W (.ite ct ca cb)) := PS.imp (ps_if ht.ts ha hb) fun D σ H ⟨F, nv, S, q⟩ => by
  refine ⟨F, nv, S, (Pst.bind (r := evT G.T G.call ct nv) q).mono (Ex.refl F) fun r _ q F1 H1 e1 S1 => ?_⟩
  obtain ⟨k, n1⟩ := r
  cases k with
  | true => exact ⟨F1, n1, S1, Pst.end_ (show Pst G c F W (exs G.T G.call G.sub G.W ca n1) (EndR G c D F) from q) e1⟩
  | false => exact ⟨F1, n1, S1, Pst.end_ (show Pst G c F W (exs G.T G.call G.sub G.W cb n1) (EndR G c D F) from q) e1⟩
mutual
theorem noex_asg : ∀ (tg : Tg) (d : D) (ow : Bool) (nv : Nv), NoEx (asg tg d ow nv)
  | .n i, d, ow, nv => by
    show NoEx (put nv i d ow)
    unfold put
    split <;> first | exact NoEx.ok _ | exact NoEx.no
  | .t l, d, ow, nv => by
    cases d <;> first | exact noex_asgs l _ nv | exact NoEx.no
theorem noex_asgs : ∀ (l : Tgs) (ds : List D) (nv : Nv), NoEx (asgs l ds nv)
  | .nil, [], nv => NoEx.ok _
  | .nil, _ :: _, nv => NoEx.no
  | .cons _ _, [], nv => NoEx.no
  | .cons a l, d :: ds, nv => (noex_asg a d false nv).bind fun n1 => noex_asgs l ds n1
end
/-- target = value -/
theorem set_t {tg : Tg} {ce : CE} {D : Ends} {σ : L2.St} {H : Hp} (q : tS G c W (.set tg ce) D σ H) : tAsg (tE G c W ce) (tG G c tg) D σ H := by
  obtain ⟨F, nv, S, q⟩ := q
  refine ⟨F, nv, S, (Pst.bind (r := ev G.T G.call ce nv) q).mono (Ex.refl F) fun r _ q v F1 H1 e1 S1 vr => ?_⟩
  obtain ⟨n2, h2, q⟩ := Pst.nx (noex_asg tg _ _ _) q
  exact ⟨F1, r.2.2, r.1, r.2.1, n2, S1, vr, h2, fun σ' _ S' => q σ' F1 H1 e1 S'⟩
theorem s_set {t e : Expr} {tg : Tg} {ce : CE} {pos : Pos} (hg : PG X t (tG G c tg)) (h : Good3 (G := G) (c := c) X W e ce) (hs : swapsWithSole [t] e pos.line X.env = pure false) (hw : swappedStores [t] e X.env = pure none) (h1 : (assignEach [t] X.env).map (·.2) = [assign t X.env]) : PS X (.Assign [t] e pos) (tS G c W (.set tg ce)) :=
  PS.imp (ps_asg h.ex hg hs hw h1) fun D σ H q => set_t q
/-- a, b = x, y -/
theorem s_par {x y : Str} {i j : Nat} {a b : Expr} {ca cb : CE} {px py pt : Pos} {kt k2 : Nat} {pt2 pos : Pos} (hc : X.calm = true) (hN : X.N.Nodup) (hi : X.N[i]? = some x) (hj : X.N[j]? = some y) (hij : i ≠ j)
    (hx : X.env.scope.names.lookup x = some .local) (hy : X.env.scope.names.lookup y = some .local) (ha : PA X [a, b] (tA G c W (.cons ca (.cons cb .nil))))
    (hw : swappedStores [.Tuple [.Name x px, .Name y py] kt pt] (.Tuple [a, b] k2 pt2) X.env = pure (some [x, y])) (hs : swapsWithSole [.Tuple [.Name x px, .Name y py] kt pt] (.Tuple [a, b] k2 pt2) pos.line X.env = pure false) :
    PS X (.Assign [.Tuple [.Name x px, .Name y py] kt pt] (.Tuple [a, b] k2 pt2) pos) (tS G c W (.set (.t (.cons (.n i) (.cons (.n j) .nil))) (.tup (.cons ca (.cons cb .nil))))) :=
  PS.imp (ps_par hc hN hi hj hij hx hy ha hw hs) fun D σ H ⟨F, nv, S, q⟩ => by
    have q := Pst.bind (r := ev G.T G.call (.tup (.cons ca (.cons cb .nil))) nv) q
    refine ⟨F, nv, S, (Pst.bind (r := evs G.T G.call (.cons ca (.cons cb .nil)) nv) q).mono (Ex.refl F) fun r hr q vs F1 H1 e1 S1 rs => ?_⟩
    have hl := evs_len hr
    obtain ⟨ds, n1⟩ := r
    match ds, hl, q, rs with
    | [d1, d2], _, q, rs =>
      obtain ⟨n3, h3, q⟩ := Pst.nx (noex_asg _ _ _ _) q
      obtain ⟨m1, g1, h3⟩ := bind_ok (show (put n1 i d1 false).bind (fun m1 => (put m1 j d2 false).bind fun m2 => .ok m2) = R.ok n3 from h3)
      obtain ⟨m2, g2, h3⟩ := bind_ok h3
      cases h3
      cases rs with
      | cons r1 rs =>
        cases rs with
        | cons r2 rs =>
          cases rs
          have T1 := S1.put (ow := false) (show VR G.K c F1 H1 σ n1 _ d1 false from r1) g1
          have T2 := T1.put (ow := false) (show VR G.K c F1 H1 _ m1 _ d2 false from r2) g2
          exact ⟨_, _, rfl, q _ F1 H1 e1 T2⟩
/-- name = [..] -/
theorem s_setLc {i : Nat} {y : Str} {py : Pos} {elt tg iter : Expr} {ifs : List Expr} {scope : Scope} {own : List (Str × Nat)} {pos spos : Pos} {ci : CI} {tgc : Tg} {ct ce : CE} (hc : X.calm = true) (hN : X.N.Nodup) (hy : X.N[i]? = some y) (hyl : X.env.scope.names.lookup y = some .local)
    (hsw : swapsWith (.ListComp elt [⟨tg, iter, ifs, 0⟩] scope pos) (some (.Name y py)) spos.line X.env = pure true) (hi : PI X tg iter (tI G c W ci)) (ok : BlkOk X.N X.env.scope scope own)
    (hg : ∀ (s : Shared) (H : Hp) (C : Addr) (cl : List (Str × Addr)) (fp : List Addr), PG (X.blk s H scope (compEnvC scope cl C X.env) fp) tg (uG G tgc)) (ht : ∀ (s : Shared) (H : Hp) (C : Addr) (cl : List (Str × Addr)) (fp : List Addr), PTs (X.blk s H scope (compEnvC scope cl C X.env) fp) ifs (uT G W0 ct))
    (he : ∀ (s : Shared) (H : Hp) (C : Addr) (cl : List (Str × Addr)) (fp : List Addr), PE (X.blk s H scope (compEnvC scope cl C X.env) fp) elt (uE G W0 ce)) (hs : ∀ x, foldedSetIterable iter X.env x = pure x) (hall : tgAll (fun i => (own.map (·.2)).contains i) tgc = true) :
    PS X (.Assign [.Name y py] (.ListComp elt [⟨tg, iter, ifs, 0⟩] scope pos) spos) (tS G c W (.set (.n i) (.lc (own.map (·.2)) tgc ci ct ce))) :=
  PS.imp (ps_setLc hc hN hy hyl hsw hi ok hg ht he hs) fun D σ H q => by
    have z : tE G c W (.lc (own.map (·.2)) tgc ci ct ce) σ H fun x H1 => tG G c (.n i) x σ H1 D.nx := set_t q
    refine lc_t hall ?_
    obtain ⟨F, nv, S, z⟩ := z
    refine ⟨F, nv, S, z.mono (Ex.refl F) fun r _ z v F1 H1 e1 S1 vr => ?_⟩
    obtain ⟨F2, n2, d, ow, n3, S2, r2, h2, k⟩ := z v F1 H1 e1 S1 vr
    exact k _ (fun vs hv => wipe_set (List.contains_iff_mem.mp hv)) (S2.put r2 h2)
/-! ### loops -/
theorem s_while {t : Expr} {b : List Stmt} {ct : CE} {cb : CSs} {pos : Pos} (hp : PassesOwn (model X.prog X.w) X.A X.env X.xe) (ht : Good3 (G := G) (c := c) X W t ct) (hb : PSs X b (tSs G c W cb)) : PS X (.While t b [] pos) (tS G c W (.whl ct cb)) :=
  PS.imp (ps_while hp ht.ts hb) fun D σ H ⟨F, nv, S, q⟩ => by
    refine ⟨fun m σ H => ∃ F nv, Sat G.K c F H σ nv ∧ Pst G c F W (whR (evT G.T G.call ct) (exs G.T G.call G.sub G.W cb) m nv) (EndR G c D F), ⟨G.W + fuel nv, F, nv, S, q⟩, fun m σ H ⟨F, nv, S, q⟩ => ?_⟩
    cases m with
    | zero => exact q.elim
    | succ m =>
      refine ⟨F, nv, S, (Pst.bind (r := evT G.T G.call ct nv) q).mono (Ex.refl F) fun r _ q F1 H1 e1 S1 => ?_⟩
      obtain ⟨k, n1⟩ := r
      cases k with
      | false => exact (show EndR G c D F (.nx, n1) from q) σ F1 H1 e1 S1
      | true =>
        refine ⟨fun σ H => ∃ F nv, Sat G.K c F H σ nv ∧ Pst G c F W (whR (evT G.T G.call ct) (exs G.T G.call G.sub G.W cb) m nv) (EndR G c D F), fun σ' H' z => ⟨m, Nat.lt_succ_self m, z⟩, F1, n1, S1, ?_⟩
        refine (Pst.bind (r := exs G.T G.call G.sub G.W cb n1) (show Pst G c F W ((exs G.T G.call G.sub G.W cb n1).bind _) _ from q)).mono e1 fun r2 _ q => ?_
        obtain ⟨fl, n2⟩ := r2
        cases fl with
        | nx => exact fun σ' F' H' e' S' => ⟨F', n2, S', Pst.end_ q (e1.trans e')⟩
        | ct => exact fun σ' F' H' e' S' => ⟨F', n2, S', Pst.end_ q (e1.trans e')⟩
        | br => exact fun σ' F' H' e' S' => (show EndR G c D F (.nx, n2) from q) σ' F' H' (e1.trans e') S'
        | rt d ow => exact fun v σ' F' H' e' S' vr => (show EndR G c D F (.rt d ow, n2) from q) v σ' F' H' (e1.trans e') S' vr
theorem s_for {tg it : Expr} {b : List Stmt} {tgc : Tg} {ci : CI} {cb : CSs} {pos : Pos} (hp : PassesOwn (model X.prog X.w) X.A X.env X.xe) (hc : X.calm = true) (hi : PI X tg it (tI G c W ci)) (hg : PG X tg (tG G c tgc)) (hb : PSs X b (tSs G c W cb))
    (hs : ∀ x, foldedSetIterable it X.env x = pure x) : PS X (.For tg it b [] pos) (tS G c W (.for tgc ci cb)) :=
  PS.imp (ps_for hp hc hi hg hb hs) fun D σ H ⟨F, nv, S, q⟩ => by
    refine ⟨F, nv, S, (Pst.bind (r := evI G.T G.call ci nv) q).mono (Ex.refl F) fun r _ q J F1 H1 e1 S1 ir => ?_⟩
    generalize hbd : (fun (d : PyData) (n : Nv) => (asg tgc d false n).bind fun n1 => exs G.T G.call G.sub G.W cb n1) = bd at q
    refine ⟨fun i m σ H => m = r.1.length - i ∧ i ≤ r.1.length ∧ ∃ F2 nv, Ex F1 F2 ∧ Sat G.K c F2 H σ nv ∧ Pst G c F2 W (foR bd (r.1.drop i) nv) (EndR G c D F2), ⟨r.1.length, rfl, Nat.zero_le _, F1, r.2, Ex.refl F1, S1, Pst.end_ q e1⟩, ?_⟩
    rintro i m σ H ⟨rfl, hle, F2, nv, e2, S2, q⟩
    by_cases hlt : i < r.1.length
    · refine .inr ?_
      have hd : r.1[i]? = some r.1[i] := List.getElem?_eq_getElem hlt
      rw [List.drop_eq_getElem_cons hlt] at q
      obtain ⟨go, yl⟩ := ir.turn e2 S2 hd
      refine ⟨go, fun σ H => ∃ F2 nv, Ex F1 F2 ∧ Sat G.K c F2 H σ nv ∧ Pst G c F2 W (foR bd (r.1.drop (i + 1)) nv) (EndR G c D F2), fun σ' H' z => ⟨_, by omega, rfl, hlt, z⟩, fun x H3 y => ?_⟩
      obtain ⟨F3, e3, S3, r3⟩ := yl x H3 y
      have q := Pst.bind (r := bd r.1[i] nv) q
      rw [← hbd] at q
      obtain ⟨n1, h1, q⟩ := Pst.nx (noex_asg _ _ _ _) q
      refine ⟨F3, nv, r.1[i], false, n1, S3, r3, h1, fun σ2 _ S4 => ⟨F3, n1, S4, ?_⟩⟩
      refine q.mono e3 fun r2 _ q => ?_
      obtain ⟨fl, n2⟩ := r2
      cases fl with
      | nx => exact fun σ' F' H' e' S' => ⟨F', n2, (e2.trans e3).trans e', S', by rw [← hbd]; exact Pst.end_ q (e3.trans e')⟩
      | ct => exact fun σ' F' H' e' S' => ⟨F', n2, (e2.trans e3).trans e', S', by rw [← hbd]; exact Pst.end_ q (e3.trans e')⟩
      | br => exact fun σ' F' H' e' S' => (show EndR G c D F2 (.nx, n2) from q) σ' F' H' (e3.trans e') S'
      | rt d ow => exact fun v σ' F' H' e' S' vr => (show EndR G c D F2 (.rt d ow, n2) from q) v σ' F' H' (e3.trans e') S' vr
    · refine .inl ?_
      have ei : i = r.1.length := by omega
      subst ei
      rw [List.drop_length] at q
      exact ⟨ir.stop e2 S2, (show EndR G c D F2 (.nx, nv) from q) σ F2 H (Ex.refl F2) S2⟩
/-! ### changes -/
theorem alter_ok {nv : Nv} {i : Nat} {f : D → R D} {r : Nv} (h : alter nv i f = .ok r) : (∃ d e, nv[i]? = some (.own d) ∧ f d = .ok e ∧ r = nv.set i (.own e)) ∨ (∃ d e, nv[i]? = some (.io d) ∧ f d = .ok e ∧ r = nv.set i (.io e)) := by
  unfold alter at h
  split at h
  · rename_i d hd
    obtain ⟨e, he, h⟩ := bind_ok h
    cases h
    exact .inl ⟨d, e, hd, he, rfl⟩
  · rename_i d hd
    obtain ⟨e, he, h⟩ := bind_ok h
    cases h
    exact .inr ⟨d, e, hd, he, rfl⟩
  · cases h
/-- the object that a name holds, and what may stand there next -/
theorem Sat.alter {F H : Hp} {σ : L2.St} {nv r : Nv} {i : Nat} {f : D → R D} (S : Sat G.K c F H σ nv) (h : SF.alter nv i f = .ok r) : ∃ a o d e, σ[i]? = some (some (.ref a)) ∧ H a = some o ∧ HR G.K F o d ∧ f d = .ok e ∧ ∀ o', HR G.K F o' e → Sat G.K c F (upd H a o') σ r := by
  rcases alter_ok h with ⟨d, e, h1, h2, rfl⟩ | ⟨d, e, h1, h2, rfl⟩
  · obtain ⟨a, o, x1, x2, x3, x4, x5⟩ := S.slot i _ h1
    exact ⟨a, o, d, e, x1, x3, x4, h2, fun o' r => S.write (u := o) h1 rfl x1 r rfl (.inl ⟨d, rfl, e, rfl⟩)⟩
  · obtain ⟨a, o, x1, x2, x3, x4, x5⟩ := S.slot i _ h1
    exact ⟨a, o, d, e, x1, x3, x4, h2, fun o' r => S.write (u := o) h1 rfl x1 r rfl (.inr ⟨d, rfl, e, rfl⟩)⟩
theorem noex_alter {nv : Nv} {i : Nat} {f : D → R D} (h : ∀ d, NoEx (f d)) : NoEx (alter nv i f) := by
  unfold alter
  split
  · exact (h _).bind fun _ => NoEx.ok _
  · exact (h _).bind fun _ => NoEx.ok _
  · exact NoEx.no
theorem s_app {i : Nat} {x : Str} {a : Expr} {ca : CE} {p apos cpos pos : Pos} (hK : G.K = X.K) (hv : PE X (.Name x p) (tVar i)) (hs : noStar a = true) (hl : (apos.endLine == cpos.line) = true) (h : Good3 (G := G) (c := c) X W a ca) :
    PS X (.Expr (.Call (.Attribute (.Name x p) "append" apos) [a] [] cpos) pos) (tS G c W (.app i ca)) :=
  PS.imp (ps_expr (pe_bm (name := "append") F.plainAttrs_list F.slot_list_append F.type_list_append mt_append hv (pa_cons h.ex pa_nil (star_one hs)) rfl (by rw [star_one hs]; rfl) hl (star_one hs) plain_nil) rfl) fun D σ H ⟨F, nv, S, q⟩ => by
    obtain ⟨hla, q⟩ := Pst.if_ q
    have : ∃ b zs, σ[i]? = some (some (.ref b)) ∧ H b = some (.lst zs) := by
      unfold listAt at hla
      split at hla
      · rename_i l e
        obtain ⟨b, o, x1, x2, x3, x4, x5⟩ := S.slot i _ e
        cases x4
        exact ⟨b, _, x1, x3⟩
      · rename_i l e
        obtain ⟨b, o, x1, x2, x3, x4, x5⟩ := S.slot i _ e
        cases x4
        exact ⟨b, _, x1, x3⟩
      · cases hla
    obtain ⟨b, zs, hb, hz⟩ := this
    refine ⟨.ref b, hb, .inl ⟨rfl, zs, .inl (.inl hz)⟩, F, nv, S, (Pst.bind (r := ev G.T G.call ca nv) q).mono (Ex.refl F) fun r _ q v F1 H1 e1 S1 vr => ?_⟩
    obtain ⟨F2, e2, S2, r2⟩ := S1.shared vr
    obtain ⟨n2, h2, q⟩ := Pst.nx (noex_alter fun d => by cases d <;> first | exact NoEx.no | exact (NoEx.ok _).ite NoEx.no) q
    obtain ⟨b', o, d, e, g1, g2, g3, g4, g5⟩ := S2.alter h2
    rw [hb] at g1
    cases g1
    cases g3 with
    | dic _ => cases g4
    | lst ra =>
      obtain ⟨hlen, g4⟩ := if_ok g4
      cases g4
      refine ⟨b, _, v, rfl, rfl, g2, ?_, q σ F2 _ (e1.trans e2) (g5 _ (.lst (ra.append (.cons r2 .nil))))⟩
      rw [ra.length]
      exact Nat.lt_of_lt_of_le hlen lim_le
/-- o[i] = v of a list or a dict -/
def rSetA : TSet := fun o i v H Q => rSetL o i v H Q ∨ rSetD o i v H Q
theorem set_any (hu : X.A.units + 1 < cLine) : PSet X rSetA := by
  intro pins s σ H o i v ov iv u Q I ro ri rv h
  rcases h with h | h
  · exact set_list pins s σ H o i v ov iv u Q I ro ri rv h
  · exact set_dict hu pins s σ H o i v ov iv u Q I ro ri rv h
theorem s_put {i : Nat} {x : Str} {k e : Expr} {ck ce : CE} {p ps pos : Pos} (hu : X.A.units + 1 < cLine) (hv : PE X (.Name x p) (tVar i)) (hok : okE k = true) (hk : Good3 (G := G) (c := c) X W k ck) (h : Good3 (G := G) (c := c) X W e ce)
    (hs : swapsWithSole [.Subscript (.Name x p) k ps] e pos.line X.env = pure false) (hw : swappedStores [.Subscript (.Name x p) k ps] e X.env = pure none)
    (ha : ∀ v, assign (.Subscript (.Name x p) k ps) X.env v = (do
      let ov ← holding [v] (eval (.Name x p) X.env)
      let iv ← holding [v, ov] (eval k X.env)
      standAt ps
      holding [v, ov, iv] (setItem ov iv v)
      release [v, ov, iv] [])) : PS X (.Assign [.Subscript (.Name x p) k ps] e pos) (tS G c W (.put i ck ce)) :=
  PS.imp (ps_asg h.ex (pg_sub hv hk.ex (set_any hu) ha) hs hw rfl) fun D σ H ⟨F, nv, S, q⟩ => by
    obtain ⟨hh, q⟩ := Pst.if_ q
    obtain ⟨s0, hs0, hs1⟩ := holdsAt_some hh
    obtain ⟨b, o0, d0, x1, _⟩ := (S.slot i s0 hs0).obj hs1
    refine ⟨F, nv, S, (Pst.bind (r := ev G.T G.call ce nv) q).mono (Ex.refl F) fun r _ q v F1 H1 e1 S1 vr => ?_⟩
    obtain ⟨F2, e2, S2, r2⟩ := S1.shared vr
    refine ⟨.ref b, x1, F2, r.2.2, S2, (Pst.bind (r := ev G.T G.call ck r.2.2) q).mono (e1.trans e2) fun q2 _ q u F3 H3 e3 S3 vr3 => ?_⟩
    obtain ⟨F4, e4, S4, r4⟩ := S3.shared vr3
    have E := ((e1.trans e2).trans e3).trans e4
    have r2' := r2.up (e3.trans e4)
    obtain ⟨n2, h2, qq⟩ := Pst.nx (noex_alter fun d => by
      cases d <;> first | exact NoEx.no | skip
      · cases q2.1 <;> first | exact NoEx.no | exact (NoEx.of _).bind fun _ => NoEx.ok _
      · exact (NoEx.ok _).ite NoEx.no) q
    obtain ⟨b', o, d, e, g1, g2, g3, g4, g5⟩ := S4.alter h2
    rw [x1] at g1
    cases g1
    obtain ⟨kd, kow, nk⟩ := q2
    cases g3 with
    | lst ra =>
      cases kd <;> first | (cases g4; done) | skip
      obtain ⟨m, hm, g4⟩ := of_ok g4
      cases g4
      cases r4
      exact .inl ⟨b, _, _, m, rfl, rfl, g2, by rw [ra.length]; exact hm, qq σ F4 _ E (g5 _ (.lst (RpA.set r2' _ ra)))⟩
    | dic ra =>
      obtain ⟨hc, g4⟩ := if_ok g4
      cases g4
      rw [Bool.and_eq_true, decide_eq_true_eq] at hc
      obtain ⟨kk, ek⟩ := isKey_of hc.1
      have ek : kd = keyD kk := ek
      subst ek
      have eu := two_key r4
      subst eu
      refine .inr ⟨b, _, rfl, DPut.k g2 ?_, qq σ F4 _ E (g5 _ (.dic (ra.put kk r2')))⟩
      rw [RpK.length ra]
      exact Nat.lt_of_lt_of_le hc.2 lim_le
end
end SF

/-! Own error classes over ValueError whose __init__ says super().__init__(v) and keeps v in a field. -/
namespace PySem
namespace SFX
open PySem.W PySem.Calls PyProof.Rows PySem.HandSPX
def iA (fld : Str) (p1 p2 : Pos) : Arguments := { posonlyargs := [], args := [{ arg := "self", annotation := none, pos := p1 }, { arg := fld, annotation := none, pos := p2 }], vararg := none, kwonlyargs := [], kw_defaults := [], kwarg := none, defaults := [] }
structure Ps where
  (a b c d e f g h i j k : Pos)
def iB (fld : Str) (q : Ps) : List Stmt := [.Expr (.Call (.Attribute (.Call (.Name "super" q.a) [] [] q.b) "__init__" q.c) [.Name fld q.d] [] q.e) q.f, .Assign [.Attribute (.Name "self" q.g) fld q.h] (.Name fld q.i) q.j]
def iS (fld : Str) : Scope := { kind := .function, names := [(PySem.Str.ofString "self", .local), (fld, .local), (PySem.Str.ofString "__class__", .free), (PySem.Str.ofString "super", .globalImplicit)], isGenerator := false, isCoroutine := false, more := [] }
/-- what the written part says of the class at C whose __init__ stands at fI, written in the class at D -/
structure RTxt (P : Program) (K : Frag) (fld : Str) (C fI : Addr) : Prop where
  cls : ∃ nm q N bs bm sn sub ab col dd k0 k1 k2 k3 k5, K.lookup C = some (excClassObj nm q C N bs bm true sn sub ab col dd k0 k1 k2 k3 k5 "ValueError.__new__") ∧ refsVE bm = true
  sa : findIn K (.ref C) "__setattr__" = some (some (.builtin "object.__setattr__"))
  ga : findIn K (.ref C) "__getattribute__" = some (some (.builtin "BaseException.__getattribute__"))
  gg : findIn K (.ref C) "__getattr__" = some none
  noN : findIn K (.ref C) fld = some none
  iC : findIn K (.ref C) "__init__" = some (some (.ref fI))
  tC : typeIn K (.ref fI) = some (.type "function")
  kC : keepIn K (.ref C) = true
  exC : subIn K (.ref C) (.type "BaseException") = some true
  veC : subIn K (.ref C) (.type "ValueError") = some true
  tyC : typeIn K (.ref C) = some (.type "type")
  hdC : hasDictIn K C = true
  any : nsIn K cStatics "thirdparty.any" = some none
  sup : nsIn K mainGlobals "super" = some none
  top : (P.main.scope.names.lookup ("super" : Str)).isSome = false
  fn : ∃ (oc : Value) (od : Option Addr) (qual : Str) (doc pm : Value) (an : Option Addr) (cda cc D : Addr) (ct : Value) (osl : Array (Option Value)) (p1 p2 : Pos) (q : Ps),
    K.lookup fI = some ⟨oc, od, .func (ksFn "__init__" qual (iA fld p1 p2) (iB fld q) (iS fld) .none .none doc pm an (.ref cda) ct cc), osl⟩ ∧ codeIn K (.ref cda) qual = true ∧
    (∃ ccl cdd vs ccs file tf, K.lookup cda = some ⟨ccl, cdd, .fields vs, ccs⟩ ∧ vs[2]? = some (.str file tf) ∧ ((P.main.file : Str) == file) = true) ∧
    (q.c.endLine == q.e.line) = true ∧ (∃ cl cld csl, K.lookup cc = some ⟨cl, cld, .cell (some (.ref D)), csl⟩) ∧ (∃ cdD, clsIn K D = some cdD) ∧ mroIn K C (.ref D) = some true ∧ ks_superIn K C D "__init__" = some (some (.builtin "ValueError.__init__"))
/-- the field names that are met -/
def FldOk (fld : Str) : Prop := fld = ("reason" : Str) ∨ fld = ("at" : Str)
theorem one_size (v : Value) : [v].length ≤ sizeLine := by
  rw [sizeLine_eq]
  exact (by decide : 1 ≤ 16777216)
/-- the module's globals and the built-ins stand -/
structure Glob (h : Heap) (mg : Str → Option Value) : Prop where
  glob : h.Ns mainGlobals mg
  blt : ∃ mb, h.Ns builtinsNs mb ∧ ∀ x : Str, x ≠ ("__name__" : Str) → mb x = bootBuiltins x
theorem Glob.keeps {h h' : Heap} {mg : Str → Option Value} (G : Glob h mg) (k : ∀ b o, h.get? b = some o → h'.get? b = some o) : Glob h' mg := by
  obtain ⟨g, mb, b1, b2⟩ := G
  exact ⟨g.keeps k, mb, b1.keeps k, b2⟩
section
variable {prog : Program} {w : World} {A : Around} {E : Value → Shared → Prop} {h : Heap} {g : Array GenState} {d : Drawn} {t : Nat} {os : OsState}
variable {nm q : Str} {C N : Addr} {bs bm : List Value} {hdct : Bool} {sn : List Str} {sub : List Value} {ab : Bool} {col : Option Bool} {dd : Option Addr} {k0 k1 k2 k3 k5 : Option Value}
/-- the bound ValueError.__init__ is called: the args are laid anew -/
theorem call_mw {u e t0 : Addr} {rest : List Value} {Q : Value → Shared → Prop}
    (hC : h.get? C = some (excClassObj nm q C N bs bm hdct sn sub ab col dd k0 k1 k2 k3 k5 "ValueError.__new__")) (he : h.get? e = some (excO C t0)) (hu : h.get? u = some (kxs_mw "ValueError.__init__" e)) (hrest : rest.length ≤ sizeLine)
    (hq : ∀ h' t1, (∀ b o, b ≠ e → h.get? b = some o → h'.get? b = some o) → h'.get? e = some (excO C t1) → Q .none ⟨h', g, d, t, os⟩) :
    wpAny (model prog w) A (call (.ref u) rest) Q E ⟨h, g, d, t, os⟩ := by
  refine wpAny_call (codeAny_of_tree ?_)
  show wpAny _ A.in1 (callAny (.ref u) ⟨rest, []⟩) _ _ _
  simp only [callAny]
  refine wpAny_bind (wpAny_load hu ?_)
  simp only [kxs_mw, show (Value.type "method-wrapper" == Value.type "method" || Value.type "method-wrapper" == Value.type "builtin_function_or_method" || Value.type "method-wrapper" == Value.type "method-wrapper") = true by decide, if_true]
  refine W.KFB.if_so (by decide) ?_
  refine wpAny_bind (ESX.check_bound F.excBase_ValueError hC he rfl ?_)
  refine wpAny_bind (wpAny_pure (wpAny_pure ?_))
  refine ⟨Code.quiet_builtin _ (by decide +kernel), codeAny_builtin F.excBase_ValueError.initEntry ?_⟩
  rw [Around.under_plainId F.excBase_ValueError.init.plain _]
  wp_walk
  refine hq _ h.objs.size (fun b o hb ho => ?_) ?_
  · rw [Heap.get?_update_other _ _ (Ne.symm hb)]
    exact Heap.get?_push_of_some _ ho
  · rw [Heap.get?_update_self _ (Heap.get?_push_of_some _ he) rfl]
    rfl
end
theorem meth_call {M : Model} {A : Around} {c : Code} {E : Value → Shared → Prop} {s : Shared} {env : Env} {o e : Expr} {name : Str} {apos pos : Pos} {Q : Value → Shared → Prop} (hl : (apos.endLine == pos.line) = true) (he : starEach [e] env = [(false, eval e env)])
    (h : wpAt M A c (attributeBase o name env (eval o env)) (fun ov s₁ => ∀ pl, wpAny M A (getMethod ov name pl) (fun fx s₂ => wpAny M A (callWith pos fx.1 fx.2 (backTo pos (starEach [e] env)) []) Q E s₂) E s₁) E s) :
    wpAt M A c (eval (.Call (.Attribute o name apos) [e] [] pos) env) Q E s := by
  rw [arm_eval_Call]
  refine wpAt_bind (wpAt_mono h (fun ov s₁ h₁ => wpAt_of_wpAny (wpAny_bind (wpAny_standAt ?_))) fun _ _ x => x)
  have hform : methodCallForm (([e] : List Expr).length + ([] : List Keyword).length) (backTo pos (starEach [e] env)) (backToKw pos (keywordEach [] env)) = true := by rw [he]; rfl
  have hpos : methodCallPos true o env apos pos = pure pos := by unfold methodCallPos; simp [hl]
  unfold methodCall
  rw [hform]
  refine wpAny_bind (wpAny_holding (wpAny_mono (h₁ _) (fun fx s₂ h₂ => ?_) fun _ _ x => x))
  exact wpAny_bind (wpAny_of_eq hpos h₂)
/-- what __init__ leaves of a fresh exception at x -/
structure InitEnd (fld : Str) (h h' : Heap) (x C dx t1 : Addr) (v : Value) : Prop where
  keep : ∀ b o, b ≠ x → h.get? b = some o → h'.get? b = some o
  obj : h'.get? x = some { cls := .ref C, dict := some dx, data := .fields #[.ref t1, .none, .none, .none, .bool false, .none] }
  dbig : h.objs.size ≤ dx
  dne : dx ≠ x
  ns : h'.Ns1 dx (fun y => if y = fld then some v else none)
section
variable {prog : Program} {w : World} {A : Around} {E : Value → Shared → Prop} {R : Result → Shared → Prop} {s : Shared} {K : Frag} {mg : Str → Option Value} {C fI : Addr} {fld : Str}
theorem init_run (T : RTxt prog K fld C fI) (FO : FldOk fld) {x t0 : Addr} {v : Value} (X : K.In s.heap) (G : Glob s.heap mg) (hmg : mg "super" = none) (hlim : s.heap.NoLimit) (hx : s.heap.get? x = some (excO C t0)) (hnx : K.lookup x = none) (hroom : A.depth < recursionLimit)
    (hq : ∀ h' tk dx t1, InitEnd fld s.heap h' x C dx t1 v → R (.ok (.ret .none)) { s with heap := h', toks := tk }) :
    codeAny (model prog w) A (.call (.ref fI) ⟨[.ref x, v], []⟩) R s := by
  obtain ⟨oc, od, qual, doc, pm, an, cda, cc, D, ct, osl, p1, p2, q, ho, hcd, ⟨ccl, cdd, vs, ccs, file, tf, hcode, hvs, hfile⟩, hql, ⟨cl, cld, csl, hcell⟩, ⟨cdD, hD⟩, hsub, hsup⟩ := T.fn
  obtain ⟨nm, qn, N, bs, bm, sn, sub, ab, col, dd, k0, k1, k2, k3, k5, hC, hbm⟩ := T.cls
  have hcl : clsIn K C = some { name := nm, bases := bs, mro := .ref C :: bm, ns := N, qualname := qn, hasDict := true, slotNames := sn, subclasses := sub, abstract := ab, collection := col, hasDel := false } := by unfold clsIn; rw [hC] <;> rfl
  have lself : (iS fld).names.lookup ("self" : Str) = some .local := by rcases FO with rfl | rfl <;> rfl
  have lfld : (iS fld).names.lookup fld = some .local := by rcases FO with rfl | rfl <;> rfl
  have lcls : (iS fld).names.lookup ("__class__" : Str) = some .free := by rcases FO with rfl | rfl <;> rfl
  have lsup : (iS fld).names.lookup ("super" : Str) = some .globalImplicit := by rcases FO with rfl | rfl <;> rfl
  have dbg : (fld == ("__debug__" : Str)) = false := by rcases FO with rfl | rfl <;> decide
  have mself : ([(("self" : Str), Value.ref x), (fld, v)].reverse).lookup ("self" : Str) = some (.ref x) := by rcases FO with rfl | rfl <;> rfl
  have mfld : ([(("self" : Str), Value.ref x), (fld, v)].reverse).lookup fld = some v := by rcases FO with rfl | rfl <;> rfl
  refine ks_codeAny_call_defAt (fd := ksFn "__init__" qual (iA fld p1 p2) (iB fld q) (iS fld) .none .none doc pm an (.ref cda) ct cc) (body := iB fld q) (binds := [(("self" : Str), .ref x), (fld, v)]) hroom (X _ _ ho) rfl hlim (codeRec_of X hcd) rfl
    (BindsTo.of_eq ?_) ?_ ?_ (fun h₁ hn k => ?_)
  · rcases FO with rfl | rfl <;> first | rfl | with_unfolding_all rfl
  · intro y hy
    have hy : y ∈ (iS fld).names := hy
    have all : ((iS fld).names.all fun y => decide (y.2 ≠ .cell)) = true := by rcases FO with rfl | rfl <;> rfl
    exact of_decide_eq_true (List.all_eq_true.mp all y hy)
  · intro y hy
    simp only [List.mem_cons, List.not_mem_nil, or_false] at hy
    rcases hy with rfl | rfl
    · exact lself
    · exact lfld
  · obtain ⟨hp, ge, dr, tk, os⟩ := s
    have X₁ : K.In h₁ := X.keeps k
    have hx₁ := k _ _ hx
    have G₁ := G.keeps k
    obtain ⟨oD, hD1, hD2⟩ : ∃ oD, h₁.get? D = some oD ∧ oD.data = .cls cdD := by
      unfold clsIn at hD
      split at hD
      · rename_i c d cd' sl ho
        cases hD
        exact ⟨_, X₁ _ _ ho, rfl⟩
      · cases hD
    have I₁ : PySem.W.InstAt h₁ x (excO C t0) C none := ⟨hx₁, rfl, rfl, trivial⟩
    obtain ⟨mb, gb1, gb2⟩ := G₁.blt
    have xC : x ≠ C := fun z => by rw [z, hC] at hnx; cases hnx
    refine ks_wpAt_execs_cons (ks_wpAt_Expr_any (meth_call hql rfl ?_))
    refine ks_wpAt_super_base (env := ksEnv qual (iS fld) hp.objs.size fI (.ref cda) cc) lsup lcls (by decide) rfl (X₁ _ _ ho) rfl (by rfl) rfl (X₁ _ _ hcode) rfl hvs hfile T.top ?_
    refine ks_loadName_global rfl lsup (loadGlobal_builtin (env := ksEnv qual (iS fld) hp.objs.size fI (.ref cda) cc) G₁.glob hmg gb1 ((gb2 _ (by decide +kernel)).trans (by decide +kernel)) ⟨rfl, ?_⟩)
    refine wpAny_loadName_free rfl lcls rfl ⟨_, X₁ _ _ hcell, rfl⟩ ?_
    refine wpAny_loadName_local rfl lself hn mself ?_
    refine ks_wpAny_isType_cls hD1 hD2 ⟨rfl, ?_⟩
    refine ks_wpAny_call_super hD1 hD2 hx₁ rfl (fun c e => by cases e) (looks_mroIn X₁ hsub) (fun h₂ e2 k2 pl => ?_)
    have X₂ : K.In h₂ := X₁.keeps k2
    have hx₂ := k2 _ _ hx₁
    have I₂ : PySem.W.InstAt h₂ x (excO C t0) C none := ⟨hx₂, rfl, rfl, trivial⟩
    unfold ks_superIn at hsup
    rw [hcl] at hsup
    refine kxs_getMethod kxs_ValueError e2 (looks_opaque X₂ T.any) (l₀ := .ref C :: bm) (fun A Q E s k q => wpAny_bind ((looks_clsIn X₂ hcl) A _ E s k (wpAny_pure q))) rfl X₂ hsup (I₂.type.andThen (looks_subIn X₂ T.veC)) xC (by decide) ?_
    have k3 : ∀ b o, h₂.get? b = some o → (h₂.push (kxs_mw "ValueError.__init__" x)).get? b = some o := fun b o e => Heap.get?_push_of_some _ e
    have hu : (h₂.push (kxs_mw "ValueError.__init__" x)).get? h₂.objs.size = some (kxs_mw "ValueError.__init__" x) := Heap.get?_push_size _ rfl
    have hn₃ := (hn.keeps k2).keeps k3
    refine kxs_callWith (i := "ValueError.__init__") (x := x) (by rfl) (evalArgs_plain ?_)
    refine spliced_cons (wpAny_Name (wpAny_loadName_local rfl lfld hn₃ mfld (spliced_nil ⟨hu, ?_⟩)) dbg)
    refine call_mw (X₂.keeps k3 _ _ hC) (k3 _ _ hx₂) hu (one_size v) fun h₄ t1 k4 hx₄ => ?_
    have old : ∀ b o, b ≠ x → h₁.get? b = some o → h₄.get? b = some o := fun b o hb e => k4 b o hb (k3 b o (k2 b o e))
    have X₄ : K.In h₄ := fun a o e => old a o (fun z => by rw [z, hnx] at e; cases e) (X₁ a o e)
    have hn₄ : h₄.Ns hp.objs.size _ := hn.at fun o e => old _ _ (Nat.ne_of_gt (Heap.lt_size hx)) e
    refine wpAt_of_wpAny (wpAny_execs_cons (plainObj_wpAny_Assign_Attribute ?_))
    refine wpAny_Name (wpAny_loadName_local rfl lfld hn₄ mfld ?_) dbg
    refine wpAny_Name (wpAny_loadName_local rfl lself hn₄ mself ?_) (by decide)
    refine set_plain X₄ (ox := excO C t1) (od := none) ⟨hx₄, rfl, rfl, trivial⟩ T.sa ?_
    refine exc_osa X₄ hx₄ hcl (show refsVE (.ref C :: bm) = true from hbm) rfl T.noN fun h₅ tk₅ dx k₅ dn dne hx₅ hn₅ => ?_
    refine wpAny_execs_nil (hq h₅ _ dx t1 ⟨fun b o hb e => k₅ b o hb (old b o hb (k b o e)), hx₅, ?_, dne, hn₅⟩)
    have z1 : hp.objs.size < h₄.objs.size := hn₄.lt
    exact Nat.le_trans (Nat.le_of_lt z1) dn
/-- a made error -/
structure OwnMade (fld : Str) (h h' : Heap) (e C d : Addr) (v : Value) : Prop where
  keep : ∀ b o, h.get? b = some o → h'.get? b = some o
  new : h.objs.size ≤ e
  obj : ∃ oe vs, h'.get? e = some oe ∧ oe.cls = .ref C ∧ oe.dict = some d ∧ oe.data = .fields vs ∧ vs[1]? = some .none
  dbig : h.objs.size ≤ d
  dne : d ≠ e
  ns : h'.Ns1 d (fun y => if y = fld then some v else none)
theorem made (T : RTxt prog K fld C fI) (FO : FldOk fld) {v : Value} (X : K.In s.heap) (G : Glob s.heap mg) (hmg : mg "super" = none) (hlim : s.heap.NoLimit) (hroom : A.depth + 1 < recursionLimit)
    (hq : ∀ h' tk e d, OwnMade fld s.heap h' e C d v → R (.ok (.ret (.ref e))) { s with heap := h', toks := tk }) :
    codeAny (model prog w) A (.call (.ref C) ⟨[v], []⟩) R s := by
  obtain ⟨nm, q, N, bs, bm, sn, sub, ab, col, dd, k0, k1, k2, k3, k5, hC, hbm⟩ := T.cls
  obtain ⟨hp, g, dr, tk, os⟩ := s
  have k : ∀ b o, hp.get? b = some o → ((hp.push (kdv_tup [v])).push (excO C hp.objs.size)).get? b = some o := fun b o e => Heap.get?_push_of_some _ (Heap.get?_push_of_some _ e)
  have hget : ((hp.push (kdv_tup [v])).push (excO C hp.objs.size)).get? (hp.objs.size + 1) = some (excO C hp.objs.size) := by heap_get
  have hnx : K.lookup (hp.objs.size + 1) = none := by
    cases e : K.lookup (hp.objs.size + 1) with
    | none => rfl
    | some o => exact absurd (Nat.lt_of_succ_lt (Heap.lt_size (show hp.get? (hp.objs.size + 1) = some o from X _ _ e))) (Nat.lt_irrefl _)
  refine call_own F.excBase_ValueError (fun X => refsVE_contains X bm hbm) (X _ _ hC) (looks_findIn X T.iC) (fun self => bind_fn X self T.tC) (one_size v) ?_
  refine init_run (s := ⟨(hp.push (kdv_tup [v])).push (excO C hp.objs.size), g, dr, tk, os⟩) T FO (X.keeps k) (G.keeps k) hmg (hlim.keeps k) hget hnx (show A.depth + 1 < recursionLimit from hroom) fun h' tk' dx t1 ⟨k', hx, dn, dne, hns⟩ => ?_
  have old : ∀ b o, hp.get? b = some o → h'.get? b = some o := fun b o e => k' b o (Nat.ne_of_lt (Nat.lt_succ_of_lt (Heap.lt_size e))) (k b o e)
  have z : hp.objs.size + 1 + 1 ≤ dx := by
    have q := dn
    first
      | (simpa only [Heap.size_push] using q)
      | exact q
      | (rw [Heap.size_push, Heap.size_push] at q; exact q)
  exact ⟨rfl, hq h' tk' (hp.objs.size + 1) dx ⟨old, Nat.le_succ _, ⟨_, _, hx, rfl, rfl, rfl, rfl⟩, Nat.le_trans (Nat.le_trans (Nat.le_succ _) (Nat.le_succ _)) z, dne, hns⟩⟩
end
end SFX
end PySem

/-! raise, and try with clauses that hand something back. -/
namespace SF
open PySem PySem.Spec PyProof.Rows L2
open Evl (Ex)
theorem relO_fld {fld : Str} {v : V} {v' : Value} (r : RelV v v') (f : Str) : RelO (List.lookup f [(fld, v)]) (if f = fld then some v' else none) := by
  by_cases hw : f = fld
  · subst hw
    rw [if_pos rfl, show List.lookup f [(f, v)] = some v by simp [List.lookup]]
    exact r
  · rw [if_neg hw, show List.lookup f [(fld, v)] = none by simp [List.lookup, show (f == fld) = false by simpa using hw]]
    trivial
/-- where the classes stand, and their fields -/
def exR (K : PySem.W.Frag) (cl : List (Addr × Str)) : Hp → Hp → Nat → List D → Value → Option Addr → Prop := fun F H k ds cls d =>
  ∃ C fld dx v dv, cl[k]? = some (C, fld) ∧ cls = .ref C ∧ d = some dx ∧ H dx = some (.xd [(fld, v)]) ∧ ds = [dv] ∧ Rp K F v dv
section
variable {X : Cx} {C fI : Addr} {fld : Str}
/-- C(e) -/
def tMk (fld : Str) (C : Addr) (ta : TA) : L2.St → Hp → XK → Prop := fun σ H Q => ta σ H fun vs H1 => ∃ v, vs = [v] ∧ ∀ d, H1 d = none → Q (.ref C) (some d) (upd H1 d (.xd [(fld, v)]))
theorem pmk_own2 {a : Expr} {ta : TA} {x : Str} {p pos : Pos} {k : Nat} (T : PySem.SFX.RTxt X.prog X.K fld C fI) (FO : PySem.SFX.FldOk fld) (hsup : X.mg "super" = none) (hr : Room k X.A) (gC : X.mg x = some (.ref C)) (ha : PA X [a] ta) (hg : Gl X x) (hdb : (x == ("__debug__" : Str)) = false)
    (he : starEach (a :: []) X.env = (false, eval a X.env) :: starEach [] X.env) : PMk X (.Call (.Name x p) [a] [] pos) (tMk fld C ta) := by
  intro pins s σ H Q I h
  refine wpAny_Call_Name_kw (ld_glob I hg gC ?_ hdb)
  refine PySem.W.callWith_K (h₀ := X.base) I.ok.mod.kin T.kC (thn (ha.run pos pins s σ H _ I h) fun us s1 hh => ?_) he rfl
  obtain ⟨vs, H1, I1, r1, v, rfl, q1⟩ := hh
  refine ⟨I1.kIn, ?_⟩
  cases r1 with
  | cons rv rn =>
    rename_i v' us'
    cases rn
    show wpAny _ _ (call (.ref C) [v']) _ _ _
    have hlim := I1.nolimit
    have gl : PySem.SFX.Glob s1.heap X.mg := ⟨I1.mod.glob.keeps I1.bk, by obtain ⟨mb, h1, h2⟩ := I1.mod.blt; exact ⟨mb, h1.keeps I1.bk, h2⟩⟩
    obtain ⟨hp, g, dr, tk, os⟩ := s1
    refine wpAny_call (PySem.SFX.made T FO I1.kIn gl hsup hlim (by have := hr.dp; omega) fun h' tk' e d M => ?_)
    show MkP X pins σ Q (.ref e) ⟨h', g, dr, tk', os⟩
    obtain ⟨oe, fv, hoe, hc, hd, hdat, h1⟩ := M.obj
    have hns := M.ns
    obtain ⟨G', g1, g2⟩ := restrict h' fun b => decide (b ≠ e)
    have gk : ∀ b, b ≠ e → G'.get? b = h'.get? b := fun b hb => g1 b (decide_eq_true hb)
    have ge : G'.get? e = none := g2 e (by simp)
    have old : ∀ b o, hp.get? b = some o → G'.get? b = some o := fun b o q => (gk b (Nat.ne_of_lt (Nat.lt_of_lt_of_le (Heap.lt_size q) M.new))).trans (M.keep b o q)
    have ob : ObjOk X.prog X.w (upd H1 d (.xd [(fld, v)])) G' d (.xd [(fld, v)]) := ⟨_, hns.at (fun o q => (gk d M.dne).trans q), fun f => relO_fld rv f⟩
    have J : Inv X pins σ (upd H1 d (.xd [(fld, v)])) ⟨G', g, dr, tk', os⟩ := I1.laid (t' := tk') old M.dbig ob
    refine ⟨e, oe, fv, ⟨G', g, dr, tk', os⟩, _, .ref C, some d, rfl, J, fun b o q => ?_, ge, hoe, ⟨hc, hd⟩, hdat, h1, ?_, rfl, I1.bare, raises_own T.exC T.tyC, q1 d (I1.hok.fresh M.dbig)⟩
    · by_cases hb : b = e
      · have q' : G'.get? b = some o := q
        rw [hb, ge] at q'
        cases q'
      · exact (gk b hb).symm.trans q
    · rw [upd_ne (Ne.symm M.dne)]
      exact I1.hok.fresh M.new
/-- e.fld, the error e that the suite holds -/
def tFld (fld : Str) (C a : Addr) (cls : Value) (d : Option Addr) (te : TE) : TE := fun σ H Q => te σ H fun x H1 => x = .ref a ∧ cls = .ref C ∧ ∃ (dd : Addr) (v : V), d = some dd ∧ H1 dd = some (.xd [(fld, v)]) ∧ Q v H1
theorem pe_fldX {a : Addr} {oe : Obj} {cls : Value} {d : Option Addr} {pn : List (Addr × Obj)} {e : Expr} {te : TE} {pos : Pos} (T : PySem.SFX.RTxt X.prog X.K fld C fI) (hz : Zc cls d oe) (hf : ∃ vs, oe.data = .fields vs) (he : PE (X.suite a ((a, oe) :: pn)) e te)
    (hb : attributeBase e fld X.env (eval e X.env) = eval e X.env) : PE (X.suite a ((a, oe) :: pn)) (.Attribute e fld pos) (tFld fld C a cls d te) := by
  refine ⟨fun pins s σ H Q I h => ?_⟩
  refine attr_of hb (thn (he.run pins s σ H _ I h) fun u s1 hh => ?_)
  obtain ⟨x, H1, I1, rx, ex, ec, dd, v, ed, ea, q⟩ := hh
  subst ex ec ed
  obtain rfl : u = Value.ref a := rx
  obtain ⟨ha, _⟩ := I1.pin (a, oe) (List.mem_append_left _ List.mem_cons_self)
  obtain ⟨vs, hd⟩ := hf
  have hx : ObjOk X.prog X.w H1 s1.heap dd (.xd [(fld, v)]) := I1.hok dd _ ea
  obtain ⟨mA, hns, hr⟩ := hx
  obtain ⟨od, ho, hl⟩ := lookIn_ns hns
  have l : List.lookup fld [(fld, v)] = some v := by simp [List.lookup]
  obtain ⟨u, hu, ru⟩ := RelO.some_of (v := v) (o := mA fld) (by rw [← l]; exact hr fld)
  have J : PySem.W.InstAt s1.heap a oe C (some od) := ⟨ha, hz.1, by unfold PySem.W.notCls; rw [hd] <;> rfl, by rw [hz.2]; exact ho⟩
  exact HandSPX.exc_get I1.kIn J T.ga T.gg T.exC (PySem.W.findObj_own T.hdC T.noN rfl (by rw [hl, hu])) (handed_of ru) ⟨v, H1, I1.tok _, ru, q⟩
end
/-! ### clauses -/
def wManyAs (K : PySem.W.Frag) (Wout : WX) (D : Ends) : List (Value × Nat × (Addr → Value → Option Addr → TS)) → WX
  | [] => Wout
  | (c, i, ts) :: r => fun cls d σ H => ∃ b, PySem.W.exmOne K cls c = some b ∧
      (b = true → i < σ.length → ∀ a, H a = none → ts a cls d { nx := fun σ' H' => D.nx (σ'.set i none) H', rt := D.rt, bk := fun σ' H' => D.bk (σ'.set i none) H', ct := fun σ' H' => D.ct (σ'.set i none) H' } (σ.set i (some (.ref a))) H) ∧ (b = false → wManyAs K Wout D r cls d σ H)
inductive HdsAs (X : Cx) : List ExceptHandler → List (Value × Nat × (Addr → Value → Option Addr → TS)) → Prop
  | nil : HdsAs X [] []
  | cons {x n : Str} {c : Value} {i : Nat} {ts : Addr → Value → Option Addr → TS} {b₀ : Stmt} {suite : List Stmt} {np pos' : Pos} {hds : List ExceptHandler} {l : List (Value × Nat × (Addr → Value → Option Addr → TS))} (hc : Names X x c) (hi : X.N[i]? = some n) (hln : X.env.kindOf n = some .local)
      (hsu : ∀ (a : Addr) (oe : Obj) (cls : Value) (d : Option Addr) (pn : List (Addr × Obj)), Zc cls d oe → (∃ vs, oe.data = .fields vs) → PSs (X.suite a ((a, oe) :: pn)) (b₀ :: suite) (ts a cls d)) (r : HdsAs X hds l) :
      HdsAs X (.ExceptHandler (some (.Name x np)) (some n) (b₀ :: suite) pos' :: hds) ((c, i, ts) :: l)
section
variable {X : Cx} {body : List Stmt} {h₀ : ExceptHandler} {hds : List ExceptHandler} {l : List (Value × Nat × (Addr → Value → Option Addr → TS))} {pos : Pos} {tb : WX → TS} {Wout : WX}
theorem ps_tryAs (hs : X.stack = X.env :: X.outer) (hf : X.env.frame = some X.env.locals) (hN : X.N.Nodup) (tk : Takes X Wout)
    (hb : ∀ (W : WX) (pn : List (Addr × Obj)) (xe : Value → Shared → Prop), Takes (X.tr pn xe) W → PassesOwn (model X.prog X.w) X.A X.env xe → PSs (X.tr pn xe) body (tb W))
    (hh : HdsAs X (h₀ :: hds) l) : PS X (.Try body (h₀ :: hds) [] [] pos) (fun D σ H => tb (wManyAs X.K Wout D l) D σ H) := by
  refine ⟨fun pins s σ H D I h => ?_⟩
  have ok := I.ok
  have hfr : X.A.frames = some (X.env :: X.outer) := by rw [ok.frames, hs]
  refine wpAny_Try_except (wpAny_mono ((hb (wManyAs X.K Wout D l) (X.pn ++ pins) (fun e s₁ => wpAny (model X.prog X.w) X.A (noteFrame e X.env) (fun _ s₂ => wpAny (model X.prog X.w) X.A (setFlight e none) (fun _ s₃ =>
    wpAny (model X.prog X.w) X.A (handleBy e X.env (h₀ :: hds)) (SP X pins D) X.xe s₃) X.xe s₂) X.xe s₁) (fun u s' xx => ?_) PassesOwn.looking).run [] s σ H D (I.toTry _) h) (fun f s1 hsp => ?_) (fun e s1 he => he))
  · obtain ⟨a, B, sI, pins', σ', H', cls, d, rfl, J', nb, up, sky, na, os, ag, w⟩ := xx
    have J : Inv X pins σ' H' sI := J'.ofTry ok
    have sky' : Sky B (X.env :: X.outer) a (Zc cls d) X.env.locals s'.heap := by rw [← hs]; exact sky
    show wpAny (model X.prog X.w) X.A (noteFrame (.ref a) X.env) _ _ _
    refine Sky.land Zc.steady hfr hf sky' fun h3 fl3 up3 => ?_
    have J3 : Inv X pins σ' H' { s' with heap := h3 } := J.landed nb fl3.1 (up.trans up3) os ag
    obtain ⟨oe3, vs3, he3, hz3, hd3⟩ := fl3.there
    have nfr : a ∉ frs (X.env :: X.outer) := fun hm => by
      obtain ⟨_, o', e', hnf⟩ := fl3.2.2.1.mem hm
      rw [he3] at e'
      cases e'
      exact hnf _ hd3
    have nL : a ≠ X.env.locals := fun z => nfr (List.mem_filterMap.mpr ⟨X.env, List.mem_cons_self, by rw [hf, z]⟩)
    have nF : a ∉ X.fs := fun hm => by
      obtain ⟨e, he, q⟩ := List.mem_filterMap.mp hm
      exact nfr (List.mem_filterMap.mpr ⟨e, List.mem_cons_of_mem _ he, q⟩)
    have S3 := J3.suite he3 hd3 na nL nF
    have slen : σ'.length = X.N.length := J3.len
    have go : ∀ {hds' : List ExceptHandler} {l' : List (Value × Nat × (Addr → Value → Option Addr → TS))}, HdsAs X hds' l' → wManyAs X.K Wout D l' cls d σ' H' →
        wpAny (model X.prog X.w) X.A (handleBy (.ref a) X.env hds') (SP X pins D) X.xe { s' with heap := h3 } := by
      intro hds' l' hk
      induction hk with
      | nil =>
        intro w
        refine wpAny_handleBy_nil ?_
        obtain ⟨k1, k2, k3, oe, vs, T, oT, ts', he, hz, hd, h1, hr⟩ := id fl3
        unfold PySem.passOn
        refine wpAny_bind (wpAny_field he hd h1 ?_)
        rw [if_neg (show ¬ ((Value.ref T == Value.none) = true) from by simp)]
        have fin : wpAny (model X.prog X.w) X.A (setFlight (.ref a) X.env.frame) (fun _ s4 => wpAny (model X.prog X.w) X.A (throw (.ref a) : Sem Flow) (SP X pins D) X.xe s4) X.xe { s' with heap := h3 } := by
          rw [hf]
          exact HandSPX.setFlight_upZ fl3 fun h4 hh4 up4 => wpAny_throw (tk _ _ ⟨a, B, sI, pins, σ', H', cls, d, rfl, J, nb, (up.trans up3).trans up4, .inr (.inr (by rw [hs]; exact hh4)), na, os, ag, w⟩)
        first
          | exact wpAny_bind (wpAny_pure (wpAny_bind fin))
          | exact wpAny_bind fin
      | @cons x n c i ts b₀ suite np pos' hds2 l2 hc hi hln hsu r ih =>
        intro w
        obtain ⟨b, hb1, hyes, hno⟩ := w
        refine wpAny_handleBy_cons (codeAny_handlers_test ?_) (by intro q; cases q)
        have LT : PySem.W.Looks (model X.prog X.w) h3 (typeOf (.ref a)) cls := fun A Q E s k q => wpAny_typeOf_ref (k _ _ he3) (by rw [hz3.1]; exact q)
        have LM := PySem.W.exm_one (M := model X.prog X.w) (J3.kIn) LT hb1
        have test : ∀ {Q : Value → Shared → Prop} {E : Value → Shared → Prop}, Q c { s' with heap := h3 } → wpAny (model X.prog X.w) (X.A.mark (some (.ref a))) (eval (.Name x np) X.env) Q E { s' with heap := h3 } := fun {Q E} q => by
          obtain ⟨hg, hdbg, hm | ⟨hm, hv, hnn⟩⟩ := hc
          · exact ld_glob (X := X.suite a ((a, oe3) :: (X.pn ++ pins))) S3 hg hm q hdbg
          · exact ld_blt (X := X.suite a ((a, oe3) :: (X.pn ++ pins))) S3 hg hm hv q hnn hdbg
        refine test (LM.here ?_)
        cases b with
        | true =>
          refine codeAny_handlers_suite_as (HandSPX.lands_againZ fl3 fun h4 fl4 up4 => ?_)
          have J4 : Inv X pins σ' H' { s' with heap := h4 } := J.landed nb fl4.1 ((up.trans up3).trans up4) os ag
          obtain ⟨oe4, vs4, he4, hz4, hd4⟩ := fl4.there
          have S4 := J4.suite he4 hd4 na nL nF
          refine store_ok (X := X.suite a ((a, oe4) :: (X.pn ++ pins))) (v := .ref a) S4 hN hi (.inl hln) rfl (fun s5 S5 => ?_) (.inr hln)
          have il : i < σ'.length := by rw [slen]; exact (List.getElem?_eq_some_iff.mp hi).1
          refine wpAny_mono ((hsu a oe4 cls d (X.pn ++ pins) hz4 ⟨_, hd4⟩).run [] s5 _ H' _ S5 (hyes rfl il a na)) (fun f s6 hsp => ?_) (fun _ _ z => False.elim z)
          have end_ : ∀ {σ6 : L2.St} {H6 : Hp} {Q : Shared → Prop}, Inv (X.suite a ((a, oe4) :: (X.pn ++ pins))) [] σ6 H6 s6 → (∀ s7, Inv X pins (σ6.set i none) H6 s7 → Q s7) →
              wpAny (model X.prog X.w) X.A (do bindName X.env n .none; unbindBehindTheSuite X.env n pos') (fun _ s7 => Q s7) X.xe s6 := fun {σ6 H6 Q} S6 hq => gone_ok (S6.unsuite ok) hN hi hln hq
          rcases f with _ | _ | _ | u
          all_goals first
            | (obtain ⟨σ6, H6, S6, q6⟩ := hsp; exact end_ S6 fun s7 J7 => ⟨_, _, J7, q6⟩)
            | (obtain ⟨v6, σ6, H6, S6, r6, q6⟩ := hsp; exact end_ S6 fun s7 J7 => ⟨_, _, _, J7, r6, q6⟩)
        | false =>
          show wpAny _ X.A (handleBy (.ref a) X.env hds2) _ _ _
          exact ih (hno rfl)
    exact go hh w
  · rcases f with _ | _ | _ | u
    all_goals first
      | (obtain ⟨σ', H', J', q⟩ := hsp; exact wpAny_execs_nil ⟨σ', H', J'.ofTry ok, q⟩)
      | (obtain ⟨σ', H', J', q⟩ := hsp; exact ⟨σ', H', J'.ofTry ok, q⟩)
      | (obtain ⟨v, σ', H', J', r, q⟩ := hsp; exact ⟨v, σ', H', J'.ofTry ok, r, q⟩)
end
end SF

/-! The induction for statements. -/
namespace SF
open PySem PySem.Spec PyProof.Rows L2
open Evl (Ex)
structure Sok (G : Gd) (cc : CC) (X : Cx) (cl : List (Addr × Str)) : Prop where
  cok : Cok G cc X (fun _ => true)
  hp : PassesOwn (model X.prog X.w) X.A X.env X.xe
  hs : X.stack = X.env :: X.outer
  hf : X.env.frame = some X.env.locals
  hex : G.exr = exR G.K cl
  cls : ∀ (k : Nat) (C : Addr) (fld : Str), cl[k]? = some (C, fld) → ∃ fI, PySem.SFX.RTxt X.prog X.K fld C fI ∧ PySem.SFX.FldOk fld
  nam : ∀ (x : Str) (k : Nat), idxOf? x cc.exs = some k → ∃ C fld, cl[k]? = some (C, fld) ∧ X.mg x = some (.ref C)
  flds : ∀ (k : Nat) (C : Addr) (fld m : Str), cl[k]? = some (C, fld) → cc.flds[k]? = some m → fld = m
  exm : ∀ (k h : Nat) (C1 C2 : Addr) (f1 f2 : Str), cl[k]? = some (C1, f1) → cl[h]? = some (C2, f2) → PySem.W.exmOne X.K (.ref C1) (.ref C2) = some (G.sub k h) ∧ (G.sub k h = true → f1 = f2)
  sup : X.mg "super" = none
  room : ∃ k, Room k X.A
section
variable {G : Gd} {cc : CC} {X : Cx} {cl : List (Addr × Str)} {c : EC} {W : WX}
theorem Bs.sat {F H : Hp} {σ : L2.St} {nv : Nv} (b : Bs c F H) (hr : c.rs = []) (hl : nv.length = σ.length) (he : ∀ s ∈ nv, s = Slot.emp) : Sat G.K c F H σ nv := by
  have no : ∀ i a, ¬ Held nv σ i a := fun i a ⟨⟨s, h1, h2⟩, _⟩ => by
    rw [he s (List.mem_of_getElem? h1)] at h2
    cases h2
  refine ⟨b, hl, fun i s h => ?_, fun i j a h => absurd h (no i a), fun p hp => by rw [hr] at hp; cases hp⟩
  rw [he s (List.mem_of_getElem? h)]
  trivial
/-- the error that a suite holds, in slot i -/
def XSt (G : Gd) (c : EC) (cl : List (Addr × Str)) (m : Str) (cls : Value) (d : Option Addr) (a : Addr) (i : Nat) (σ : L2.St) (F H : Hp) (k : Nat) (ds : List D) : Prop :=
  Sat G.K c F H [] [] ∧ exR G.K cl F H k ds cls d ∧ σ[i]? = some (some (.ref a)) ∧ ∃ C, cl[k]? = some (C, m)
theorem XSt.share {m : Str} {cls : Value} {d : Option Addr} {a p : Addr} {o : HO} {i k : Nat} {σ : L2.St} {F H : Hp} {ds : List D} (x : XSt G c cl m cls d a i σ F H k ds) (hp : H p = none) : XSt G c cl m cls d a i σ (upd F p o) (upd H p o) k ds := by
  obtain ⟨S, ⟨C, fld, dx, v, dv, h1, h2, h3, h4, h5, h6⟩, y, z⟩ := x
  exact ⟨S.share hp, ⟨C, fld, dx, v, dv, h1, h2, h3, by rw [upd_ne (ne_of_none h4 hp)]; exact h4, h5, h6.up (ex_upd (Evl.fresh_back S.fh hp))⟩, y, z⟩
def tX (G : Gd) (c : EC) (cl : List (Addr × Str)) (m : Str) (cls : Value) (d : Option Addr) (a : Addr) (i : Nat) (h : Hx) : TE := fun σ H Q => ∃ F k ds e, XSt G c cl m cls d a i σ F H k ds ∧ hx ds h = some e ∧
  ∀ v F' H', Ex F F' → XSt G c cl m cls d a i σ F' H' k ds → Rp G.K F' v e → Q v H'
def tXs (G : Gd) (c : EC) (cl : List (Addr × Str)) (m : Str) (cls : Value) (d : Option Addr) (a : Addr) (i : Nat) (hs : List Hx) : TA := fun σ H Q => ∃ F k ds es, XSt G c cl m cls d a i σ F H k ds ∧ hx.hxs ds hs = some es ∧
  ∀ vs F' H', Ex F F' → XSt G c cl m cls d a i σ F' H' k ds → RpA G.K F' vs es → Q vs H'
theorem hx_k {ds : List D} {d : D} : hx ds (.k d) = some d := by rw [hx]
theorem hx_a {ds : List D} {j : Nat} : hx ds (.a j) = ds[j]? := by rw [hx]
theorem hx_t {ds : List D} {l : List Hx} : hx ds (.t l) = (hx.hxs ds l).map .tuple := by rw [hx]
theorem hxs_n {ds : List D} : hx.hxs ds [] = some [] := by rw [hx.hxs]
theorem hxs_c {ds : List D} {h : Hx} {l : List Hx} : hx.hxs ds (h :: l) = (hx ds h).bind fun d => (hx.hxs ds l).map (d :: ·) := by rw [hx.hxs]
theorem hx_ok (Sk : Sok G cc X cl) {y m : Str} {i : Nat} {a : Addr} {oe : Obj} {cls : Value} {d : Option Addr} {pn : List (Addr × Obj)} (hy : cc.slot y = some i) (hz : Zc cls d oe) (hf : ∃ vs, oe.data = .fields vs) (n : Nat) :
    (∀ (e : Expr) (h : Hx), cHx n y m e = some h → PE (X.suite a ((a, oe) :: pn)) e (tX G c cl m cls d a i h) ∧ noStar e = true) ∧
    (∀ (es : List Expr) (hs : List Hx), cHxs n y m es = some hs → PA (X.suite a ((a, oe) :: pn)) es (tXs G c cl m cls d a i hs) ∧ hs.length = es.length) := by
  induction n with
  | zero => exact ⟨fun e h q => (by cases q), fun e h q => (by cases q)⟩
  | succ n ih =>
    have kk : ∀ {e : Expr} {x : D} {v : V}, PE (X.suite a ((a, oe) :: pn)) e (tC v) → (∀ F, Rp G.K F v x) → PE (X.suite a ((a, oe) :: pn)) e (tX G c cl m cls d a i (.k x)) := fun {e x v} p r => PE.imp p fun σ H Q ⟨F, k, ds, e', st, he, q⟩ => by
      rw [hx_k] at he
      cases he
      exact q v F H (Ex.refl F) st (r F)
    refine ⟨fun e h q => ?_, fun es hs q => ?_⟩
    · cases e <;> first | (cases q; done) | skip
      case Constant k j p =>
        refine ⟨?_, rfl⟩
        cases k <;> first | (cases q; done) | skip
        · cases q; exact kk pe_non fun F => .non
        · cases q; exact kk pe_bl fun F => .bl _
        · cases q; exact kk pe_int fun F => .int _
        · cases q; exact kk pe_str fun F => .str _
      case Attribute o m' p =>
        cases o <;> first | (cases q; done) | skip
        case Name x p2 =>
          obtain ⟨⟨rfl, rfl⟩, qq⟩ := opt_if (show (if x = y ∧ m' = m then some (Hx.a 0) else none) = some h from q)
          cases qq
          obtain ⟨h1, h2, h3⟩ := Sk.cok.slot hy
          refine ⟨⟨fun pins s σ H Q I ⟨F, k, ds, e', st, he, q⟩ => ?_⟩, rfl⟩
          obtain ⟨S, ⟨C, fld, dx, v, dv, x1, x2, x3, x4, x5, x6⟩, hσ, C', hC'⟩ := id st
          rw [x1] at hC'
          cases hC'
          obtain ⟨fI, T, _⟩ := Sk.cls k C _ x1
          refine (pe_fldX (pos := p) T hz hf (pe_var (X := X.suite a ((a, oe) :: pn)) (pos := p2) h1 h2 (okName_dbg h3).1 (okName_dbg h3).2.1) rfl).run pins s σ H Q I ?_
          rw [hx_a, x5] at he
          cases he
          exact ⟨_, hσ, rfl, x2, dx, v, x3, x4, q v F H (Ex.refl F) st x6⟩
      case Tuple es k p =>
        obtain ⟨hl, q⟩ := opt_if (show (if es.length ≤ 1000 then (cHxs n y m es).map Hx.t else none) = some h from q)
        obtain ⟨hs, hq, rfl⟩ := opt_map q
        obtain ⟨h1, h2⟩ := ih.2 es hs hq
        refine ⟨PE.imp (pe_tup h1) fun σ H Q ⟨F, k, ds, e', st, he, q⟩ => ?_, rfl⟩
        rw [hx_t] at he
        obtain ⟨l, hl', rfl⟩ := opt_map he
        have len : ∀ {hs : List Hx} {l : List D}, hx.hxs ds hs = some l → l.length = hs.length := by
          intro hs
          induction hs with
          | nil => intro l h; rw [hxs_n] at h; cases h; rfl
          | cons b r ihh =>
            intro l h
            rw [hxs_c] at h
            obtain ⟨_, _, h⟩ := opt_bind h
            obtain ⟨l2, h2, rfl⟩ := opt_map h
            rw [List.length_cons, List.length_cons, ihh h2]
        refine ⟨F, k, ds, l, st, hl', fun vs F' H' e st' rs => ⟨?_, fun p hp => ?_⟩⟩
        · have h10 : (1000 : Nat) ≤ sizeLine := by rw [sizeLine_eq]; decide
          rw [rs.length, len hl', h2]
          omega
        · have hF : F' p = none := Evl.fresh_back st'.1.fh hp
          exact q _ _ _ (e.trans (ex_upd hF)) (st'.share hp) (.tup (.inl (.inl upd_same)) (rs.up (ex_upd hF)))
    · cases es with
      | nil =>
        cases q
        refine ⟨PA.imp pa_nil fun σ H Q ⟨F, k, ds, es, st, he, q⟩ => ?_, rfl⟩
        rw [hxs_n] at he
        cases he
        exact q [] F H (Ex.refl F) st .nil
      | cons e es =>
        obtain ⟨b, hb, q⟩ := opt_bind (show (cHx n y m e).bind (fun a => (cHxs n y m es).map fun l => a :: l) = some hs from q)
        obtain ⟨l, hl, rfl⟩ := opt_map q
        obtain ⟨h1, h3⟩ := ih.1 e b hb
        obtain ⟨h2, h4⟩ := ih.2 es l hl
        refine ⟨PA.imp (pa_cons h1 h2 (star_one h3)) fun σ H Q ⟨F, k, ds, es', st, he, q⟩ => ?_, by rw [List.length_cons, List.length_cons, h4]⟩
        rw [hxs_c] at he
        obtain ⟨d1, g1, he⟩ := opt_bind he
        obtain ⟨l1, g2, rfl⟩ := opt_map he
        refine ⟨F, k, ds, d1, st, g1, fun v F1 H1 e1 st1 r1 => ⟨F1, k, ds, l1, st1, g2, fun vs F2 H2 e2 st2 r2 => q _ F2 H2 (e1.trans e2) st2 (.cons (r1.up e2) r2)⟩⟩
theorem exR.bs {F H : Hp} {k : Nat} {C : Addr} {fld : Str} {d : Addr} {v : V} {dv : D} (h1 : cl[k]? = some (C, fld)) (r : Rp G.K F v dv) : exR G.K cl F (upd H d (.xd [(fld, v)])) k [dv] (.ref C) (some d) := ⟨C, fld, d, v, dv, h1, rfl, rfl, upd_same, rfl, r⟩
theorem s_raise {x : Str} {k : Nat} {a : Expr} {ces : CEs} {p pos pos2 : Pos} (Sk : Sok G cc X cl) (tk : Takes X W) (hg : cc.gl x = true) (hk : idxOf? x cc.exs = some k) (hs : noStar a = true) (hl : ces.len = 1) (ha : PA X [a] (tA G c W ces)) :
    PS X (.Raise (some (.Call (.Name x p) [a] [] pos)) none pos2) (tS G c W (.raise k ces)) := by
  obtain ⟨C, fld, h1, h2⟩ := Sk.nam x k hk
  obtain ⟨fI, T, FO⟩ := Sk.cls k C fld h1
  obtain ⟨kr, hr⟩ := Sk.room
  obtain ⟨g1, g2⟩ := Sk.cok.gl hg
  refine PS.imp (ps_raise Sk.cok.calm tk (pmk_own2 T FO Sk.sup hr h2 ha g1 (okName_dbg g2).1 (star_one hs))) fun D σ H ⟨F, nv, S, q⟩ => ?_
  refine ⟨F, nv, S, (Pst.bind (r := evs G.T G.call ces nv) q).mono (Ex.refl F) fun r hr q vs F1 H1 e1 S1 rs => ?_⟩
  have hl2 := (evs_len hr).trans hl
  obtain ⟨ds, n1⟩ := r
  match ds, hl2, q, rs with
  | [dv], _, q, rs =>
    cases rs with
    | cons r1 rs =>
      cases rs
      refine ⟨_, rfl, fun d hd => ?_⟩
      have q : ∀ cls d σ F' H', Ex F F' → Bs c F' H' → G.exr F' H' k [dv] cls d → W cls d σ H' := q
      refine q _ _ σ F1 _ e1 (S1.fresh hd).toBs ?_
      rw [Sk.hex]
      exact exR.bs h1 r1
/-- a clause's suite -/
def tsX (G : Gd) (c : EC) (cl : List (Addr × Str)) (m : Str) (i : Nat) (h : Hx) (a : Addr) (cls : Value) (d : Option Addr) : TS := tRet (tX G c cl m cls d a i h)
def lOf (G : Gd) (c : EC) (cl : List (Addr × Str)) : List (Nat × Str × Nat × Hx) → List (Value × Nat × (Addr → Value → Option Addr → TS))
  | [] => []
  | (k, m, i, h) :: r => (((cl[k]?).elim Value.none fun q => .ref q.1), i, tsX G c cl m i h) :: lOf G c cl r
theorem clauses (Sk : Sok G cc X cl) (c : EC) : ∀ (n : Nat) (hs : List ExceptHandler) (chs : List (Nat × Hx)), cHs n cc hs = some chs → ∃ l : List (Nat × Str × Nat × Hx), HdsAs X hs (lOf G c cl l) ∧ l.map (fun q => (q.1, q.2.2.2)) = chs ∧ ∀ q ∈ l, ∃ C, cl[q.1]? = some (C, q.2.1)
  | 0, _, _, h => by cases h
  | n + 1, [], _, h => by cases h; exact ⟨[], .nil, rfl, fun q h => by cases h⟩
  | n + 1, hd :: hs, chs, h => by
    obtain ⟨ty, nm, suite, pos⟩ := hd
    cases ty with
    | none => cases h
    | some t =>
    cases t <;> first | (cases h; done) | skip
    case Name x p1 =>
    cases nm with
    | none => cases h
    | some y =>
    cases suite with
    | nil => cases h
    | cons s0 rest =>
    cases s0 <;> first | (cases h; done) | skip
    case Return v p2 =>
    cases v with
    | none => cases h
    | some e =>
    cases rest with
    | cons _ _ => cases h
    | nil =>
        obtain ⟨hg, h⟩ := opt_if (show (if (cc.gl x && (cc.loc y).isSome && (match cc.sc.names.lookup y with | some .local => true | _ => false)) = true then _ else none) = some chs from h)
        rw [Bool.and_eq_true, Bool.and_eq_true] at hg
        obtain ⟨k, hk, h⟩ := opt_bind h
        obtain ⟨m, hm, h⟩ := opt_bind h
        obtain ⟨hx', hh, h⟩ := opt_bind h
        obtain ⟨r, hr, rfl⟩ := opt_map h
        obtain ⟨l, l1, l2, l3⟩ := clauses Sk c n hs r hr
        obtain ⟨C, fld, c1, c2⟩ := Sk.nam x k hk
        have ef := Sk.flds k C fld m c1 hm
        subst ef
        obtain ⟨i, hi⟩ := Option.isSome_iff_exists.mp hg.1.2
        obtain ⟨n1, n2⟩ := Sk.cok.loc hi
        have hloc : cc.sc.names.lookup y = some .local := by
          have z := hg.2
          split at z
          · assumption
          · cases z
        have hln : X.env.kindOf y = some .local := by
          show X.env.scope.names.lookup y = some .local
          rw [Sk.cok.hsc]
          exact hloc
        have hsl : cc.slot y = some i := by
          obtain ⟨q1, q2⟩ := opt_if hi
          rw [Bool.and_eq_true] at q1
          show (if (cc.seen y && okName y) = true then idxOf? y cc.N else none) = some i
          rw [if_pos]
          · exact q2
          · rw [Bool.and_eq_true]
            exact ⟨by unfold CC.seen; rw [hloc], q1.2⟩
        obtain ⟨g1, g2⟩ := Sk.cok.gl hg.1.1
        refine ⟨(k, fld, i, hx') :: l, ?_, by rw [List.map_cons, l2], fun q hq => ?_⟩
        · show HdsAs X _ ((((cl[k]?).elim Value.none fun q => .ref q.1), i, tsX G c cl fld i hx') :: lOf G c cl l)
          rw [c1]
          exact .cons ⟨g1, (okName_dbg g2).1, .inl c2⟩ n1 hln (fun a oe cls d pn hz hf => pss_one (ps_ret ((hx_ok Sk hsl hz hf n).1 e hx' hh).1)) l1
        · rcases List.mem_cons.mp hq with rfl | hq
          · exact ⟨C, c1⟩
          · exact l3 q hq
end
end SF

/-! The induction for statements, joined. -/
namespace SF
open PySem PySem.Spec PyProof.Rows L2
open Evl (Ex)
section
variable {G : Gd} {cc : CC} {X : Cx} {cl : List (Addr × Str)} {c : EC} {W : WX}
theorem s_try {b : List Stmt} {h₀ : ExceptHandler} {hds : List ExceptHandler} {cb : CSs} {chs : List (Nat × Hx)} {pos : Pos} {n : Nat} (Sk : Sok G cc X cl) (tk : Takes X W) (hrs : c.rs = []) (hh : cHs n cc (h₀ :: hds) = some chs)
    (hb : ∀ (W' : WX) (pn : List (Addr × Obj)) (xe : Value → Shared → Prop), Takes (X.tr pn xe) W' → PassesOwn (model X.prog X.w) X.A X.env xe → PSs (X.tr pn xe) b (tSs G c W' cb)) : PS X (.Try b (h₀ :: hds) [] [] pos) (tS G c W (.try cb chs)) := by
  obtain ⟨l, l1, rfl, l3⟩ := clauses Sk c n _ _ hh
  refine PS.imp (ps_tryAs (tb := fun W' => tSs G c W' cb) (Wout := W) Sk.hs Sk.hf Sk.cok.nd tk hb l1) fun D σ H hq => ?_
  obtain ⟨F, nv, S, q0⟩ := hq
  refine ⟨F, nv, S, ?_⟩
  have q : Pst G c F W (match exs G.T G.call G.sub G.W cb nv with
      | .ex k ds => caught G.sub k ds nv (l.map fun q => (q.1, q.2.2.2))
      | r => r) (EndR G c D F) := q0
  clear q0
  cases hr : exs G.T G.call G.sub G.W cb nv with
  | ok r => rw [hr] at q; exact q
  | no => rw [hr] at q; exact q.elim
  | ex k ds =>
    rw [hr] at q
    intro cls d σ' F' H' e' b' x
    have q1 : Pst G c F W (caught G.sub k ds nv (l.map fun q => (q.1, q.2.2.2))) (EndR G c D F) := q
    clear l1 hr hh q
    induction l with
    | nil => exact q1 cls d σ' F' H' e' b' x
    | cons p r ih =>
      obtain ⟨h, m, i, hx'⟩ := p
      obtain ⟨C2, hC2⟩ := l3 _ List.mem_cons_self
      have x' := x
      rw [Sk.hex] at x'
      obtain ⟨C1, f1, dx, v, dv, x1, x2, x3, x4, x5, x6⟩ := id x'
      obtain ⟨e1, e2⟩ := Sk.exm k h C1 C2 f1 m x1 hC2
      have q : Pst G c F W (if G.sub k h = true then (R.of (hx ds hx')).bind fun d => .ok (.rt d false, nv.map fun _ => .emp) else caught G.sub k ds nv (r.map fun q => (q.1, q.2.2.2))) (EndR G c D F) := q1
      clear q1
      refine ⟨G.sub k h, ?_, fun hb il a na => ?_, fun hb => ?_⟩
      · rw [hC2, x2]
        exact e1
      · rw [if_pos hb] at q
        obtain ⟨e, he, q1⟩ := q.of
        have em := e2 hb
        subst em
        refine ⟨F', k, ds, e, ⟨Bs.sat b' hrs rfl (fun s hs => by cases hs), x', List.getElem?_set_self il, C1, x1⟩, he, fun v F2 H2 e3 st2 r2 => ?_⟩
        exact (show EndR G c D F (.rt e false, nv.map fun _ => .emp) from q1) v σ F2 H2 (e'.trans e3) (Bs.sat st2.1.toBs hrs (by rw [List.length_map]; exact S.len) (fun s hs => by obtain ⟨_, _, rfl⟩ := List.mem_map.mp hs; rfl)) r2
      · rw [if_neg (by rw [hb]; decide)] at q
        exact ih (fun q hq => l3 q (List.mem_cons_of_mem _ hq)) q
theorem Sok.tr (Sk : Sok G cc X cl) {pn : List (Addr × Obj)} {xe : Value → Shared → Prop} (hp : PassesOwn (model X.prog X.w) X.A X.env xe) : Sok G cc (X.tr pn xe) cl :=
  ⟨⟨Sk.cok.hK, Sk.cok.calm, Sk.cok.nd, Sk.cok.hN, Sk.cok.hsc, Sk.cok.un, Sk.cok.gd, Sk.cok.kind, Sk.cok.blt, Sk.cok.con, Sk.cok.fns, Sk.cok.np, Sk.cok.fnok⟩, hp, Sk.hs, Sk.hf, Sk.hex, Sk.cls, Sk.nam, Sk.flds, Sk.exm, Sk.sup, Sk.room⟩
theorem tgAll_true : ∀ (tg : Tg), tgAll (fun _ => true) tg = true
  | .n _ => rfl
  | .t l => tgsAll_true l
where tgsAll_true : ∀ l : Tgs, tgAll.tgsAll (fun _ => true) l = true
  | .nil => rfl
  | .cons a l => by
    show (tgAll (fun _ => true) a && tgAll.tgsAll (fun _ => true) l) = true
    rw [tgAll_true a, tgsAll_true l]
    rfl
structure SH (G : Gd) (cl : List (Addr × Str)) (n : Nat) : Prop where
  s : ∀ {cc : CC} {X : Cx} {W : WX} {s : Stmt} {cs : CS} {c : EC}, Sok G cc X cl → Takes X W → cS n cc s = some cs → c.rs = [] → PS X s (tS G c W cs)
  ss : ∀ {cc : CC} {X : Cx} {W : WX} {s : List Stmt} {cs : CSs} {c : EC}, Sok G cc X cl → Takes X W → cSs n cc s = some cs → c.rs = [] → PSs X s (tSs G c W cs)
theorem swN {x : Str} {p : Pos} {e : Expr} {env : Env} : swappedStores [.Name x p] e env = pure none := by cases e <;> rfl
theorem swT {ts : List Expr} {k : Nat} {p : Pos} {e : Expr} {env : Env} (h : ∀ vs k2 p2, e ≠ .Tuple vs k2 p2) : swappedStores [.Tuple ts k p] e env = pure none := by
  cases e <;> first | rfl | exact absurd rfl (h _ _ _)
theorem swS {o i : Expr} {p : Pos} {e : Expr} {env : Env} : swappedStores [.Subscript o i p] e env = pure none := by cases e <;> rfl
theorem soT {ts : List Expr} {k l : Nat} {p : Pos} {e : Expr} {env : Env} : swapsWithSole [.Tuple ts k p] e l env = pure false := by cases e <;> rfl
theorem soS {o i : Expr} {l : Nat} {p : Pos} {e : Expr} {env : Env} : swapsWithSole [.Subscript o i p] e l env = pure false := by cases e <;> rfl
/-- no comprehension -/
def noComp : Expr → Bool
  | .ListComp _ _ _ _ => false
  | .SetComp _ _ _ _ => false
  | .DictComp _ _ _ _ _ => false
  | _ => true
theorem soN {x : Str} {l : Nat} {p : Pos} {e : Expr} {env : Env} (h : noComp e = true) : swapsWithSole [.Name x p] e l env = pure false := by cases e <;> first | rfl | (cases h; done)
theorem swX {l : Nat} {e : Expr} {env : Env} (h : noComp e = true) : swapsWith e none l env = pure false := by cases e <;> first | rfl | (cases h; done)
theorem parSw {c : CC} {x y : Str} {a b : Expr} {px py pt pt2 : Pos} {kt k2 : Nat} {env : Env} (hk : env.scope.kind = .function) (hsc : env.scope = c.sc) (ha : noStar a = true) (hb : noStar b = true) (h : parOk c [.Name x px, .Name y py] [a, b] = true) :
    swappedStores [.Tuple [.Name x px, .Name y py] kt pt] (.Tuple [a, b] k2 pt2) env = pure (some [x, y]) ∧ env.scope.names.lookup x = some .local ∧ env.scope.names.lookup y = some .local ∧ x ≠ y := by
  unfold parOk at h
  simp only [Bool.and_eq_true, decide_eq_true_eq, Bool.not_eq_true', beq_iff_eq] at h
  obtain ⟨⟨⟨⟨⟨h1, h2⟩, h3⟩, h4⟩, h5⟩, h6⟩ := h
  have k1 : env.kindOf x = some .local := by show env.scope.names.lookup x = _; rw [hsc]; exact h1
  have k2' : env.kindOf y = some .local := by show env.scope.names.lookup y = _; rw [hsc]; exact h2
  have hne : x ≠ y := by simpa using h4
  refine ⟨?_, k1, k2', hne⟩
  have e5 : ([a, b].all (foldedForSure 8)) = false := by simpa [List.all_cons] using h5
  have e6 : ([a, b].all (constantsAlone 8)) = false := by simpa [List.all_cons] using h6
  have nm : ([Expr.Name x px, .Name y py].filterMap fun
    | .Name id pos => if env.kindOf id == some .local && pos.line == px.line then some id else none
    | _ => none) = [x, y] := by
    simp only [List.filterMap_cons, k1, k2', h3, beq_self_eq_true, Bool.and_self, if_true, List.filterMap_nil]
  have ed : [x, y].eraseDups = [x, y] := by
    simp [List.eraseDups_cons, hne, Ne.symm hne]
  unfold swappedStores
  simp only [Env.blockKind, hk]
  refine (if_neg ?_).trans ((if_neg ?_).trans ((if_neg ?_).trans ((if_neg ?_).trans ((if_neg ?_).trans ?_))))
  · simp [ScopeKind.isAnnotationScope]
  · intro z
    obtain ⟨e, he, hz⟩ := List.any_eq_true.mp z
    have ne : noStar e = true := by
      rcases List.mem_cons.mp he with rfl | he
      · exact ha
      · rcases List.mem_cons.mp he with rfl | he
        · exact hb
        · cases he
    cases e <;> first | (cases hz; done) | (cases ne; done)
  · refine fun z => ?_
    have z : ((([x, y] : List Str).length != 2) || (([x, y] : List Str).eraseDups.length != ([x, y] : List Str).length)) = true := by rw [← nm]; exact z
    rw [ed] at z
    simp at z
  · exact fun z => by rw [e5] at z; cases z
  · exact fun z => by rw [e6] at z; cases z
  · exact congrArg (fun l => (pure (some l) : Sem (Option (List Str)))) nm
theorem step_ss {n : Nat} (I : SH G cl n) {ss : List Stmt} {cs : CSs} (Sk : Sok G cc X cl) (tk : Takes X W) (h : cSs (n + 1) cc ss = some cs) (hrs : c.rs = []) : PSs X ss (tSs G c W cs) := by
  cases ss with
  | nil => cases h; exact s_nil
  | cons s ss =>
    obtain ⟨a, ha, h⟩ := opt_bind (show (cS n cc s).bind (fun a => (cSs n cc ss).map fun l => CSs.cons a l) = some cs from h)
    obtain ⟨l, hl, rfl⟩ := opt_map h
    exact s_cons (I.s Sk tk ha hrs) (I.ss Sk tk hl hrs)
theorem tupAsg {n : Nat} {ts : List Expr} {k1 : Nat} {p1 : Pos} {tg : Tg} (Sk : Sok G cc X cl) (h : cTg n cc (.Tuple ts k1 p1) = some tg) : PG X (.Tuple ts k1 p1) (tG G c tg) ∧ (assignEach [.Tuple ts k1 p1] X.env).map (·.2) = [assign (.Tuple ts k1 p1) X.env] :=
  ⟨(tgts n).1 Sk.cok h (tgAll_true tg) c, rfl⟩
theorem cTg_name {n : Nat} {x : Str} {p : Pos} {tg : Tg} (h : cTg n cc (.Name x p) = some tg) : ∃ i, cc.loc x = some i ∧ tg = .n i := by
  cases n with
  | zero => cases h
  | succ n =>
    obtain ⟨i, hi, rfl⟩ := opt_map (show (cc.loc x).map Tg.n = some tg from h)
    exact ⟨i, hi, rfl⟩
theorem cTgs_cons {n : Nat} {e : Expr} {es : List Expr} {l : Tgs} (h : cTgs n cc (e :: es) = some l) : ∃ m a r, cTg m cc e = some a ∧ cTgs m cc es = some r ∧ l = .cons a r := by
  cases n with
  | zero => cases h
  | succ n =>
    obtain ⟨a, ha, h⟩ := opt_bind (show (cTg n cc e).bind (fun a => (cTgs n cc es).map fun l => Tgs.cons a l) = some l from h)
    obtain ⟨r, hr, rfl⟩ := opt_map h
    exact ⟨n, a, r, ha, hr, rfl⟩
theorem cTg_two {n : Nat} {x y : Str} {px py p : Pos} {k : Nat} {tg : Tg} (h : cTg n cc (.Tuple [.Name x px, .Name y py] k p) = some tg) : ∃ i j, cc.loc x = some i ∧ cc.loc y = some j ∧ tg = .t (.cons (.n i) (.cons (.n j) .nil)) := by
  cases n with
  | zero => cases h
  | succ n =>
    obtain ⟨l, hl, rfl⟩ := opt_map (show (cTgs n cc [.Name x px, .Name y py]).map Tg.t = some tg from h)
    obtain ⟨m, a, r, h1, h2, rfl⟩ := cTgs_cons hl
    obtain ⟨m', b, r', h3, h4, rfl⟩ := cTgs_cons h2
    obtain ⟨i, hi, rfl⟩ := cTg_name h1
    obtain ⟨j, hj, rfl⟩ := cTg_name h3
    have : r' = .nil := by
      cases m' with
      | zero => cases h4
      | succ _ => cases h4; rfl
    subst this
    exact ⟨i, j, hi, hj, rfl⟩
theorem cEs_cons {n : Nat} {e : Expr} {es : List Expr} {l : CEs} (h : cEs n cc (e :: es) = some l) : ∃ m a r, cE m cc e = some a ∧ cEs m cc es = some r ∧ l = .cons a r := by
  cases n with
  | zero => cases h
  | succ n =>
    obtain ⟨a, ha, h⟩ := opt_bind (show (cE n cc e).bind (fun a => (cEs n cc es).map fun l => CEs.cons a l) = some l from h)
    obtain ⟨r, hr, rfl⟩ := opt_map h
    exact ⟨n, a, r, ha, hr, rfl⟩
theorem cE_two {n : Nat} {a b : Expr} {k : Nat} {p : Pos} {ce : CE} (h : cE n cc (.Tuple [a, b] k p) = some ce) : ∃ m ca cb, ce = .tup (.cons ca (.cons cb .nil)) ∧ cEs m cc [a, b] = some (.cons ca (.cons cb .nil)) := by
  cases n with
  | zero => cases h
  | succ n =>
    obtain ⟨_, h⟩ := opt_if (show (if ([a, b] : List Expr).length ≤ 1000 then (cEs n cc [a, b]).map CE.tup else none) = some ce from h)
    obtain ⟨l, hl, rfl⟩ := opt_map h
    obtain ⟨m, x, r, h1, h2, rfl⟩ := cEs_cons hl
    obtain ⟨m', y, r', h3, h4, rfl⟩ := cEs_cons h2
    have : r' = .nil := by
      cases m' with
      | zero => cases h4
      | succ _ => cases h4; rfl
    subst this
    exact ⟨n, x, y, rfl, hl⟩
theorem step_s {n : Nat} (I : SH G cl n) {s : Stmt} {cs : CS} (Sk : Sok G cc X cl) (tk : Takes X W) (h : cS (n + 1) cc s = some cs) (hrs : c.rs = []) : PS X s (tS G c W cs) := by
  have EX := exprs G n
  cases s <;> first | (cases h; done) | skip
  case Return v p =>
    cases v with
    | none => cases h; exact s_retN
    | some e =>
      have gen : (cE n cc e).map CS.ret = some cs → PS X (.Return (some e) p) (tS G c W cs) := fun h => by
        obtain ⟨a, ha, rfl⟩ := opt_map h
        exact s_ret (EX.e Sk.cok tk ha c)
      cases e <;> first | exact gen h | skip
      case Name x p2 =>
        cases hs : cc.slot x with
        | some i =>
          have h : (match cc.slot x with | some i => some (CS.mv i) | none => (cE n cc (.Name x p2)).map CS.ret) = some cs := h
          rw [hs] at h
          cases h
          obtain ⟨h1, h2, h3⟩ := Sk.cok.slot hs
          exact s_mv (pe_var h1 h2 (okName_dbg h3).1 (okName_dbg h3).2.1)
        | none =>
          have h : (match cc.slot x with | some i => some (CS.mv i) | none => (cE n cc (.Name x p2)).map CS.ret) = some cs := h
          rw [hs] at h
          exact gen h
  case Assign tgs e p =>
    match tgs, h with
    | [], h => cases h
    | _ :: _ :: _, h => cases h
    | [tg], h =>
      cases tg <;> first | (cases h; done) | skip
      case Subscript o k p2 =>
        cases o <;> first | (cases h; done) | skip
        case Name x p3 =>
          obtain ⟨i, hi, h⟩ := opt_bind (show (cc.slot x).bind (fun i => (cE n cc k).bind fun k => (cE n cc e).map fun e => CS.put i k e) = some cs from h)
          obtain ⟨ck, hk, h⟩ := opt_bind h
          obtain ⟨ce, he, rfl⟩ := opt_map h
          obtain ⟨h1, h2, h3⟩ := Sk.cok.slot hi
          have ok := okForm hk
          refine s_put (by have := Sk.cok.un; omega) (pe_var h1 h2 (okName_dbg h3).1 (okName_dbg h3).2.1) ok (EX.e Sk.cok tk hk c) (EX.e Sk.cok tk he c) soS swS fun v => ?_
          cases k <;> first | rfl | (cases ok; done)
      case Name x p2 =>
        have tgt : ∀ {tg : Tg}, cTg n cc (.Name x p2) = some tg → PG X (.Name x p2) (tG G c tg) := fun {tg} h => (tgts n).1 Sk.cok h (tgAll_true tg) c
        have gen : noComp e = true → (cTg n cc (.Name x p2)).bind (fun tg => (cE n cc e).map fun e => CS.set tg e) = some cs → PS X (.Assign [.Name x p2] e p) (tS G c W cs) := fun hc h => by
          obtain ⟨tg, ht, h⟩ := opt_bind h
          obtain ⟨ce, he, rfl⟩ := opt_map h
          exact s_set (tgt ht) (EX.e Sk.cok tk he c) (soN hc) swN rfl
        cases e <;> first | exact gen rfl h | (cases h; done) | skip
        case SetComp elt gs sc p3 _ =>
          obtain ⟨tg, ht, h⟩ := opt_bind (show (cTg n cc (.Name x p2)).bind (fun tg => (cE n cc (.SetComp elt gs sc p3)).map fun e => CS.set tg e) = some cs from h)
          obtain ⟨ce, he, rfl⟩ := opt_map h
          cases n with
          | zero => cases he
          | succ n => cases he
        case ListComp elt gs scope p3 _ =>
          obtain ⟨tg, ht, h⟩ := opt_bind (show (cTg n cc (.Name x p2)).bind (fun tg => (cE n cc (.ListComp elt gs scope p3)).map fun e => CS.set tg e) = some cs from h)
          obtain ⟨ce, he, rfl⟩ := opt_map h
          have sw : swapsWith (.ListComp elt gs scope p3) (some (.Name x p2)) p.line X.env = pure (X.env.blockKind == .function && X.env.kindOf x == some .local && p2.line == p3.line && !(scope.names.any fun (n, k) => n == x && (k == .local || k == .cell))) := rfl
          cases hb : (X.env.blockKind == .function && X.env.kindOf x == some .local && p2.line == p3.line && !(scope.names.any fun (n, k) => n == x && (k == .local || k == .cell))) with
          | false =>
            rw [hb] at sw
            exact s_set (tgt ht) (EX.e Sk.cok tk he c) sw swN rfl
          | true =>
            rw [hb] at sw
            have hl : X.env.scope.names.lookup x = some .local := by
              rw [Bool.and_eq_true, Bool.and_eq_true, Bool.and_eq_true] at hb
              exact eq_of_beq hb.1.1.2
            cases n with
            | zero => cases he
            | succ m =>
              obtain ⟨i, hi, rfl⟩ := opt_map (show (cc.loc x).map Tg.n = some tg from ht)
              obtain ⟨n1, n2⟩ := Sk.cok.loc hi
              have EY := exprs G m
              match gs, he with
              | [], h => cases h
              | [⟨tg, iter, ifs, .ofNat 0⟩], h =>
                obtain ⟨ok, h⟩ := opt_if (show (if blkC cc.N cc.sc scope (ownOf cc.N scope) = true then _ else none) = some ce from h)
                obtain ⟨ci, hi', h⟩ := opt_bind h
                obtain ⟨tg', ht', h⟩ := opt_bind h
                obtain ⟨ct, hc', h⟩ := opt_bind h
                obtain ⟨ce', he', h⟩ := opt_bind h
                obtain ⟨hall, h⟩ := opt_if h
                cases h
                obtain ⟨h1, h2⟩ := EY.i Sk.cok tk hi'
                exact s_setLc Sk.cok.calm Sk.cok.nd n1 hl sw (h1 c) (Sk.cok.blkOk ok)
                  (fun s H A cl fp => ⟨fun pins s' σ H' v u Q J r ⟨c', q⟩ => ((tgts m).1 (Sk.cok.blk ok s H cl A fp) ht' hall c').run pins s' σ H' v u Q J r q⟩)
                  (fun s H A cl fp => EY.iff (Sk.cok.blk ok s H cl A fp) takes_W0 hc') (fun s H A cl fp => pe_u fun c' => EY.e (Sk.cok.blk ok s H cl A fp) takes_W0 he' c') (fun x => okE.fold h2 x) hall
              | [⟨_, _, _, .ofNat (_ + 1)⟩], h => cases h
              | [⟨_, _, _, .negSucc _⟩], h => cases h
              | g :: _ :: _, h =>
                obtain ⟨_, _, _, k⟩ := g
                cases k with
                | ofNat m => cases m <;> cases h
                | negSucc m => cases h
      case Tuple ts k1 p1 =>
        have gen : (∀ vs k2 p2, e ≠ .Tuple vs k2 p2) → (cTg n cc (.Tuple ts k1 p1)).bind (fun tg => (cE n cc e).map fun e => CS.set tg e) = some cs → PS X (.Assign [.Tuple ts k1 p1] e p) (tS G c W cs) := fun hc h => by
          obtain ⟨tg, ht, h⟩ := opt_bind h
          obtain ⟨ce, he, rfl⟩ := opt_map h
          exact s_set ((tgts n).1 Sk.cok ht (tgAll_true tg) c) (EX.e Sk.cok tk he c) soT (swT hc) rfl
        cases e <;> first | exact gen (fun _ _ _ z => by cases z) h | skip
        case Tuple vs k2 p2 _ =>
          obtain ⟨hp, h⟩ := opt_if (show (if parOk cc ts vs = true then _ else none) = some cs from h)
          obtain ⟨tg, ht, h⟩ := opt_bind h
          obtain ⟨ce, he, rfl⟩ := opt_map h
          obtain ⟨x, px, y, py, a, b, rfl, rfl⟩ : ∃ x px y py a b, ts = [.Name x px, .Name y py] ∧ vs = [a, b] := by
            unfold parOk at hp
            split at hp
            · exact ⟨_, _, _, _, _, _, rfl, rfl⟩
            · cases hp
          obtain ⟨i, j, hi, hj, rfl⟩ := cTg_two ht
          obtain ⟨m, ca, cb, rfl, hes⟩ := cE_two he
          obtain ⟨e1, _, _, e4⟩ := (exprs G m).es Sk.cok tk hes
          obtain ⟨s1, s2, s3, s4⟩ := parSw (pt := p1) (pt2 := p2) (kt := k1) (k2 := k2) Sk.cok.kind Sk.cok.hsc (e4 a List.mem_cons_self) (e4 b (List.mem_cons_of_mem _ List.mem_cons_self)) hp
          have n1 := (Sk.cok.loc hi).1
          have n2 := (Sk.cok.loc hj).1
          exact s_par Sk.cok.calm Sk.cok.nd n1 n2 (fun z => s4 (by rw [z, n2] at n1; exact (Option.some.inj n1).symm)) s2 s3 (e1 c) s1 soT
  case If t a b p =>
    obtain ⟨ct, ht, h⟩ := opt_bind (show (cE n cc t).bind (fun t => (cSs n cc a).bind fun a => (cSs n cc b).map fun b => CS.ite t a b) = some cs from h)
    obtain ⟨ca, ha, h⟩ := opt_bind h
    obtain ⟨cb, hb, rfl⟩ := opt_map h
    exact s_if (EX.e Sk.cok tk ht c) (I.ss Sk tk ha hrs) (I.ss Sk tk hb hrs)
  case For tg it b orelse p =>
    cases orelse with
    | cons _ _ => cases h
    | nil =>
      obtain ⟨ci, hi, h⟩ := opt_bind (show (cI n cc tg it).bind (fun it => (cTg n cc tg).bind fun tg => (cSs n cc b).map fun b => CS.for tg it b) = some cs from h)
      obtain ⟨tg', ht, h⟩ := opt_bind h
      obtain ⟨cb, hb, rfl⟩ := opt_map h
      obtain ⟨h1, h2⟩ := EX.i Sk.cok tk hi
      exact s_for Sk.hp Sk.cok.calm (h1 c) ((tgts n).1 Sk.cok ht (tgAll_true _) c) (I.ss Sk tk hb hrs) (fun x => okE.fold h2 x)
  case While t b orelse p =>
    cases orelse with
    | cons _ _ => cases h
    | nil =>
      obtain ⟨ct, ht, h⟩ := opt_bind (show (cE n cc t).bind (fun t => (cSs n cc b).map fun b => CS.whl t b) = some cs from h)
      obtain ⟨cb, hb, rfl⟩ := opt_map h
      exact s_while Sk.hp (EX.e Sk.cok tk ht c) (I.ss Sk tk hb hrs)
  case Expr e p =>
    have gen : noComp e = true → (cE n cc e).map CS.expr = some cs → PS X (.Expr e p) (tS G c W cs) := fun hc h => by
      obtain ⟨a, ha, rfl⟩ := opt_map h
      exact s_expr (swX hc) (EX.e Sk.cok tk ha c)
    cases e <;> first | exact gen rfl h | (cases h; done) | skip
    case SetComp elt gs sc p3 =>
      obtain ⟨a, ha, rfl⟩ := opt_map (show (cE n cc (.SetComp elt gs sc p3)).map CS.expr = some cs from h)
      cases n with
      | zero => cases ha
      | succ n => cases ha
    case Call f args kws cp =>
      cases f <;> first | exact gen rfl h | skip
      case Attribute o m ap =>
        cases o <;> first | exact gen rfl h | skip
        case Name x p2 =>
          match args, kws, h with
          | [], _, h => exact gen rfl h
          | _ :: _ :: _, _, h => exact gen rfl h
          | [_], _ :: _, h => exact gen rfl h
          | [a], [], h =>
            obtain ⟨hm, h⟩ := opt_if (show (if m = ("append" : Str) then (if (ap.endLine == cp.line) = true then (cc.slot x).bind fun i => (cE n cc a).map fun a => CS.app i a else none) else none) = some cs from h)
            subst hm
            obtain ⟨hl, h⟩ := opt_if h
            obtain ⟨i, hi, h⟩ := opt_bind h
            obtain ⟨ca, ha, rfl⟩ := opt_map h
            obtain ⟨h1, h2, h3⟩ := Sk.cok.slot hi
            exact s_app Sk.cok.hK (pe_var h1 h2 (okName_dbg h3).1 (okName_dbg h3).2.1) (okE.star (okForm ha)) hl (EX.e Sk.cok tk ha c)
  case Raise e cause p =>
    cases e with
    | none => cases h
    | some e =>
      cases e <;> first | (cases h; done) | skip
      case Call f args kws cp =>
        cases f <;> first | (cases h; done) | skip
        case Name x p2 =>
          cases kws with
          | cons _ _ => cases h
          | nil =>
            cases cause with
            | some _ => cases h
            | none =>
              obtain ⟨hg, h⟩ := opt_if (show (if (cc.gl x && args.length == 1) = true then (idxOf? x cc.exs).bind fun k => (cEs n cc args).map fun es => CS.raise k es else none) = some cs from h)
              rw [Bool.and_eq_true] at hg
              obtain ⟨k, hk, h⟩ := opt_bind h
              obtain ⟨ces, hes, rfl⟩ := opt_map h
              obtain ⟨e1, _, e3, e4⟩ := EX.es Sk.cok tk hes
              match args, hg.2, e1, e3, e4 with
              | [a], _, e1, e3, e4 => exact s_raise Sk tk hg.1 hk (e4 a List.mem_cons_self) e3 (e1 c)
  case Try b hs o f p =>
    cases o with
    | cons _ _ => cases h
    | nil =>
      cases f with
      | cons _ _ => cases h
      | nil =>
        cases hs with
        | nil => cases h
        | cons h0 hds =>
          obtain ⟨cb, hb, h⟩ := opt_bind (show (cSs n cc b).bind (fun b => (cHs n cc (h0 :: hds)).map fun hs => CS.try b hs) = some cs from h)
          obtain ⟨chs, hh, rfl⟩ := opt_map h
          exact s_try Sk tk hrs hh fun W' pn xe tk' hp => I.ss (Sk.tr hp) tk' hb hrs
  case Pass p => cases h; exact s_pass
  case Break p => cases h; exact s_brk
  case Continue p => cases h; exact s_cont
theorem stmts (G : Gd) (cl : List (Addr × Str)) : ∀ n, SH G cl n
  | 0 => ⟨fun _ _ h _ => (by cases h), fun _ _ h _ => (by cases h)⟩
  | n + 1 => ⟨fun Sk tk h hr => step_s (stmts G cl n) Sk tk h hr, fun Sk tk h hr => step_ss (stmts G cl n) Sk tk h hr⟩
end
end SF

/-! A def keeps its promise. -/
namespace SF
open PySem PySem.Spec PyProof.Rows L2
open Evl (Ex)
theorem guards_deeper (A : Around) (env : Env) : (A.deeper env).guards = A.guards := rfl
theorem fok_of {P : Program} {w : World} {K : PySem.W.Frag} {mg : Str → Option Value} {base : Heap} {k : Nat} {f : Addr} {name qual : Str} {params : Arguments} {body : List Stmt} {scope : Scope} {dV kV doc pm cdv ct oc : Value} {an od : Option Addr}
    {osl : Array (Option Value)} {N ps : List Str} {sp : Sp} (lk : K.lookup f = some ⟨oc, od, .func (PySem.W.fnOf name qual params body scope dV kV doc pm an cdv ct), osl⟩) (hcd : PySem.W.codeIn K cdv qual = true) (S : FnScope N ps scope)
    (len : ∀ vs H Q E, sp vs H Q E → vs.length = ps.length)
    (hbody : ∀ (A : Around) (outer : List Env) (s : Shared) (H : Hp) (vs : List V) (Q : VK) (E : XK), Room k (A.deeper (envOfC qual scope s.heap.objs.size f cdv)) → A.guards = some [] → sp vs H Q E →
      ∃ t, PSs (cxOf (L2.CX P w) P w K mg base N qual scope f cdv A outer s H E) body t ∧ t { nx := fun _ H' => Q .non H', rt := Q } (start N vs) H) :
    FOk P w K mg base (k + 1) f (PySem.W.fnOf name qual params body scope dV kV doc pm an cdv ct) ps sp := by
  refine ⟨len, fun A outer s H args us vs Q E hr hgu e0 hb r hsp => ?_⟩
  have hl := len _ _ _ _ hsp
  have KX : K.In s.heap := e0.mod.kin.keeps fun b o e => (e0.bs b o e).1
  have lim : s.heap.NoLimit := e0.mod.nolimit.keeps fun b o e => (e0.bs b o e).1
  have hkind : ∀ y ∈ ps.zip us, scope.names.lookup y.1 = some .local ∨ (scope.names.lookup y.1 = some .cell ∧ ((cellsFrom (s.heap.objs.size + 1) scope.names []).lookup y.1).isSome = true) := fun ⟨n, v⟩ hy => by
    rcases S.par n (List.of_mem_zip hy).1 with q | q
    · exact .inl q
    · exact .inr ⟨q, PySem.W.cellsFrom_some _ _ _ (.inl q)⟩
  refine codeAny_call_function hr.depth (KX _ _ lk) rfl S.co S.gen rfl (PySem.W.codeRec_of KX hcd) (hb _ _ _ _ (wpAny_newFunctionEnv_cells S.kind hkind fun env he s1 x => ?_))
  subst he
  refine ⟨lim.keeps x.toInCall.keep, codeAny_func ?_⟩
  obtain ⟨t, ht, hq⟩ := hbody A outer s H vs Q E (hr.deeper _) hgu hsp
  have I : Inv (cxOf (L2.CX P w) P w K mg base N qual scope f cdv A outer s H E) [] (start N vs) H s1 := inv_start S hr.hd e0 hl r x
  refine wpAny_mono (ht.run [] s1 (start N vs) H _ I hq) (fun fl s' hs => ?_) fun e s' hs => hs
  rcases fl with _ | _ | _ | u
  all_goals first
    | (obtain ⟨v, σ', H', J, rv, q⟩ := hs; exact ⟨v, H', J.os, J.bare, J.base, J.hok, rv, q⟩)
    | (obtain ⟨_, _, _, q⟩ := hs; exact False.elim q)
    | (obtain ⟨σ', H', J, q⟩ := hs; exact ⟨V.non, H', J.os, J.bare, J.base, J.hok, rfl, q⟩)
/-! ### the entry -/
theorem entry_get {fn : Fn} {ds : List D} {i : Nat} {s : Slot} (h : (entry fn ds)[i]? = some s) : (∃ d, ds[i]? = some d ∧ s = if fn.io.contains i then Slot.io d else Slot.val d) ∨ (ds.length ≤ i ∧ s = .emp) := by
  unfold entry at h
  by_cases hi : i < ds.length
  · rw [List.getElem?_append_left (by rw [List.length_map, List.length_zipIdx]; exact hi), List.getElem?_map, List.getElem?_zipIdx] at h
    obtain ⟨p, hp, rfl⟩ := Option.map_eq_some_iff.mp h
    obtain ⟨d, hd, rfl⟩ := Option.map_eq_some_iff.mp hp
    exact .inl ⟨d, hd, by simp⟩
  · rw [List.getElem?_append_right (by rw [List.length_map, List.length_zipIdx]; omega), List.getElem?_replicate] at h
    split at h
    · cases h
      exact .inr ⟨by omega, rfl⟩
    · cases h
theorem entry_len {fn : Fn} {ds : List D} (h : ds.length ≤ fn.n) : (entry fn ds).length = fn.n := by
  unfold entry
  rw [List.length_append, List.length_map, List.length_zipIdx, List.length_replicate]
  omega
theorem start_get {N : List Str} {vs : List V} {i : Nat} {v : V} (h : vs[i]? = some v) : (start N vs)[i]? = some (some v) := by
  have hi := (List.getElem?_eq_some_iff.mp h).1
  unfold L2.start
  rw [List.getElem?_append_left (by rw [List.length_map]; exact hi), List.getElem?_map, h]
  rfl
theorem start_len {N : List Str} {vs : List V} (h : vs.length ≤ N.length) : (start N vs).length = N.length := by
  unfold L2.start
  rw [List.length_append, List.length_map, List.length_replicate]
  omega
theorem entry_sat {K : PySem.W.Frag} {fn : Fn} {N : List Str} {F H : Hp} {vs : List V} {ds : List D} (e : Ex F H) (a : ArgsOk K fn.io F H vs ds) (hn : fn.n = N.length) (hl : vs.length ≤ N.length) : Sat K ⟨F, H, ioAddrs fn.io vs, []⟩ F H (start N vs) (entry fn ds) := by
  have key : ∀ (i : Nat) (s : Slot), (entry fn ds)[i]? = some s → (s.holds = true → fn.io.contains i = true ∧ ∃ d a', ds[i]? = some d ∧ vs[i]? = some (.ref a')) := fun i s h hh => by
    rcases entry_get h with ⟨d, hd, rfl⟩ | ⟨_, rfl⟩
    · have hi : i < vs.length := by rw [a.len]; exact (List.getElem?_eq_some_iff.mp hd).1
      by_cases z : fn.io.contains i = true
      · obtain ⟨b, o, q, _⟩ := a.chg i vs[i] d (List.getElem?_eq_getElem hi) hd z
        exact ⟨z, d, b, hd, by rw [List.getElem?_eq_getElem hi, q]⟩
      · rw [if_neg z] at hh
        cases hh
    · cases hh
  refine ⟨⟨e, Ex.refl F, fun b o q => .inl q, fun b o q _ => q, fun b q => q⟩, ?_, fun i s h => ?_, fun i j b h1 h2 => ?_, fun p hp => by cases hp⟩
  · rw [start_len hl, entry_len (by rw [hn, ← a.len]; exact hl), hn]
  · rcases entry_get h with ⟨d, hd, rfl⟩ | ⟨_, rfl⟩
    · have hi : i < vs.length := by rw [a.len]; exact (List.getElem?_eq_some_iff.mp hd).1
      have hv : vs[i]? = some vs[i] := List.getElem?_eq_getElem hi
      by_cases z : fn.io.contains i = true
      · rw [if_pos z]
        obtain ⟨b, o, q, x1, x2, x3⟩ := a.chg i vs[i] d hv hd z
        refine ⟨b, o, by rw [start_get hv, q], x1, x2, x3, List.mem_filterMap.mpr ⟨i, List.contains_iff_mem.mp z, by rw [hv, q]⟩⟩
      · rw [if_neg z]
        exact ⟨vs[i], start_get hv, a.plain i vs[i] d hv hd (by simpa using z)⟩
    · trivial
  · obtain ⟨⟨s1, g1, g2⟩, g3⟩ := h1
    obtain ⟨⟨s2, k1, k2⟩, k3⟩ := h2
    obtain ⟨z1, d1, a1, y1, w1⟩ := key i s1 g1 g2
    obtain ⟨z2, d2, a2, y2, w2⟩ := key j s2 k1 k2
    rw [start_get w1] at g3
    rw [start_get w2] at k3
    cases g3
    cases k3
    exact a.dis i j _ z1 z2 w1 w2
/-- the body's run, and the promise -/
theorem body_ok {G : Gd} {m f : Nat} {fn : Fn} {N : List Str} {vs : List V} {H : Hp} {Q : VK} {E : XK} (hG : G.call = run G.T G.sub G.W m) (hT : G.T[f]? = some fn) (hio : fn.io.length ≤ 1) (hn : fn.n = N.length) (hnp : fn.np ≤ N.length)
    (h : spF { G with call := run G.T G.sub G.W (m + 1) } f vs H Q E) : ∃ c : EC, c.rs = [] ∧ tSs G c (fun cls d _ H' => E cls d H') fn.body { nx := fun _ H' => Q .non H', rt := Q } (start N vs) H := by
  obtain ⟨fn', F, ds, hT', e, hl, a, h⟩ := h
  have hT' : G.T[f]? = some fn' := hT'
  rw [hT] at hT'
  cases hT'
  refine ⟨⟨F, H, ioAddrs fn.io vs, []⟩, rfl, F, entry fn ds, entry_sat e a hn (by rw [hl]; exact hnp), ?_⟩
  have hrun : run G.T G.sub G.W (m + 1) f ds = (exs G.T G.call G.sub G.W fn.body (entry fn ds)).bind fun r => (R.of (outsOf fn.io r.2)).bind fun os => retOf r.1 os := by
    rw [hG]
    show (R.of (G.T[f]?)).bind _ = _
    rw [hT]
    show (if ds.length = fn.np then _ else R.no) = _
    rw [if_pos (by rw [← a.len]; exact hl)]
  have h : match run G.T G.sub G.W (m + 1) f ds with
    | .ok r => ∀ v F' H', Bs ⟨F, H, ioAddrs fn.io vs, []⟩ F' H' → OutsR G.K fn.io vs F' H' r.outs → RetR G.K H F' H' v r.d r.ow → Q v H'
    | .ex k es => ∀ cls d F' H', Bs ⟨F, H, ioAddrs fn.io vs, []⟩ F' H' → G.exr F' H' k es cls d → E cls d H'
    | .no => False := h
  rw [hrun] at h
  cases hx : exs G.T G.call G.sub G.W fn.body (entry fn ds) with
  | no => rw [hx] at h; exact h
  | ex k es =>
    rw [hx] at h
    exact fun cls d σ F' H' _ b x => h cls d F' H' b x
  | ok r =>
    rw [hx] at h
    obtain ⟨fl, nv⟩ := r
    have h : match ((R.of (outsOf fn.io nv)).bind fun os => retOf fl os) with
      | .ok r => ∀ v F' H', Bs ⟨F, H, ioAddrs fn.io vs, []⟩ F' H' → OutsR G.K fn.io vs F' H' r.outs → RetR G.K H F' H' v r.d r.ow → Q v H'
      | .ex k es => ∀ cls d F' H', Bs ⟨F, H, ioAddrs fn.io vs, []⟩ F' H' → G.exr F' H' k es cls d → E cls d H'
      | .no => False := h
    cases ho : outsOf fn.io nv with
    | none => rw [ho] at h; exact h.elim
    | some os =>
      rw [ho] at h
      have outs : ∀ {σ' : L2.St} {F' H' : Hp}, Sat G.K ⟨F, H, ioAddrs fn.io vs, []⟩ F' H' σ' nv → OutsR G.K fn.io vs F' H' os := fun {σ' F' H'} S i j d hi hd => by
        match hfo : fn.io, hio, hi with
        | [j0], _, hi =>
          cases i with
          | succ i => cases hi
          | zero =>
            have ej0 : j0 = j := Option.some.inj hi
            subst ej0
            rw [hfo] at ho
            have ho : ([j0].mapM fun j => nv[j]?.bind Slot.ioD) = some os := ho
            cases z : nv[j0]?.bind Slot.ioD with
            | none => simp [z] at ho
            | some d' =>
              simp [z] at ho
              subst ho
              cases hd
              obtain ⟨s, hs, hsd⟩ := Option.bind_eq_some_iff.mp z
              have sl := S.slot j0 s hs
              cases s <;> first | (cases hsd; done) | skip
              case io y =>
                cases hsd
                obtain ⟨b, o, x1, x2, x3, x4, x5⟩ := sl
                obtain ⟨j', hj', e'⟩ := List.mem_filterMap.mp x5
                rw [hfo] at hj'
                have ej : j' = j0 := by simpa using hj'
                subst ej
                refine ⟨b, o, ?_, x2, x3, x4⟩
                split at e'
                · rename_i a' q
                  cases e'
                  exact q
                · cases e'
      cases fl with
      | br => exact h.elim
      | ct => exact h.elim
      | nx => exact fun σ' F' H' _ S => h .non F' H' S.toBs (outs S) .non
      | rt d ow =>
        intro v σ' F' H' _ S vr
        refine h v F' H' S.toBs (outs S) ?_
        cases ow with
        | false => exact vr
        | true =>
          obtain ⟨a', o, q1, q2, q3, q4, q5, _⟩ := vr
          exact ⟨a', o, q1, q2, q3, q4, q5⟩
end SF

/-! All defs of a law keep their promises; a law's end. -/
namespace SF
open PySem PySem.Spec PyProof.Rows L2
open Evl (Ex)
structure SrcF where
  name : Str
  args : Arguments
  body : List Stmt
  sc : Scope
  N : List Str
  io : List Nat
def scB (N P : List Str) (sc : Scope) : Bool := decide (sc.kind = .function) && !sc.isCoroutine && !sc.isGenerator && decide N.Nodup && decide (N.take P.length = P) &&
  (P.all fun x => decide (sc.names.lookup x = some .local) || decide (sc.names.lookup x = some .cell)) && sc.names.all fun y => !decide (y.2 = .free)
theorem scB_ok {N P : List Str} {sc : Scope} (h : scB N P sc = true) : FnScope N P sc := by
  unfold scB at h
  simp only [Bool.and_eq_true, decide_eq_true_eq, Bool.not_eq_true', List.all_eq_true, Bool.or_eq_true, decide_eq_false_iff_not] at h
  obtain ⟨⟨⟨⟨⟨⟨h1, h2⟩, h3⟩, h4⟩, h5⟩, h6⟩, h7⟩ := h
  exact ⟨h1, h2, h3, h4, h5, h6, h7⟩
structure LawD where
  srcs : List SrcF
  con : List (Str × D)
  exs : List Str
  flds : List Str
  sub : Nat → Nat → Bool
  W : Nat
def LawD.fns (L : LawD) : List Str := L.srcs.map (·.name)
def LawD.cc (L : LawD) (s : SrcF) : CC := ⟨s.N, s.sc, L.fns, L.con, L.exs, L.flds⟩
def LawD.comp (L : LawD) (s : SrcF) : Option Fn := if decide (s.io.length ≤ 1) && scB s.N (argNames s.args) s.sc then (cSs 200 (L.cc s) s.body).map fun b => ⟨s.N.length, (argNames s.args).length, s.io, b⟩ else none
def LawD.all (L : LawD) : Option (List Fn) := L.srcs.mapM L.comp
theorem mapM_get {α β : Type} {f : α → Option β} : ∀ {l : List α} {r : List β}, l.mapM f = some r → ∀ (i : Nat) (a : α), l[i]? = some a → ∃ b, f a = some b ∧ r[i]? = some b
  | [], _, _, _, _, h => by cases h
  | x :: l, r, h, i, a, e => by
    rw [List.mapM_cons] at h
    obtain ⟨b, hb, h⟩ := Option.bind_eq_some_iff.mp h
    obtain ⟨bs, hbs, h⟩ := Option.bind_eq_some_iff.mp h
    cases h
    cases i with
    | zero => cases e; exact ⟨b, hb, rfl⟩
    | succ i => exact mapM_get hbs i a e
/-- what the head gives -/
structure LF (P : Program) (K : PySem.W.Frag) (mg : Str → Option Value) (L : LawD) (cl : List (Addr × Str)) : Prop where
  fns : ∀ (i : Nat) (s : SrcF), L.srcs[i]? = some s → ∃ a fd, mg s.name = some (.ref a) ∧ FunD K s.name s.name s.args s.body s.sc [] [] a fd ∧ Binds K fd (argNames s.args) []
  blt : ∀ x, bltNames.contains x = true → (!L.fns.contains x && !L.exs.contains x && !(L.con.map (·.1)).contains x) = true → mg x = none
  con : ∀ x d, L.con.lookup x = some d → ∃ v u, mg x = some u ∧ RelV v u ∧ ∀ F, Rp K F v d
  cls : ∀ (k : Nat) (C : Addr) (fld : Str), cl[k]? = some (C, fld) → ∃ fI, PySem.SFX.RTxt P K fld C fI ∧ PySem.SFX.FldOk fld
  nam : ∀ (x : Str) (k : Nat), idxOf? x L.exs = some k → ∃ C fld, cl[k]? = some (C, fld) ∧ mg x = some (.ref C)
  flds : ∀ (k : Nat) (C : Addr) (fld m : Str), cl[k]? = some (C, fld) → L.flds[k]? = some m → fld = m
  exm : ∀ (k h : Nat) (C1 C2 : Addr) (f1 f2 : Str), cl[k]? = some (C1, f1) → cl[h]? = some (C2, f2) → PySem.W.exmOne K (.ref C1) (.ref C2) = some (L.sub k h) ∧ (L.sub k h = true → f1 = f2)
  sup : mg "super" = none
def Gm (K : PySem.W.Frag) (L : LawD) (T : List Fn) (cl : List (Addr × Str)) (m : Nat) : Gd := ⟨K, T, run T L.sub L.W m, L.sub, L.W, exR K cl⟩
section
variable {P : Program} {w : World} {K : PySem.W.Frag} {mg : Str → Option Value} {base : Heap} {L : LawD} {cl : List (Addr × Str)} {T : List Fn}
theorem np_run (m : Nat) : CallNp (Gm K L T cl m) := by
  intro f fn ds h n
  cases m with
  | zero => rfl
  | succ m =>
    show (R.of (T[f]?)).bind _ = _
    rw [show T[f]? = some fn from h]
    show (if ds.length = fn.np then _ else R.no) = _
    rw [if_neg n]
theorem all_ok (F : LF P K mg L cl) (hT : L.all = some T) : ∀ (m : Nat) (i : Nat) (s : SrcF), L.srcs[i]? = some s → ∀ (a : Addr) (fd : FuncData), FunD K s.name s.name s.args s.body s.sc [] [] a fd → FOk P w K mg base (m + 2) a fd (argNames s.args) (spF (Gm K L T cl m) i)
  | 0, i, s, hs, a, fd, FD => by
    have no : ∀ vs H Q E, ¬ spF (Gm K L T cl 0) i vs H Q E := fun vs H Q E ⟨fn, F, ds, _, _, _, _, h⟩ => h
    exact ⟨fun vs H Q E h => absurd h (no vs H Q E), fun A outer s H args us vs Q E _ _ _ _ _ h => absurd h (no vs H Q E)⟩
  | m + 1, i, s, hs, a, fd, FD => by
    obtain ⟨fn, hfn, hTi⟩ := mapM_get hT i s hs
    obtain ⟨hc, hfn⟩ := opt_if hfn
    rw [Bool.and_eq_true, decide_eq_true_eq] at hc
    obtain ⟨b, hb, rfl⟩ := opt_map hfn
    have S := scB_ok hc.2
    have npl : (argNames s.args).length ≤ s.N.length := by have := congrArg List.length S.pre; rw [List.length_take] at this; omega
    obtain ⟨oc, od, dV, kV, doc, pm, an, cdv, ct, osl, rfl, lk, hcd, _, _⟩ := FD.ex
    refine fok_of lk hcd S (fun vs H Q E h => ?_) fun A outer s1 H vs Q E hr hgu h => ?_
    · obtain ⟨fn', F', ds, h1, _, h2, _⟩ := h
      have h1 : T[i]? = some fn' := h1
      rw [hTi] at h1
      cases h1
      exact h2
    · obtain ⟨c, hrs, hq⟩ := body_ok (G := Gm K L T cl m) (N := s.N) rfl hTi hc.1 rfl npl h
      refine ⟨_, ?_, hq⟩
      have Ck : Cok (Gm K L T cl m) (L.cc s) (cxOf (L2.CX P w) P w K mg base s.N s.name s.sc a cdv A outer s1 H E) (fun _ => true) := by
        refine ⟨rfl, rfl, S.nd, rfl, rfl, ?_, hgu, S.kind, F.blt, F.con, fun x f hf => ?_, np_run m, fun _ _ _ _ => .inl rfl⟩
        · have := hr.un
          show (A.deeper _).units + 100 < cLine
          omega
        · have e1 := idxOf_some hf
          have e2 : (L.srcs.map (·.name))[f]? = some x := e1
          rw [List.getElem?_map] at e2
          obtain ⟨s2, hs2, rfl⟩ := Option.map_eq_some_iff.mp e2
          obtain ⟨a2, fd2, g1, g2, g3⟩ := F.fns f s2 hs2
          exact ⟨m + 2, a2, fd2, _, all_ok F hT m f s2 hs2 a2 fd2 g2, hr, g1, g2.kp, g3⟩
      have Sk : Sok (Gm K L T cl m) (L.cc s) (cxOf (L2.CX P w) P w K mg base s.N s.name s.sc a cdv A outer s1 H E) cl :=
        ⟨Ck, passes_of rfl, rfl, rfl, rfl, F.cls, F.nam, F.flds, F.exm, F.sup, ⟨_, hr⟩⟩
      exact (stmts (Gm K L T cl m) cl 200).ss Sk (takes_of rfl rfl rfl rfl) hb hrs
/-- a law's def at the script -/
theorem law_sp {M li : Nat} {fn : Fn} {a : Addr} {ns : List Int} {H : Hp} (hfn : T[li]? = some fn) (hio : fn.io = []) (hnp : fn.np = 1) (hrun : ∃ ow, run T L.sub L.W M li [.list (ns.map .int)] = .ok ⟨.bool true, ow, []⟩) (hS : Rd H a (.lst (ns.map V.int))) :
    spF (Gm K L T cl M) li [.ref a] H (fun v _ => v = .bl true) fun _ _ _ => False := by
  have ra : ∀ l : List Int, RpA K H (l.map V.int) (l.map PyData.int) := by
    intro l
    induction l with
    | nil => exact .nil
    | cons x l ih => exact .cons (.int x) ih
  refine ⟨fn, H, [.list (ns.map .int)], hfn, Ex.refl H, by rw [hnp]; rfl, ⟨rfl, fun j v d hv hd _ => ?_, fun j v d _ _ h => (by rw [hio] at h; cases h), fun j k b h => (by rw [hio] at h; cases h)⟩, ?_⟩
  · cases j with
    | zero => cases hv; cases hd; exact .lst hS (ra ns)
    | succ j => cases hv
  · obtain ⟨ow, hrun⟩ := hrun
    show match run T L.sub L.W M li [.list (ns.map .int)] with
      | .ok r => _
      | .ex k es => _
      | .no => False
    rw [hrun]
    intro v F' H' _ _ ret
    cases ow with
    | false => cases (show Rp K F' v (.bool true) from ret); rfl
    | true => obtain ⟨_, _, _, _, _, h, _⟩ := ret; cases h
end
/-! ### the end -/
theorem law_callF {P : Program} {w : World} {K : PySem.W.Frag} {mg mb : Str → Option Value} {k : Nat} {fa a : Addr} {fd : FuncData} {x : Str} {sp : Sp} {s₁ : Shared} {vs : List Value} {ns : List Int}
    (KX : K.In s₁.heap) (hns : s₁.heap.Ns mainGlobals mg) (hb : s₁.heap.Ns builtinsNs mb) (hbb : ∀ x : Str, x ≠ "__name__" → mb x = bootBuiltins x) (hlim : s₁.heap.NoLimit) (hg : s₁.gens = #[])
    (ha : s₁.heap.get? a = some { cls := .type "list", data := .seq vs.toArray }) (hi : IntsAre vs ns) (hl : ns.length ≤ sizeLine) (hr : Room k callerA) (hka : K.lookup a = none)
    (F : ∀ base : Heap, FOk P w K mg base k fa fd [x] sp) (hbind : ∀ (s : Shared) (u : Value), BindsTo s fd ⟨[u], []⟩ [(x, u)])
    (hsp : ∀ H : Hp, Rd H a (.lst (ns.map V.int)) → sp [.ref a] H (fun v _ => v = .bl true) fun _ _ _ => False) :
    codeAny (model P w) callerA (.call (.ref fa) ⟨[.ref a], []⟩) (fun r s' => r = .ok (.ret (.bool true)) ∧ OldK s₁.heap s'.heap ∧ s'.os = s₁.os ∧ AllBare s'.gens) s₁ := by
  have rv := vals_ints hi
  have lenV := hi.length
  obtain ⟨H, hH⟩ : ∃ H : Hp, H = fun b => if b = a then some (.frz { cls := .type "list", data := .seq vs.toArray } (.lst (ns.map V.int))) else none := ⟨_, rfl⟩
  have Ha : H a = some (.frz { cls := .type "list", data := .seq vs.toArray } (.lst (ns.map V.int))) := by rw [hH]; exact if_pos rfl
  have Hn : ∀ {b : Addr}, b ≠ a → H b = none := fun {b} n => by rw [hH]; exact if_neg n
  have hok : HOk P w H s₁.heap := fun b u z => by
    by_cases q : b = a
    · subst q
      rw [Ha] at z
      cases z
      exact ⟨ha, by rw [List.length_map]; exact hl, vs, _, rv, ha⟩
    · rw [Hn q] at z
      cases z
  have keep : ∀ {b : Addr} {o : Obj}, s₁.heap.get? b = some o → b ≠ a → (hidT s₁.heap H).get? b = some o := fun e n => hidT_get e (Hn n)
  have notA : ∀ {b : Addr} {o : Obj} {es : Array DictEntry} {ep : Nat}, s₁.heap.get? b = some o → o.data = .dict es ep → b ≠ a := fun {b o es ep} e d q => by
    subst q
    rw [ha] at e
    cases e
    cases (show Data.seq vs.toArray _ = Data.dict es ep from d)
  have nsK : ∀ {b : Addr} {m : Str → Option Value}, s₁.heap.Ns b m → (hidT s₁.heap H).Ns b m := fun {b m} ⟨o, es, ep, e, d, r⟩ => ⟨o, es, ep, keep e (notA e d), d, r⟩
  have hKb : K.In (hidT s₁.heap H) := fun b o e => keep (KX b o e) fun q => by rw [q, hka] at e; cases e
  have hM : Mod K mg (hidT s₁.heap H) := ⟨hKb, nsK hns, ⟨mb, nsK hb, hbb⟩, let ⟨mc, h1, h2⟩ := hlim; ⟨mc, nsK h1, h2⟩⟩
  have e0 : Env0 P w K mg (hidT s₁.heap H) callerA [] s₁ H := ⟨rfl, hM, fun b o e => of_hidT e, Nat.le_of_eq (hidT_size _ _), trivial, fun b hb => absurd (show b ∈ ([] : List Addr) from hb) (by simp), hok, .of_eq hg⟩
  refine codeAny_mono ((F _).run callerA [] s₁ H ⟨[.ref a], []⟩ [.ref a] [.ref a] _ _ hr (by first | rfl | decide) e0 (hbind s₁ (.ref a)) (.cons rfl .nil) (hsp H (.inr ⟨_, Ha⟩))) fun r s' h => ?_
  cases r with
  | error e =>
    obtain ⟨_, _, _, _, _, _, _, _, _, _, _, _, z⟩ := h
    exact z.elim
  | ok fl =>
    cases fl with
    | next => exact False.elim h
    | brk => exact False.elim h
    | cont => exact False.elim h
    | ret u =>
      obtain ⟨v, H', os, bare, un, hok', r', q⟩ := h
      have q' : v = .bl true := q
      subst q'
      obtain rfl : u = Value.bool true := r'
      refine ⟨rfl, OldK.of_keep fun b o e => ?_, os, bare⟩
      by_cases n : b = a
      · subst n
        have z2 := un.frzs b _ _ Ha
        obtain ⟨e1, _⟩ := hok b _ Ha
        obtain ⟨e2, _⟩ := hok' b _ z2
        rw [e] at e1
        cases e1
        exact e2
      · exact un.keep b o e (Hn n) (fun z => absurd (show b ∈ ([] : List Addr) from z) (by simp)) (by simp)
/-- a law's end: the head's facts, the run at every script -/
theorem walk_ofF {l : PySem.W.OpenLaw} {n k : Nat} {q : Program} {loose : List Str} {XP : (Str → Option Value) → Heap → Prop} {YP : World → Heap → Prop} {d : DefRec} {x : Str}
    (hn : l.most = some n) (hn2 : n ≤ sizeLine) (hdf : d.params.defaults = []) (hr : Room k callerA)
    (F : ∀ (w : World) (mg : Str → Option Value) (fa : Addr) (h : Heap), YP w h → h.Ns mainGlobals mg → mg d.name = some (.ref fa) →
      ∃ (K : PySem.W.Frag) (fd : FuncData) (sp : Sp), K.In h ∧ (∀ (a : Addr) (o : Obj), K.lookup a = some o → o.cls ≠ .type "list") ∧ (∀ (s : Shared) (u : Value), BindsTo s fd ⟨[u], []⟩ [(x, u)]) ∧
        (∀ (H : Hp) (a : Addr) (ns : List Int), ns.length ≤ n → (∀ z ∈ ns, Builtin.Int.intBits z ≤ 1048576) → Rd H a (.lst (ns.map V.int)) → sp [.ref a] H (fun v _ => v = .bl true) fun _ _ _ => False) ∧
        ∀ base : Heap, FOk l.prog w K mg base k fa fd [x] sp) :
    PySem.W.WalkO q loose XP YP l.row.toRowW d [] (fun f vs => PySem.call f vs) := by
  refine Att.attach_callB hn hdf fun w s₀ s₁ mg mb fa o pm cd doc a vs ns G Y ho hd hcd hmg hobj hints hlen hbits hg => ?_
  obtain ⟨K, fd, sp, KX, nl, hb, hsp, hF⟩ := F w mg fa _ Y G.T.g hmg
  have hka : K.lookup a = none := by
    cases e : K.lookup a with
    | none => rfl
    | some u =>
      have z := KX _ _ e
      rw [hobj] at z
      cases z
      exact absurd rfl (nl a _ e)
  exact law_callF KX G.T.g G.T.b G.T.builtins G.T.nolimit hg hobj hints (Nat.le_trans hlen hn2) hr hka hF hb fun H hS => hsp H a ns hlen hbits hS
end SF

/-! The head: what the module's top leaves, as facts. -/
namespace SF
open PySem PySem.Spec PyProof.Rows L2
open Evl (Ex)
/-! ### constants -/
mutual
def repB (K : PySem.W.Frag) : Value → D → Bool
  | .none, .none => true
  | .bool b, .bool c => b == c
  | .int i _, .int j => decide (i = j)
  | .str x _, .str y => decide (x = y)
  | .ref a, .tuple ds => match K.lookup a with
    | some ⟨.type c, _, .seq its _, _⟩ => decide (c = "tuple") && (decide (its.size ≤ sizeLine) && repsB K its.toList ds)
    | _ => false
  | _, _ => false
def repsB (K : PySem.W.Frag) : List Value → List D → Bool
  | [], [] => true
  | u :: us, d :: ds => repB K u d && repsB K us ds
  | _, _ => false
end
mutual
theorem repB_ok {K : PySem.W.Frag} : ∀ (d : D) (u : Value), repB K u d = true → ∃ v, RelV v u ∧ ∀ F, Rp K F v d
  | .none, u, h => by
    cases u <;> first | (unfold repB at h; cases h; done) | exact ⟨.non, rfl, fun F => .non⟩
  | .bool b, u, h => by
    cases u <;> first | (unfold repB at h; cases h; done) | skip
    rename_i c
    unfold repB at h
    obtain rfl := eq_of_beq h
    exact ⟨.bl _, rfl, fun F => .bl _⟩
  | .int i, u, h => by
    cases u <;> first | (unfold repB at h; cases h; done) | skip
    rename_i c t
    unfold repB at h
    obtain rfl := of_decide_eq_true h
    exact ⟨.int _, ⟨t, rfl⟩, fun F => .int _⟩
  | .str i, u, h => by
    cases u <;> first | (unfold repB at h; cases h; done) | skip
    rename_i c t
    unfold repB at h
    obtain rfl := of_decide_eq_true h
    exact ⟨.str _, ⟨t, rfl⟩, fun F => .str _⟩
  | .list l, u, h => by cases u <;> (unfold repB at h; cases h)
  | .dict l, u, h => by cases u <;> (unfold repB at h; cases h)
  | .tuple ds, u, h => by
    cases u <;> first | (unfold repB at h; cases h; done) | skip
    rename_i a
    unfold repB at h
    split at h
    · rename_i c dd its nn sl e
      rw [Bool.and_eq_true, Bool.and_eq_true, decide_eq_true_eq, decide_eq_true_eq] at h
      obtain ⟨rfl, h2, h3⟩ := h
      obtain ⟨xs, r1, r2⟩ := repsB_ok ds _ h3
      exact ⟨.ref a, rfl, fun F => .tup (.inr ⟨_, its, nn, e, rfl, rfl, h2, r1⟩) (r2 F)⟩
    · cases h
theorem repsB_ok {K : PySem.W.Frag} : ∀ (ds : List D) (us : List Value), repsB K us ds = true → ∃ vs, Vals vs us ∧ ∀ F, RpA K F vs ds
  | [], [], _ => ⟨[], .nil, fun F => .nil⟩
  | [], _ :: _, h => by unfold repsB at h; cases h
  | _ :: _, [], h => by unfold repsB at h; cases h
  | d :: ds, u :: us, h => by
    unfold repsB at h
    rw [Bool.and_eq_true] at h
    obtain ⟨v, r1, r2⟩ := repB_ok d u h.1
    obtain ⟨vs, r3, r4⟩ := repsB_ok ds us h.2
    exact ⟨v :: vs, .cons r1 r3, fun F => .cons (r2 F) (r4 F)⟩
end
/-! ### classes -/
open PySem.W (clsIn findIn typeIn keepIn subIn hasDictIn nsIn codeIn mroIn ks_superIn exmOne) in
def clsB (K : PySem.W.Frag) (C : Addr) : Bool := match K.lookup C with
  | some ⟨.type t, _, .cls cd, sl⟩ => decide (t = "type") && (match cd.mro, sl.toList with
    | .ref C' :: bm, [_, _, _, _, some (.builtin n), _] => decide (C' = C) && decide (n = "ValueError.__new__") && !cd.hasDel && cd.hasDict && PySem.HandSPX.refsVE bm
    | _, _ => false)
  | _ => false
theorem clsB_ok {K : PySem.W.Frag} {C : Addr} (h : clsB K C = true) : ∃ nm q N bs bm sn sub ab col dd k0 k1 k2 k3 k5, K.lookup C = some (excClassObj nm q C N bs bm true sn sub ab col dd k0 k1 k2 k3 k5 "ValueError.__new__") ∧ PySem.HandSPX.refsVE bm = true := by
  unfold clsB at h
  split at h
  · rename_i t dd cd sl ho
    rw [Bool.and_eq_true, decide_eq_true_eq] at h
    obtain ⟨rfl, h⟩ := h
    split at h
    · rename_i C' bm k0 k1 k2 k3 n k5 hm hs
      simp only [Bool.and_eq_true, decide_eq_true_eq, Bool.not_eq_true'] at h
      obtain ⟨⟨⟨⟨rfl, rfl⟩, hdel⟩, hdc⟩, hve⟩ := h
      obtain ⟨nm, bs, mro, ns, qn, hd, sn, sub, ab, col, del⟩ := cd
      dsimp only at hm hdel hdc
      subst hm hdel hdc
      have hsl : sl = #[k0, k1, k2, k3, some (.builtin "ValueError.__new__"), k5] := by
        obtain ⟨l⟩ := sl
        simp only at hs
        rw [hs]
      subst hsl
      exact ⟨nm, qn, ns, bs, bm, sn, sub, ab, col, dd, k0, k1, k2, k3, k5, ho, hve⟩
    · cases h
  · cases h
abbrev FnI : Type := Option (Str × Str × Arguments × FuncBody × Scope × Addr × Addr)
def initV (fld q : Str) (p1 p2 : Pos) (ps : PySem.SFX.Ps) : FnI := some (("__init__" : Str), q, PySem.SFX.iA fld p1 p2, FuncBody.stmts (PySem.SFX.iB fld ps), PySem.SFX.iS fld, mainGlobals, builtinsNs)
def fnI (K : PySem.W.Frag) (y : Str) : FnI := match K.lookup (He.ma K (He.ga K y) "__init__") with
  | some ⟨_, _, .func fd, _⟩ => some (fd.name, fd.qualname, fd.params, fd.body, fd.scope, fd.globals, fd.builtins)
  | _ => none
def fnB (K : PySem.W.Frag) (file : Str) (C fI : Addr) : Bool := match K.lookup fI with
  | some ⟨_, _, .func fd, _⟩ => (match fd.code, fd.closure, fd.defaults, fd.kwdefaults with
    | .ref cda, [(n, cc)], .none, .none => decide (n = ("__class__" : Str)) && (PySem.W.codeIn K (.ref cda) fd.qualname && ((match K.lookup cda with
        | some ⟨_, _, .fields vs, _⟩ => (match vs[2]? with
          | some (Value.str f _) => file == f
          | _ => false)
        | _ => false) && (match K.lookup cc with
        | some ⟨_, _, .cell (some (.ref D)), _⟩ => (PySem.W.clsIn K D).isSome && (decide (PySem.W.mroIn K C (.ref D) = some true) && He.eqO (PySem.W.ks_superIn K C D "__init__") (some (some (.builtin "ValueError.__init__"))))
        | _ => false)))
    | _, _, _, _ => false)
  | _ => false
def rtB (K : PySem.W.Frag) (file fld : Str) (C fI : Addr) : Bool :=
  clsB K C && (He.eqO (PySem.W.findIn K (.ref C) "__setattr__") (some (some (.builtin "object.__setattr__"))) && (He.eqO (PySem.W.findIn K (.ref C) "__getattribute__") (some (some (.builtin "BaseException.__getattribute__"))) && (He.eqO (PySem.W.findIn K (.ref C) "__getattr__") (some none) &&
  (He.eqO (PySem.W.findIn K (.ref C) fld) (some none) && (He.eqO (PySem.W.findIn K (.ref C) "__init__") (some (some (.ref fI))) && (decide (PySem.W.typeIn K (.ref fI) = some (.type "function")) && (PySem.W.keepIn K (.ref C) && (decide (PySem.W.subIn K (.ref C) (.type "BaseException") = some true) &&
  (decide (PySem.W.subIn K (.ref C) (.type "ValueError") = some true) && (decide (PySem.W.typeIn K (.ref C) = some (.type "type")) && (PySem.W.hasDictIn K C && (He.eqO (PySem.W.nsIn K cStatics "thirdparty.any") (some none) && (He.eqO (PySem.W.nsIn K mainGlobals "super") (some none) && fnB K file C fI)))))))))))))
theorem rt_ok {P : Program} {K : PySem.W.Frag} {fld y q : Str} {C : Addr} {p1 p2 : Pos} {ps : PySem.SFX.Ps} (htop : (P.main.scope.names.lookup ("super" : Str)).isSome = false) (hl : (ps.c.endLine == ps.e.line) = true)
    (hi : fnI K y = initV fld q p1 p2 ps) (h : rtB K P.main.file fld C (He.ma K (He.ga K y) "__init__") = true) : PySem.SFX.RTxt P K fld C (He.ma K (He.ga K y) "__init__") := by
  unfold rtB at h
  simp only [Bool.and_eq_true] at h
  obtain ⟨h1, h2, h3, h4, h5, h6, h7, h8, h9, h10, h11, h12, h13, h14, h15⟩ := h
  refine ⟨clsB_ok h1, He.eqO_ok h2, He.eqO_ok h3, He.eqO_ok h4, He.eqO_ok h5, He.eqO_ok h6, of_decide_eq_true h7, h8, of_decide_eq_true h9, of_decide_eq_true h10, of_decide_eq_true h11, h12, He.eqO_ok h13, He.eqO_ok h14, htop, ?_⟩
  generalize hf : He.ma K (He.ga K y) "__init__" = fI at *
  unfold fnI at hi
  rw [hf] at hi
  unfold fnB at h15
  split at h15
  · rename_i oc od fd osl ho
    rw [ho] at hi
    split at h15
    · rename_i cda n cc e1 e2 e3 e4
      simp only [Bool.and_eq_true, decide_eq_true_eq] at h15
      obtain ⟨rfl, k1, k2, k3⟩ := h15
      obtain ⟨n1, n2, n3, n4, n5, n6, n7, n8, n9, n10, n11, n12, n13, n14, n15⟩ := fd
      have e : (some (n1, n2, n3, n4, n5, n6, n15) : FnI) = some (("__init__" : Str), q, PySem.SFX.iA fld p1 p2, FuncBody.stmts (PySem.SFX.iB fld ps), PySem.SFX.iS fld, mainGlobals, builtinsNs) := hi
      simp only [Option.some.injEq, Prod.mk.injEq] at e
      obtain ⟨g1, g2, g3, g4, g5, g6, g7⟩ := e
      dsimp only at e1 e2 e3 e4 k1
      subst g1 g2 g3 g4 g5 g6 g7 e1 e2 e3 e4
      split at k2
      · rename_i ccl cdd vs ccs hc
        split at k2
        · rename_i f tf hv
          split at k3
          · rename_i cl cld D csl hcc
            simp only [Bool.and_eq_true, decide_eq_true_eq] at k3
            obtain ⟨j1, j2, j3⟩ := k3
            obtain ⟨cdD, hD⟩ := Option.isSome_iff_exists.mp j1
            exact ⟨oc, od, _, _, _, _, cda, cc, D, _, osl, p1, p2, ps, ho, k1, ⟨ccl, cdd, vs, ccs, f, tf, hc, hv, k2⟩, hl, ⟨cl, cld, csl, hcc⟩, ⟨cdD, hD⟩, j2, He.eqO_ok j3⟩
          · cases k3
        · cases k2
      · cases k2
    · cases h15
  · cases h15
/-! ### all that is wanted of the head -/
/-- an own error class: its name, the class whose __init__ it has, its field; that __init__'s text -/
structure ClsD where
  name : Str
  own : Str
  fld : Str
  q : Str
  p1 : Pos
  p2 : Pos
  ps : PySem.SFX.Ps
def SrcF.dd (s : SrcF) : He.DefD := ⟨(s.name, none), s.name, s.name, s.args, s.body, s.sc, [], []⟩
def noLists (K : PySem.W.Frag) : Bool := K.all fun q => match q.2.cls with
  | .type c => !decide (c = "list")
  | _ => true
theorem noLists_ok {K : PySem.W.Frag} (h : noLists K = true) (a : Addr) (o : Obj) (e : K.lookup a = some o) : o.cls ≠ .type "list" := fun z => by
  have := List.all_eq_true.mp h _ (He.lookup_mem e)
  dsimp only at this
  rw [z] at this
  cases this
def exZ (L : LawD) (cs : List ClsD) (file : Str) (K : PySem.W.Frag) : Bool :=
  noLists K && (He.eqO (PySem.W.nsIn K mainGlobals "super") (some none) &&
  ((L.srcs.all fun s => He.eqO (PySem.W.nsIn K mainGlobals s.name) (some (some (.ref (He.ga K s.name))))) &&
  ((bltNames.all fun x => !(!L.fns.contains x && !L.exs.contains x && !(L.con.map (·.1)).contains x) || He.eqO (PySem.W.nsIn K mainGlobals x) (some none)) &&
  ((L.con.all fun c => match PySem.W.nsIn K mainGlobals c.1 with
    | some (some u) => repB K u c.2
    | _ => false) &&
  ((cs.all fun c => He.eqO (PySem.W.nsIn K mainGlobals c.name) (some (some (.ref (He.ga K c.name)))) && (rtB K file c.fld (He.ga K c.name) (He.ma K (He.ga K c.own) "__init__") && (decide (c.fld = ("reason" : Str)) || decide (c.fld = ("at" : Str))))) &&
  (cs.zipIdx.all fun c => cs.zipIdx.all fun d => decide (PySem.W.exmOne K (.ref (He.ga K c.1.name)) (.ref (He.ga K d.1.name)) = some (L.sub c.2 d.2)) && (!L.sub c.2 d.2 || decide (c.1.fld = d.1.fld))))))))
abbrev AlZ : Type := He.AlD × List FnI × Bool
def obsK (L : LawD) (cs : List ClsD) (file : Str) (K : PySem.W.Frag) : AlZ := (He.obsD [] (L.srcs.map (·.dd)) K, cs.map fun c => fnI K c.own, exZ L cs file K)
def obsZ (n : Nat) (L : LawD) (cs : List ClsD) (file : Str) (g : Addr → Option Obj) : AlZ := obsK L cs file (He.frG g (cStatics :: He.asD g n))
def valZ (L : LawD) (cs : List ClsD) : AlZ := (He.valD (L.srcs.map (·.dd)), cs.map fun c => initV c.fld c.q c.p1 c.p2 c.ps, true)
def hookZ (n : Nat) (L : LawD) (cs : List ClsD) (file : Str) : PySem.W.Hook where
  α := AlZ
  obs := fun s => obsZ n L cs file s.heap.get?
  val := fun _ => valZ L cs
  says := fun _ h => ∃ K : PySem.W.Frag, K.In h ∧ obsK L cs file K = valZ L cs
  of := fun _ _ e => ⟨_, He.frG_in, e⟩
  keeps := fun _ _ _ ⟨K, hK, c⟩ k => ⟨K, PySem.W.Frag.In.keeps hK k, c⟩
theorem obsZ_eq {n : Nat} {L : LawD} {cs : List ClsD} {file : Str} {g : Addr → Option Obj} {s : Shared} (h : ∀ a, g a = s.heap.get? a) : obsZ n L cs file g = (hookZ n L cs file).obs s := by
  have e : g = s.heap.get? := funext h
  rw [e] <;> rfl
theorem all_at {α : Type} {p : α → Bool} {l : List α} (h : l.all p = true) {i : Nat} {a : α} (e : l[i]? = some a) : p a = true := List.all_eq_true.mp h a (List.mem_of_getElem? e)
theorem lookup_in {β : Type} {x : Str} {d : β} : ∀ {l : List (Str × β)}, l.lookup x = some d → (x, d) ∈ l
  | [], h => by cases h
  | (y, u) :: r, h => by
    have h2 : (match x == y with | true => some u | false => r.lookup x) = some d := h
    cases q : (x == y) with
    | true =>
      rw [q] at h2
      rw [beq_iff_eq.mp q, ← Option.some.inj h2]
      exact List.mem_cons_self
    | false =>
      rw [q] at h2
      exact List.mem_cons_of_mem _ (lookup_in h2)
theorem lf_of {P : Program} {K : PySem.W.Frag} {mg : Str → Option Value} {h : Heap} {L : LawD} {cs : List ClsD} (X : K.In h) (G : h.Ns mainGlobals mg) (e : obsK L cs P.main.file K = valZ L cs)
    (hex : L.exs = cs.map (·.name)) (hfl : L.flds = cs.map (·.fld)) (htop : (P.main.scope.names.lookup ("super" : Str)).isSome = false) (hps : ∀ c ∈ cs, (c.ps.c.endLine == c.ps.e.line) = true)
    (hb : ∀ s ∈ L.srcs, ∀ (kV doc pm : Value) (an : Option Addr) (cdv ct : Value) (us : List Value), us.length = (argNames s.args).length → bindArgs (PySem.W.fnOf s.name s.name s.args s.body s.sc .none kV doc pm an cdv ct) ⟨us, []⟩ = pure ((argNames s.args).zip us)) :
    LF P K mg L (cs.map fun c => (He.ga K c.name, c.fld)) ∧ ∀ (a : Addr) (o : Obj), K.lookup a = some o → o.cls ≠ .type "list" := by
  have e1 : He.SaysD [] (L.srcs.map (·.dd)) K := congrArg (fun z : AlZ => z.1) e
  have e2 : cs.map (fun c => fnI K c.own) = cs.map fun c => initV c.fld c.q c.p1 c.p2 c.ps := congrArg (fun z : AlZ => z.2.1) e
  have e3 : exZ L cs P.main.file K = true := congrArg (fun z : AlZ => z.2.2) e
  unfold exZ at e3
  obtain ⟨a1, e3⟩ := He.ba e3
  obtain ⟨a2, e3⟩ := He.ba e3
  obtain ⟨a3, e3⟩ := He.ba e3
  obtain ⟨a4, e3⟩ := He.ba e3
  obtain ⟨a5, e3⟩ := He.ba e3
  obtain ⟨a6, a7⟩ := He.ba e3
  have inv : ∀ {k : Nat} {C : Addr} {fld : Str}, (cs.map fun c => (He.ga K c.name, c.fld))[k]? = some (C, fld) → ∃ c, cs[k]? = some c ∧ He.ga K c.name = C ∧ c.fld = fld := fun {k C fld} hk => by
    rw [List.getElem?_map] at hk
    obtain ⟨c, hc, hk⟩ := Option.map_eq_some_iff.mp hk
    cases hk
    exact ⟨c, hc, rfl, rfl⟩
  refine ⟨⟨fun i s hs => ?_, fun x hx hn => ?_, fun x d hd => ?_, fun k C fld hk => ?_, fun x k hk => ?_, fun k C fld m hk hm => ?_, fun k j C1 C2 f1 f2 h1 h2 => ?_, He.free_ok X G a2⟩, noLists_ok a1⟩
  · obtain ⟨fd, FD⟩ := e1.def_ i (d := s.dd) (by rw [List.getElem?_map, hs]; rfl)
    exact ⟨_, fd, PySem.W.mg_of X G (He.eqO_ok (all_at a3 hs)), FD, FunD.bindsN FD fun kV doc pm an cdv ct us hl => hb s (List.mem_of_getElem? hs) kV doc pm an cdv ct us hl⟩
  · have := List.all_eq_true.mp a4 x (List.contains_iff_mem.mp hx)
    rw [hn] at this
    exact PySem.W.mg_none_of X G (He.eqO_ok this)
  · have := List.all_eq_true.mp a5 _ (lookup_in hd)
    dsimp only at this
    split at this
    · rename_i u hu
      obtain ⟨v, r1, r2⟩ := repB_ok d u this
      exact ⟨v, u, PySem.W.mg_of X G hu, r1, r2⟩
    · cases this
  · obtain ⟨c, hc, rfl, rfl⟩ := inv hk
    obtain ⟨_, b2⟩ := He.ba (all_at a6 hc)
    obtain ⟨b2, b3⟩ := He.ba b2
    have e4 : (cs.map fun c => fnI K c.own)[k]? = (cs.map fun c => initV c.fld c.q c.p1 c.p2 c.ps)[k]? := by rw [e2]
    rw [List.getElem?_map, List.getElem?_map, hc] at e4
    refine ⟨_, rt_ok htop (hps c (List.mem_of_getElem? hc)) (Option.some.inj e4) b2, ?_⟩
    rw [Bool.or_eq_true, decide_eq_true_eq, decide_eq_true_eq] at b3
    exact b3
  · have h1 := idxOf_some hk
    rw [hex, List.getElem?_map] at h1
    obtain ⟨c, hc, rfl⟩ := Option.map_eq_some_iff.mp h1
    obtain ⟨b1, _⟩ := He.ba (all_at a6 hc)
    exact ⟨He.ga K c.name, c.fld, by rw [List.getElem?_map, hc]; rfl, PySem.W.mg_of X G (He.eqO_ok b1)⟩
  · obtain ⟨c, hc, rfl, rfl⟩ := inv hk
    rw [hfl, List.getElem?_map, hc] at hm
    exact Option.some.inj hm
  · obtain ⟨c, hc, rfl, rfl⟩ := inv h1
    obtain ⟨d, hd, rfl, rfl⟩ := inv h2
    have zc : cs.zipIdx[k]? = some (c, k) := by rw [List.getElem?_zipIdx, hc]; simp
    have zd : cs.zipIdx[j]? = some (d, j) := by rw [List.getElem?_zipIdx, hd]; simp
    obtain ⟨b1, b2⟩ := He.ba (all_at (all_at a7 zc) zd)
    refine ⟨of_decide_eq_true b1, fun hs => ?_⟩
    dsimp only at b2
    rw [hs] at b2
    exact of_decide_eq_true b2
/-- what walk_ofF wants, of the plain law -/
theorem facts_of {P : Program} {L : LawD} {T : List Fn} {cs : List ClsD} {li M n : Nat} {sl : SrcF} {x : Str} {w : World} {mg : Str → Option Value} {fa : Addr} {h : Heap}
    (hT : L.all = some T) (hsl : L.srcs[li]? = some sl) (hx : argNames sl.args = [x]) (hio : sl.io = []) (hex : L.exs = cs.map (·.name)) (hfl : L.flds = cs.map (·.fld)) (htop : (P.main.scope.names.lookup ("super" : Str)).isSome = false) (hps : ∀ c ∈ cs, (c.ps.c.endLine == c.ps.e.line) = true)
    (hb : ∀ s ∈ L.srcs, ∀ (kV doc pm : Value) (an : Option Addr) (cdv ct : Value) (us : List Value), us.length = (argNames s.args).length → bindArgs (PySem.W.fnOf s.name s.name s.args s.body s.sc .none kV doc pm an cdv ct) ⟨us, []⟩ = pure ((argNames s.args).zip us))
    (plain : ∀ ns : List Int, ns.length ≤ n → ∃ ow, run T L.sub L.W M li [.list (ns.map .int)] = .ok ⟨.bool true, ow, []⟩)
    (Y : ∃ K : PySem.W.Frag, K.In h ∧ obsK L cs P.main.file K = valZ L cs) (G : h.Ns mainGlobals mg) (hmg : mg sl.name = some (.ref fa)) :
    ∃ (K : PySem.W.Frag) (fd : FuncData) (sp : Sp), K.In h ∧ (∀ (a : Addr) (o : Obj), K.lookup a = some o → o.cls ≠ .type "list") ∧ (∀ (s : Shared) (u : Value), BindsTo s fd ⟨[u], []⟩ [(x, u)]) ∧
        (∀ (H : Hp) (a : Addr) (ns : List Int), ns.length ≤ n → (∀ z ∈ ns, Builtin.Int.intBits z ≤ 1048576) → Rd H a (.lst (ns.map V.int)) → sp [.ref a] H (fun v _ => v = .bl true) fun _ _ _ => False) ∧
        ∀ base : Heap, FOk P w K mg base (M + 2) fa fd [x] sp := by
  obtain ⟨K, X, e⟩ := Y
  obtain ⟨F, nl⟩ := lf_of X G e hex hfl htop hps hb
  obtain ⟨a, fd, h1, FD, _⟩ := F.fns li sl hsl
  obtain rfl : fa = a := by
    have := hmg.symm.trans h1
    cases this
    rfl
  obtain ⟨fn, hfn, hTi⟩ := mapM_get hT li sl hsl
  obtain ⟨_, hfn⟩ := opt_if hfn
  obtain ⟨b, _, rfl⟩ := opt_map hfn
  refine ⟨K, fd, spF (Gm K L T _ M) li, X, nl, fun s u => ?_, fun H a ns hl _ hS => law_sp hTi hio (by rw [hx]; rfl) (plain ns hl) hS, fun base => hx ▸ all_ok F hT M li sl hsl _ fd FD⟩
  have := FunD.bindsA (ps := argNames sl.args) FD (hb sl (List.mem_of_getElem? hsl)) s [u] (by rw [hx]; rfl)
  rw [hx] at this
  exact this
end SF

/-! Rules by which simp runs the small language. -/
namespace SF
open PySem PySem.Spec
/-! ### results -/
theorem bnd_ok {α β : Type} (a : α) (f : α → R β) : (R.ok a).bind f = f a := id rfl
theorem bnd_ex {α β : Type} (c : Nat) (ds : List D) (f : α → R β) : (R.ex c ds : R α).bind f = .ex c ds := id rfl
theorem bnd_no {α β : Type} (f : α → R β) : (R.no : R α).bind f = .no := id rfl
theorem calm_ok {α : Type} (a : α) : (R.ok a).calm = .ok a := id rfl
theorem of_some {α : Type} (a : α) : R.of (some a) = .ok a := id rfl
theorem R.bind_ite {α β : Type} (c : Prop) [Decidable c] (a b : R α) (f : α → R β) : (if c then a else b).bind f = if c then a.bind f else b.bind f := by split <;> rfl
theorem R.bind_eq_ok {α β : Type} {r : R α} {f : α → R β} {b : β} (a : α) (h : r = .ok a) (h2 : f a = .ok b) : r.bind f = .ok b := by rw [h]; exact h2
theorem ite_okB {σ : Type} (c : Prop) [Decidable c] (a b : Bool) (s : σ) : (if c then R.ok (a, s) else R.ok (b, s)) = R.ok (if c then a else b, s) := by split <;> rfl
theorem ite_okD {σ : Type} (c : Prop) [Decidable c] (a b : D) (s : σ) : (if c then R.ok (a, s) else R.ok (b, s)) = R.ok (if c then a else b, s) := by split <;> rfl
theorem ite_int (c : Prop) [Decidable c] (a b : Int) : (if c then PyData.int a else .int b) = .int (if c then a else b) := by split <;> rfl
theorem ite_bool (c : Prop) [Decidable c] (a b : Bool) : (if c then PyData.bool a else .bool b) = .bool (if c then a else b) := by split <;> rfl
theorem ite_tf (c : Prop) [Decidable c] : (if c then true else false) = decide c := by split <;> simp [*]
theorem ite_ft (c : Prop) [Decidable c] : (if c then false else true) = !decide c := by split <;> simp [*]
theorem ite_bf (c : Prop) [Decidable c] (b : Bool) : (if c then b else false) = (decide c && b) := by split <;> simp [*]
theorem ite_tb (c : Prop) [Decidable c] (b : Bool) : (if c then true else b) = (decide c || b) := by split <;> simp [*]
/-! ### names -/
def Slot.opt : Option D → Slot
  | none => .emp
  | some d => .val d
theorem opt_none : Slot.opt none = .emp := id rfl
theorem opt_some (d : D) : Slot.opt (some d) = .val d := id rfl
section
variable (d e : D) (o : Option D) (s : Slot) (r : Nv) (i : Nat) (ow : Bool) (f : D → R D)
theorem peek_v : peek (.val d :: r) 0 = .ok d := id rfl
theorem peek_o : peek (.own d :: r) 0 = .ok d := id rfl
theorem peek_io : peek (.io d :: r) 0 = .ok d := id rfl
theorem peek_s : peek (s :: r) (i + 1) = peek r i := by unfold peek; rw [List.getElem?_cons_succ]
theorem leak_v : leak (.val d :: r) 0 = .ok (d, .val d :: r) := id rfl
theorem leak_o : leak (.own d :: r) 0 = .ok (d, .val d :: r) := id rfl
theorem leak_s : leak (s :: r) (i + 1) = (leak r i).bind fun q => .ok (q.1, s :: q.2) := by
  unfold leak; rw [List.getElem?_cons_succ]
  cases r[i]? with
  | none => rfl
  | some x => cases x <;> rfl
theorem put_e : put (.emp :: r) 0 e ow = .ok ((if ow then .own e else .val e) :: r) := id rfl
theorem put_v : put (.val d :: r) 0 e ow = .ok ((if ow then .own e else .val e) :: r) := id rfl
theorem put_o : put (.own d :: r) 0 e ow = .ok ((if ow then .own e else .val e) :: r) := id rfl
theorem put_opt : put (.opt o :: r) 0 e ow = .ok ((if ow then .own e else .val e) :: r) := by cases o <;> rfl
theorem put_s : put (s :: r) (i + 1) e ow = (put r i e ow).bind fun q => .ok (s :: q) := by
  unfold put; rw [List.getElem?_cons_succ]
  cases r[i]? with
  | none => rfl
  | some x => cases x <;> rfl
theorem alter_o : alter (.own d :: r) 0 f = (f d).bind fun e => .ok (.own e :: r) := id rfl
theorem alter_io : alter (.io d :: r) 0 f = (f d).bind fun e => .ok (.io e :: r) := id rfl
theorem alter_s : alter (s :: r) (i + 1) f = (alter r i f).bind fun q => .ok (s :: q) := by
  unfold alter; rw [List.getElem?_cons_succ]
  cases r[i]? with
  | none => rfl
  | some x => cases x <;> first | rfl | (show R.bind (f _) _ = R.bind (R.bind (f _) _) _; rw [R.bind_assoc]; rfl)
theorem holds_e : holdsAt (.emp :: r) 0 = false := id rfl
theorem holds_v : holdsAt (.val d :: r) 0 = false := id rfl
theorem holds_o : holdsAt (.own d :: r) 0 = true := id rfl
theorem holds_io : holdsAt (.io d :: r) 0 = true := id rfl
theorem holds_opt : holdsAt (.opt o :: r) 0 = false := by cases o <;> rfl
theorem holds_s : holdsAt (s :: r) (i + 1) = holdsAt r i := by unfold holdsAt; rw [List.getElem?_cons_succ]
theorem ownAt_e : ownAt (.emp :: r) 0 = false := id rfl
theorem ownAt_v : ownAt (.val d :: r) 0 = false := id rfl
theorem ownAt_o : ownAt (.own d :: r) 0 = true := id rfl
theorem ownAt_io : ownAt (.io d :: r) 0 = false := id rfl
theorem ownAt_s : ownAt (s :: r) (i + 1) = ownAt r i := by unfold ownAt; rw [List.getElem?_cons_succ]
theorem listAt_o (l : List D) : listAt (.own (.list l) :: r) 0 = true := id rfl
theorem listAt_io (l : List D) : listAt (.io (.list l) :: r) 0 = true := id rfl
theorem listAt_s : listAt (s :: r) (i + 1) = listAt r i := by unfold listAt; rw [List.getElem?_cons_succ]
/-- a lent name's slot behind the call -/
def share1 : Slot → Slot
  | .own d => .val d
  | s => s
def shareAt : Nat → Nv → Nv
  | _, [] => []
  | 0, s :: r => share1 s :: r
  | i + 1, s :: r => s :: shareAt i r
theorem shareAt_0 : shareAt 0 (s :: r) = share1 s :: r := id rfl
theorem shareAt_s : shareAt (i + 1) (s :: r) = s :: shareAt i r := id rfl
theorem share1_o : share1 (.own d) = .val d := id rfl
theorem share1_v : share1 (.val d) = .val d := id rfl
theorem share1_e : share1 .emp = .emp := id rfl
theorem share1_io : share1 (.io d) = .io d := id rfl
theorem shareAt_eq : ∀ (i : Nat) (nv : Nv), shareAt i nv = match nv[i]? with | some (.own d) => nv.set i (.val d) | _ => nv
  | _, [] => by unfold shareAt; rfl
  | 0, s :: r => by cases s <;> rfl
  | i + 1, s :: r => by
    show s :: shareAt i r = _
    rw [shareAt_eq i r, List.getElem?_cons_succ]
    cases r[i]? with
    | none => rfl
    | some x => cases x <;> rfl
theorem share_nil (nv : Nv) : share [] nv = nv := id rfl
theorem share_cons (l : List Nat) (nv : Nv) : share (i :: l) nv = shareAt i (share l nv) := by
  rw [shareAt_eq]
  show (match (share l nv)[i]? with | some (.own d) => (share l nv).set i (.val d) | _ => share l nv) = _
  rfl
end
/-- handing out one thing -/
def setHeld : Nat → D → Nv → R Nv
  | _, _, [] => .no
  | 0, d, .own _ :: r => .ok (.own d :: r)
  | 0, d, .io _ :: r => .ok (.io d :: r)
  | 0, _, _ :: _ => .no
  | i + 1, d, s :: r => (setHeld i d r).bind fun q => .ok (s :: q)
section
variable (d e : D) (s : Slot) (r : Nv) (i : Nat)
theorem setHeld_o : setHeld 0 d (.own e :: r) = .ok (.own d :: r) := id rfl
theorem setHeld_io : setHeld 0 d (.io e :: r) = .ok (.io d :: r) := id rfl
theorem setHeld_s : setHeld (i + 1) d (s :: r) = (setHeld i d r).bind fun q => .ok (s :: q) := by cases s <;> rfl
end
theorem setHeld_eq : ∀ (i : Nat) (d : D) (nv : Nv), setHeld i d nv = match nv[i]? with | some (.own _) => .ok (nv.set i (.own d)) | some (.io _) => .ok (nv.set i (.io d)) | _ => .no
  | _, _, [] => by unfold setHeld; rfl
  | 0, _, s :: r => by cases s <;> rfl
  | i + 1, d, s :: r => by
    rw [setHeld_s, setHeld_eq i d r, List.getElem?_cons_succ]
    cases r[i]? with
    | none => rfl
    | some x => cases x <;> rfl
theorem handOut_nil (nv : Nv) : handOut [] nv = .ok nv := id rfl
theorem handOut_one (i : Nat) (d : D) (nv : Nv) : handOut [(i, d)] nv = setHeld i d nv := by
  rw [setHeld_eq]
  unfold handOut
  cases nv[i]? with
  | none => rfl
  | some x => cases x <;> rfl
/-! ### what is lent -/
def nm1 : CE → Option Nat
  | .v i => some i
  | _ => none
def lentC (l : List Nat) (b : Bool) (nv : Nv) (e : Option Nat) : List Nat := if b then l else match e with
  | some i => if holdsAt nv i then i :: l else l
  | none => l
def lentG (io : List Nat) (nv : Nv) : Nat → CEs → List Nat
  | _, .nil => []
  | j, .cons e es => lentC (lentG io nv (j + 1) es) (io.contains j) nv (nm1 e)
def lentF (io : List Nat) (nv : Nv) (es : CEs) (j : Nat) : Option Nat := if io.contains j then none else (nameAt es j).bind fun i => if holdsAt nv i then some i else none
theorem lentG_eq (io : List Nat) (nv : Nv) (es0 : CEs) : ∀ (es : CEs) (k : Nat), (∀ j, argAt es j = argAt es0 (k + j)) → lentG io nv k es = (List.range' k es.len).filterMap (lentF io nv es0)
  | .nil, k, h => by
    show [] = (List.range' k 0).filterMap _
    rfl
  | .cons e es, k, h => by
    have h0 : argAt es0 k = some e := (h 0).symm
    have ih := lentG_eq io nv es0 es (k + 1) (fun j => by have := h (j + 1); rw [show k + (j + 1) = k + 1 + j by omega] at this; exact this)
    show lentC (lentG io nv (k + 1) es) (io.contains k) nv (nm1 e) = (List.range' k (es.len + 1)).filterMap _
    rw [List.range'_succ, List.filterMap_cons, ← ih]
    have hn : lentF io nv es0 k = if io.contains k then none else (nm1 e).bind fun i => if holdsAt nv i then some i else none := by
      unfold lentF nameAt; rw [h0]; cases e <;> rfl
    rw [hn]
    unfold lentC
    cases io.contains k with
    | true => rfl
    | false =>
      cases nm1 e with
      | none => rfl
      | some i =>
        simp only [Bool.false_eq_true, if_false, Option.bind_some]
        cases holdsAt nv i <;> rfl
theorem lent_eq (io : List Nat) (nv : Nv) (es : CEs) : lent io nv es = lentG io nv 0 es := by
  rw [lentG_eq io nv es es 0 (fun j => by rw [Nat.zero_add]), ← List.range_eq_range']
  rfl
section
variable (io : List Nat) (nv : Nv) (j i : Nat) (e : CE) (es : CEs) (l : List Nat)
theorem lentG_nil : lentG io nv j .nil = [] := id rfl
theorem lentG_cons : lentG io nv j (.cons e es) = lentC (lentG io nv (j + 1) es) (io.contains j) nv (nm1 e) := id rfl
theorem lentC_t (o : Option Nat) : lentC l true nv o = l := id rfl
theorem lentC_n : lentC l false nv none = l := id rfl
theorem lentC_s : lentC l false nv (some i) = if holdsAt nv i then i :: l else l := id rfl
end
/-- the caller's side, none changed -/
def callA0 (r : R Ret) (ls : List Nat) (nv : Nv) : R (D × Bool × Nv) :=
  if ls.all (ownAt nv) then r.bind fun r => if r.outs.length = 0 then .ok (r.d, r.ow, if ls.isEmpty || still r.d then nv else share ls nv) else .no else .no
theorem callFn_0 {T : List Fn} {call : Call} {f : Nat} {fn : Fn} {es : CEs} {ds : List D} {nv : Nv} (hf : T[f]? = some fn) (hio : fn.io = []) :
    callFn T call f es ds nv = callA0 (call f ds) (lentG [] nv 0 es) nv := by
  unfold callFn
  rw [hf]
  show (if callOk fn.io nv es then _ else R.no) = _
  rw [hio, ← lent_eq]
  have e : callOk [] nv es = (lent [] nv es).all (ownAt nv) := by unfold callOk; simp
  rw [e]
  unfold callA0
  split
  · congr 1; funext r
    obtain ⟨d, ow, outs⟩ := r
    cases outs with
    | nil =>
      simp only [List.length_nil, if_true, List.map_nil, List.zip_nil_left, handOut_nil, R.bind_ok, List.all_nil, Bool.and_true]
      cases hl : lent [] nv es with
      | nil => simp [share]
      | cons a l => simp
    | cons o os => simp
  · rfl
theorem callA0_ok (d : D) (ow : Bool) (ls : List Nat) (nv : Nv) : callA0 (.ok ⟨d, ow, []⟩) ls nv = if ls.all (ownAt nv) then .ok (d, ow, if ls.isEmpty || still d then nv else share ls nv) else .no := id rfl
theorem callA0_nil (d : D) (ow : Bool) (nv : Nv) : callA0 (.ok ⟨d, ow, []⟩) [] nv = .ok (d, ow, nv) := id rfl
theorem callA0_ex (c : Nat) (xs : List D) (ls : List Nat) (nv : Nv) : callA0 (.ex c xs) ls nv = if ls.all (ownAt nv) then .ex c xs else .no := id rfl
theorem callA0_exnil (c : Nat) (xs : List D) (nv : Nv) : callA0 (.ex c xs) [] nv = .ex c xs := id rfl
theorem callA0_ite (c : Prop) [Decidable c] (p q : R Ret) (ls : List Nat) (nv : Nv) : callA0 (if c then p else q) ls nv = if c then callA0 p ls nv else callA0 q ls nv := by split <;> rfl
/-- the caller's side, one thing changed: the name that stands there -/
def callA1 (r : R Ret) (i : Option Nat) (ls : List Nat) (nv : Nv) : R (D × Bool × Nv) := match i with
  | none => .no
  | some i => if holdsAt nv i && !ls.contains i && ls.all (ownAt nv) then r.bind fun r => match r.outs with
      | [o] => (setHeld i o (if ls.isEmpty || (still r.d && stillIn o) then nv else share ls nv)).bind fun nv2 => .ok (r.d, r.ow, nv2)
      | _ => .no
    else .no
theorem callFn_1 {T : List Fn} {call : Call} {f k : Nat} {fn : Fn} {es : CEs} {ds : List D} {nv : Nv} (hf : T[f]? = some fn) (hio : fn.io = [k]) :
    callFn T call f es ds nv = callA1 (call f ds) (nameAt es k) (lentG [k] nv 0 es) nv := by
  unfold callFn
  rw [hf]
  show (if callOk fn.io nv es then _ else R.no) = _
  rw [hio, ← lent_eq]
  cases hn : nameAt es k with
  | none =>
    have e : callOk [k] nv es = false := by unfold callOk; simp [hn]
    rw [e]; rfl
  | some i =>
    have e : callOk [k] nv es = (holdsAt nv i && !(lent [k] nv es).contains i && (lent [k] nv es).all (ownAt nv)) := by unfold callOk; simp [hn]
    rw [e]
    unfold callA1
    show (if _ then _ else R.no) = if _ then _ else _
    split
    · congr 1; funext r
      obtain ⟨d, ow, outs⟩ := r
      match outs with
      | [] => rfl
      | [o] =>
        simp only [List.length_cons, List.length_nil, if_true, List.map_cons, List.map_nil, hn, Option.getD_some, List.zip_cons_cons, List.zip_nil_left, handOut_one, List.all_cons, List.all_nil, Bool.and_true]
        cases hl : lent [k] nv es with
        | nil => simp [share]
        | cons a l => simp
      | a :: b :: l => simp
    · rfl
theorem callA1_ok (d o : D) (ow : Bool) (i : Nat) (ls : List Nat) (nv : Nv) : callA1 (.ok ⟨d, ow, [o]⟩) (some i) ls nv = if holdsAt nv i && !ls.contains i && ls.all (ownAt nv) then
    (setHeld i o (if ls.isEmpty || (still d && stillIn o) then nv else share ls nv)).bind fun nv2 => .ok (d, ow, nv2) else .no := rfl
theorem callA1_ex (c : Nat) (xs : List D) (i : Nat) (ls : List Nat) (nv : Nv) : callA1 (.ex c xs) (some i) ls nv = if holdsAt nv i && !ls.contains i && ls.all (ownAt nv) then .ex c xs else .no := id rfl
theorem callA1_ite (c : Prop) [Decidable c] (p q : R Ret) (i : Option Nat) (ls : List Nat) (nv : Nv) : callA1 (if c then p else q) i ls nv = if c then callA1 p i ls nv else callA1 q i ls nv := by split <;> rfl
theorem nameAt_0 (i : Nat) (es : CEs) : nameAt (.cons (.v i) es) 0 = some i := id rfl
theorem nameAt_s (e : CE) (es : CEs) (j : Nat) : nameAt (.cons e es) (j + 1) = nameAt es j := id rfl
end SF

/-! Rules by which simp runs the small language: expressions and statements. -/
namespace SF
open PySem PySem.Spec
/-- what a plain node's test is -/
def asT (r : R (D × Bool × Nv)) : R (Bool × Nv) := r.bind fun r => (R.of (truth r.1)).bind fun b => .ok (b, r.2.2)
theorem asT_ok (d : D) (ow : Bool) (nv : Nv) : asT (.ok (d, ow, nv)) = (R.of (truth d)).bind fun b => .ok (b, nv) := id rfl
theorem asT_ite (c : Prop) [Decidable c] (a b : R (D × Bool × Nv)) : asT (if c then a else b) = if c then asT a else asT b := by split <;> rfl
theorem asT_no : asT .no = .no := id rfl
theorem asT_ex (c : Nat) (ds : List D) : asT (.ex c ds) = .ex c ds := id rfl
theorem truth_b (b : Bool) : truth (.bool b) = some b := id rfl
theorem truth_i (i : Int) : truth (.int i) = some (i != 0) := id rfl
theorem truth_n : truth .none = some false := id rfl
theorem truth_l (l : List D) : truth (.list l) = some (!l.isEmpty) := id rfl
theorem truth_t (l : List D) : truth (.tuple l) = some (!l.isEmpty) := id rfl
theorem truth_d (l : List (D × D)) : truth (.dict l) = some (!l.isEmpty) := id rfl
/-- the turn of a comprehension -/
def lcT (T : List Fn) (call : Call) (tg : Tg) (cond elt : CE) (d : D) (n0 : Nv) : R (Option D × Nv) :=
  (asg tg d false n0).bind fun n1 => ((evB T call cond).t n1).bind fun b => if b.1 then ((evB T call elt).v b.2).bind fun x => .ok (some x.1, x.2.2) else .ok (none, b.2)
def dcT (T : List Fn) (call : Call) (tg : Tg) (cond key elt : CE) (d : D) (n0 : Nv) : R (Option (D × D) × Nv) :=
  (asg tg d false n0).bind fun n1 => ((evB T call cond).t n1).bind fun b => if b.1 then ((evB T call key).v b.2).bind fun k => ((evB T call elt).v k.2.2).bind fun x => .ok (some (k.1, x.1), x.2.2) else .ok (none, b.2)
def chR (q : D × Bool) (nv : Nv) (k : R (D × Bool × Nv)) : R (D × Bool × Nv) := match q.1 with
  | .bool true => k
  | .bool false => .ok (.bool false, false, nv)
  | _ => .no
theorem chR_b (b ow : Bool) (nv : Nv) (k : R (D × Bool × Nv)) : chR (.bool b, ow) nv k = if b then k else .ok (.bool false, false, nv) := by cases b <;> rfl
def andR (d : D) (nv : Nv) (k : R (D × Bool × Nv)) : R (D × Bool × Nv) := match d with
  | .bool true => k
  | .bool false => .ok (.bool false, false, nv)
  | _ => .no
theorem andR_b (b : Bool) (nv : Nv) (k : R (D × Bool × Nv)) : andR (.bool b) nv k = if b then k else .ok (.bool false, false, nv) := by cases b <;> rfl
def orR (d : D) (nv : Nv) (k : R (D × Bool × Nv)) : R (D × Bool × Nv) := match d with
  | .bool false => k
  | .bool true => .ok (.bool true, false, nv)
  | _ => .no
theorem orR_b (b : Bool) (nv : Nv) (k : R (D × Bool × Nv)) : orR (.bool b) nv k = if b then .ok (.bool true, false, nv) else k := by cases b <;> rfl
def notR (d : D) (nv : Nv) : R (D × Bool × Nv) := match d with
  | .bool b => .ok (.bool !b, false, nv)
  | _ => .no
theorem notR_b (b : Bool) (nv : Nv) : notR (.bool b) nv = .ok (.bool !b, false, nv) := id rfl
def evI' (T : List Fn) (call : Call) := evI T call
section
variable (T : List Fn) (call : Call) (sub : Nat → Nat → Bool) (W : Nat) (nv : Nv) (d : D) (i : Nat) (x : Str) (a b c : CE) (es : CEs)
theorem v_k : (evB T call (.k d)).v nv = .ok (d, false, nv) := id rfl
theorem v_v : (evB T call (.v i)).v nv = (leak nv i).bind fun r => .ok (r.1, false, r.2) := id rfl
theorem v_g : (evB T call (.g x d)).v nv = .ok (d, false, nv) := id rfl
theorem v_o1 (o : Op1) : (evB T call (.o1 o a)).v nv = (evO T call a nv).bind fun r => (fin a r.2 r.1).bind fun x => (op1 o x).bind fun q => .ok (q.1, q.2, r.2) := id rfl
theorem v_o2 (o : Op2) : (evB T call (.o2 o a b)).v nv = (evO T call a nv).bind fun r => (evO T call b r.2).bind fun r2 => (fin a r2.2 r.1).bind fun x => (fin b r2.2 r2.1).bind fun y => (op2 o x y).bind fun q => .ok (q.1, q.2, r2.2) := id rfl
theorem v_o3 (o : Op3) : (evB T call (.o3 o a b c)).v nv = (evO T call a nv).bind fun r => (evO T call b r.2).bind fun r2 => (evO T call c r2.2).bind fun r3 =>
      (fin a r3.2 r.1).bind fun x => (fin b r3.2 r2.1).bind fun y => (fin c r3.2 r3.1).bind fun z => (op3 o x y z).bind fun q => .ok (q.1, q.2, r3.2) := rfl
theorem v_ch (o p : Op2) : (evB T call (.ch o p a b c)).v nv = (evO T call a nv).bind fun r => (evO T call b r.2).bind fun r2 => (fin a r2.2 r.1).bind fun x => (fin b r2.2 r2.1).bind fun y => (op2 o x y).bind fun q =>
      chR q r2.2 ((evO T call c r2.2).bind fun r3 => (fin b r3.2 r2.1).bind fun y => (fin c r3.2 r3.1).bind fun z => (op2 p y z).bind fun q => .ok (q.1, q.2, r3.2)) := rfl
theorem v_sl (lo hi : CO) : (evB T call (.sl a lo hi)).v nv = (evO T call a nv).bind fun r => (evP T call lo r.2).bind fun l => (evP T call hi l.2).bind fun h => (fin a h.2 r.1).bind fun x => (cutD x l.1 h.1).bind fun q => .ok (q.1, q.2, h.2) := id rfl
theorem v_and : (evB T call (.and a b)).v nv = ((evB T call a).v nv).bind fun r => andR r.1 r.2.2 ((evB T call b).v r.2.2) := id rfl
theorem v_or : (evB T call (.or a b)).v nv = ((evB T call a).v nv).bind fun r => orR r.1 r.2.2 ((evB T call b).v r.2.2) := id rfl
theorem v_not : (evB T call (.not a)).v nv = ((evB T call a).v nv).bind fun r => notR r.1 r.2.2 := id rfl
theorem v_ite : (evB T call (.ite a b c)).v nv = ((evB T call a).t nv).bind fun r => if r.1 then (evB T call b).v r.2 else (evB T call c).v r.2 := id rfl
theorem v_tup : (evB T call (.tup es)).v nv = (evs T call es nv).bind fun r => .ok (.tuple r.1, false, r.2) := id rfl
theorem v_lst : (evB T call (.lst es)).v nv = (evs T call es nv).bind fun r => .ok (.list r.1, true, r.2) := id rfl
theorem v_dct : (evB T call (.dct es)).v nv = (evs T call es nv).bind fun r => (R.of (twos r.1)).bind fun ps => if ps.all (fun p => isKey p.1) && decide (ps.length ≤ 15) then .ok (.dict (dPuts [] ps), true, r.2) else .no := id rfl
theorem v_call (f : Nat) : (evB T call (.call f es)).v nv = (evAs T call es nv).bind fun r => (fins es r.2 r.1).bind fun ds => callFn T call f es ds r.2 := id rfl
theorem v_lc (own : List Nat) (tg : Tg) (it : CI) (cond elt : CE) : (evB T call (.lc own tg it cond elt)).v nv = (evI T call it nv).bind fun r => if blankOk own r.2 then
      ((lcR (fun d n => lcT T call tg cond elt d (blank own n)) r.1 [] r.2).calm).bind fun q => .ok (.list q.1, true, back own r.2 q.2) else .no := rfl
theorem v_dc (own : List Nat) (tg : Tg) (it : CI) (cond key elt : CE) : (evB T call (.dc own tg it cond key elt)).v nv = (evI T call it nv).bind fun r => if blankOk own r.2 then
      ((dcR (fun d n => dcT T call tg cond key elt d (blank own n)) r.1 [] r.2).calm).bind fun q => .ok (.dict q.1, true, back own r.2 q.2) else .no := rfl
/-! tests -/
theorem t_k : (evB T call (.k d)).t nv = asT ((evB T call (.k d)).v nv) := id rfl
theorem t_v : (evB T call (.v i)).t nv = (peek nv i).bind fun d => (R.of (truth d)).bind fun b => .ok (b, nv) := id rfl
theorem t_g : (evB T call (.g x d)).t nv = asT ((evB T call (.g x d)).v nv) := id rfl
theorem t_o1 (o : Op1) : (evB T call (.o1 o a)).t nv = asT ((evB T call (.o1 o a)).v nv) := id rfl
theorem t_o2 (o : Op2) : (evB T call (.o2 o a b)).t nv = asT ((evB T call (.o2 o a b)).v nv) := id rfl
theorem t_o3 (o : Op3) : (evB T call (.o3 o a b c)).t nv = asT ((evB T call (.o3 o a b c)).v nv) := id rfl
theorem t_ch (o p : Op2) : (evB T call (.ch o p a b c)).t nv = asT ((evB T call (.ch o p a b c)).v nv) := id rfl
theorem t_sl (lo hi : CO) : (evB T call (.sl a lo hi)).t nv = asT ((evB T call (.sl a lo hi)).v nv) := id rfl
theorem t_and : (evB T call (.and a b)).t nv = ((evB T call a).t nv).bind fun r => if r.1 then (evB T call b).t r.2 else .ok (false, r.2) := id rfl
theorem t_or : (evB T call (.or a b)).t nv = ((evB T call a).t nv).bind fun r => if r.1 then .ok (true, r.2) else (evB T call b).t r.2 := id rfl
theorem t_not : (evB T call (.not a)).t nv = ((evB T call a).t nv).bind fun r => .ok (!r.1, r.2) := id rfl
theorem t_ite : (evB T call (.ite a b c)).t nv = ((evB T call a).t nv).bind fun r => if r.1 then (evB T call b).t r.2 else (evB T call c).t r.2 := id rfl
theorem t_tup : (evB T call (.tup es)).t nv = asT ((evB T call (.tup es)).v nv) := id rfl
theorem t_lst : (evB T call (.lst es)).t nv = asT ((evB T call (.lst es)).v nv) := id rfl
theorem t_dct : (evB T call (.dct es)).t nv = asT ((evB T call (.dct es)).v nv) := id rfl
theorem t_call (f : Nat) : (evB T call (.call f es)).t nv = asT ((evB T call (.call f es)).v nv) := id rfl
theorem t_lc (own : List Nat) (tg : Tg) (it : CI) (cond elt : CE) : (evB T call (.lc own tg it cond elt)).t nv = asT ((evB T call (.lc own tg it cond elt)).v nv) := id rfl
/-! operands -/
/-- a value that is no name -/
def noV (r : R (D × Bool × Nv)) : R (D × Nv) := r.bind fun r => .ok (r.1, r.2.2)
theorem noV_ok (ow : Bool) : noV (.ok (d, ow, nv)) = .ok (d, nv) := id rfl
theorem noV_ite (c : Prop) [Decidable c] (a b : R (D × Bool × Nv)) : noV (if c then a else b) = if c then noV a else noV b := by split <;> rfl
theorem noV_no : noV .no = .no := id rfl
theorem noV_ex (c : Nat) (ds : List D) : noV (.ex c ds) = .ex c ds := id rfl
theorem O_v : evO T call (.v i) nv = (peek nv i).bind fun d => .ok (d, nv) := id rfl
theorem O_k : evO T call (.k d) nv = .ok (d, nv) := id rfl
theorem O_g : evO T call (.g x d) nv = .ok (d, nv) := id rfl
theorem O_o1 (o : Op1) : evO T call (.o1 o a) nv = noV ((evB T call (.o1 o a)).v nv) := id rfl
theorem O_o2 (o : Op2) : evO T call (.o2 o a b) nv = noV ((evB T call (.o2 o a b)).v nv) := id rfl
theorem O_o3 (o : Op3) : evO T call (.o3 o a b c) nv = noV ((evB T call (.o3 o a b c)).v nv) := id rfl
theorem O_ch (o p : Op2) : evO T call (.ch o p a b c) nv = noV ((evB T call (.ch o p a b c)).v nv) := id rfl
theorem O_sl (lo hi : CO) : evO T call (.sl a lo hi) nv = noV ((evB T call (.sl a lo hi)).v nv) := id rfl
theorem O_and : evO T call (.and a b) nv = noV ((evB T call (.and a b)).v nv) := id rfl
theorem O_or : evO T call (.or a b) nv = noV ((evB T call (.or a b)).v nv) := id rfl
theorem O_not : evO T call (.not a) nv = noV ((evB T call (.not a)).v nv) := id rfl
theorem O_ite : evO T call (.ite a b c) nv = noV ((evB T call (.ite a b c)).v nv) := id rfl
theorem O_tup : evO T call (.tup es) nv = noV ((evB T call (.tup es)).v nv) := id rfl
theorem O_lst : evO T call (.lst es) nv = noV ((evB T call (.lst es)).v nv) := id rfl
theorem O_dct : evO T call (.dct es) nv = noV ((evB T call (.dct es)).v nv) := id rfl
theorem O_call (f : Nat) : evO T call (.call f es) nv = noV ((evB T call (.call f es)).v nv) := id rfl
theorem O_lc (own : List Nat) (tg : Tg) (it : CI) (cond elt : CE) : evO T call (.lc own tg it cond elt) nv = noV ((evB T call (.lc own tg it cond elt)).v nv) := id rfl
theorem O_dc (own : List Nat) (tg : Tg) (it : CI) (cond key elt : CE) : evO T call (.dc own tg it cond key elt) nv = noV ((evB T call (.dc own tg it cond key elt)).v nv) := id rfl
theorem fin_v : fin (.v i) nv d = peek nv i := id rfl
theorem fin_k (e : D) : fin (.k e) nv d = .ok d := id rfl
theorem fin_g (e : D) : fin (.g x e) nv d = .ok d := id rfl
theorem fin_o1 (o : Op1) : fin (.o1 o a) nv d = .ok d := id rfl
theorem fin_o2 (o : Op2) : fin (.o2 o a b) nv d = .ok d := id rfl
theorem fin_o3 (o : Op3) : fin (.o3 o a b c) nv d = .ok d := id rfl
theorem fin_ch (o p : Op2) : fin (.ch o p a b c) nv d = .ok d := id rfl
theorem fin_sl (lo hi : CO) : fin (.sl a lo hi) nv d = .ok d := id rfl
theorem fin_and : fin (.and a b) nv d = .ok d := id rfl
theorem fin_or : fin (.or a b) nv d = .ok d := id rfl
theorem fin_not : fin (.not a) nv d = .ok d := id rfl
theorem fin_ite : fin (.ite a b c) nv d = .ok d := id rfl
theorem fin_tup : fin (.tup es) nv d = .ok d := id rfl
theorem fin_lst : fin (.lst es) nv d = .ok d := id rfl
theorem fin_dct : fin (.dct es) nv d = .ok d := id rfl
theorem fin_call (f : Nat) : fin (.call f es) nv d = .ok d := id rfl
theorem fin_lc (own : List Nat) (tg : Tg) (it : CI) (cond elt : CE) : fin (.lc own tg it cond elt) nv d = .ok d := id rfl
theorem fin_dc (own : List Nat) (tg : Tg) (it : CI) (cond key elt : CE) : fin (.dc own tg it cond key elt) nv d = .ok d := id rfl
theorem fins_nil : fins .nil nv [] = .ok [] := id rfl
theorem fins_cons (ds : List D) : fins (.cons a es) nv (d :: ds) = (fin a nv d).bind fun x => (fins es nv ds).bind fun xs => .ok (x :: xs) := id rfl
theorem evP_no : evP T call .no nv = .ok (none, nv) := id rfl
def evPi (r : D × Bool × Nv) : R (Option Int × Nv) := match r.1 with
  | .int i => .ok (some i, r.2.2)
  | _ => .no
theorem evPi_i (j : Int) (ow : Bool) : evPi (.int j, ow, nv) = .ok (some j, nv) := id rfl
theorem evP_so : evP T call (.so a) nv = ((evB T call a).v nv).bind evPi := id rfl
theorem evs_nil : evs T call .nil nv = .ok ([], nv) := id rfl
theorem evs_cons : evs T call (.cons a es) nv = ((evB T call a).v nv).bind fun r => (evs T call es r.2.2).bind fun q => .ok (r.1 :: q.1, q.2) := id rfl
theorem evAs_nil : evAs T call .nil nv = .ok ([], nv) := id rfl
theorem evAs_cons : evAs T call (.cons a es) nv = (evO T call a nv).bind fun r => (evAs T call es r.2).bind fun q => .ok (r.1 :: q.1, q.2) := id rfl
/-! what is walked -/
theorem evI_seq : evI T call (.seq a) nv = ((evB T call a).v nv).bind fun r => (R.of (items r.1)).bind fun l => .ok (l, r.2.2) := id rfl
def rngR : List D → Nv → R (List D × Nv)
  | [.int b], nv => if smallI b then .ok (rangeL 0 b, nv) else .no
  | [.int a, .int b], nv => if smallI a && smallI b then .ok (rangeL a b, nv) else .no
  | [.int a, .int b, .int c], nv => if smallI a && smallI b && decide (c = -1) then .ok (rangeD a b, nv) else .no
  | _, _ => .no
theorem rngR_1 (b : Int) : rngR [.int b] nv = if smallI b then .ok (rangeL 0 b, nv) else .no := id rfl
theorem rngR_2 (a b : Int) : rngR [.int a, .int b] nv = if smallI a && smallI b then .ok (rangeL a b, nv) else .no := id rfl
theorem rngR_3 (a b c : Int) : rngR [.int a, .int b, .int c] nv = if smallI a && smallI b && decide (c = -1) then .ok (rangeD a b, nv) else .no := id rfl
theorem evI_rng : evI T call (.rng es) nv = (evs T call es nv).bind fun r => rngR r.1 r.2 := by
  show (evs T call es nv).bind _ = _
  congr 1; funext r
  obtain ⟨l, n⟩ := r
  unfold rngR
  split <;> simp_all
def enmR (r : D × Bool × Nv) : R (List D × Nv) := match r.1 with
  | .list l => .ok (enumL l, r.2.2)
  | .tuple l => .ok (enumL l, r.2.2)
  | _ => .no
theorem enmR_l (l : List D) (ow : Bool) : enmR (.list l, ow, nv) = .ok (enumL l, nv) := id rfl
theorem enmR_t (l : List D) (ow : Bool) : enmR (.tuple l, ow, nv) = .ok (enumL l, nv) := id rfl
theorem evI_enm : evI T call (.enm a) nv = ((evB T call a).v nv).bind enmR := id rfl
def zipR (d e : D) (nv : Nv) : R (List D × Nv) := match d, e with
  | .list l, .list m => .ok ((l.zip m).map fun p => .tuple [p.1, p.2], nv)
  | .tuple l, .tuple m => .ok ((l.zip m).map fun p => .tuple [p.1, p.2], nv)
  | _, _ => .no
theorem zipR_l (l m : List D) : zipR (.list l) (.list m) nv = .ok ((l.zip m).map fun p => .tuple [p.1, p.2], nv) := id rfl
theorem zipR_t (l m : List D) : zipR (.tuple l) (.tuple m) nv = .ok ((l.zip m).map fun p => .tuple [p.1, p.2], nv) := id rfl
theorem evI_zip : evI T call (.zip2 a b) nv = ((evB T call a).v nv).bind fun r => ((evB T call b).v r.2.2).bind fun q => zipR r.1 q.1 q.2.2 := id rfl
def revR (r : D × Bool × Nv) : R (List D × Nv) := match r.1 with
  | .list l => .ok (l.reverse, r.2.2)
  | _ => .no
theorem revR_l (l : List D) (ow : Bool) : revR (.list l, ow, nv) = .ok (l.reverse, nv) := id rfl
theorem evI_rev : evI T call (.rev a) nv = ((evB T call a).v nv).bind revR := id rfl
theorem items_l (l : List D) : items (.list l) = some l := id rfl
theorem items_t (l : List D) : items (.tuple l) = some l := id rfl
/-! targets -/
theorem a_n (ow : Bool) : asg (.n i) d ow nv = put nv i d ow := id rfl
theorem a_t (l : Tgs) (ds : List D) (ow : Bool) : asg (.t l) (.tuple ds) ow nv = asgs l ds nv := id rfl
theorem a_nil : asgs .nil [] nv = .ok nv := id rfl
theorem a_cons (tg : Tg) (l : Tgs) (ds : List D) : asgs (.cons tg l) (d :: ds) nv = (asg tg d false nv).bind fun nv1 => asgs l ds nv1 := id rfl
/-! statements -/
def appR (d : D) : D → R D
  | .list l => if l.length < lim then .ok (.list (l ++ [d])) else .no
  | _ => .no
theorem appR_l (l : List D) : appR d (.list l) = if l.length < lim then .ok (.list (l ++ [d])) else .no := id rfl
def putR (k d : D) : D → R D := fun l => match l, k with
  | .list l, .int j => (R.of (L2.ixN l.length j)).bind fun m => .ok (.list (l.set m d))
  | .dict l, k => if isKey k && decide (l.length < lim) then .ok (.dict (dPut k d l)) else .no
  | _, _ => .no
theorem putR_l (l : List D) (j : Int) : putR (.int j) d (.list l) = (R.of (L2.ixN l.length j)).bind fun m => .ok (.list (l.set m d)) := id rfl
theorem putR_d (l : List (D × D)) (k : D) : putR k d (.dict l) = if isKey k && decide (l.length < lim) then .ok (.dict (dPut k d l)) else .no := by cases k <;> rfl
theorem zs_set (tg : Tg) : exS T call sub W (.set tg a) nv = ((evB T call a).v nv).bind fun r => (asg tg r.1 r.2.1 r.2.2).bind fun nv2 => .ok (.nx, nv2) := id rfl
theorem zs_app : exS T call sub W (.app i a) nv = if listAt nv i then ((evB T call a).v nv).bind fun r => (alter r.2.2 i (appR r.1)).bind fun nv2 => .ok (.nx, nv2) else .no := by
  rfl
theorem zs_put (k : CE) : exS T call sub W (.put i k a) nv = if holdsAt nv i then ((evB T call a).v nv).bind fun r => ((evB T call k).v r.2.2).bind fun q => (alter q.2.2 i (putR q.1 r.1)).bind fun nv3 => .ok (.nx, nv3) else .no := id rfl
theorem zs_expr : exS T call sub W (.expr a) nv = ((evB T call a).v nv).bind fun r => .ok (.nx, r.2.2) := id rfl
theorem zs_ret : exS T call sub W (.ret a) nv = ((evB T call a).v nv).bind fun r => .ok (.rt r.1 r.2.1, r.2.2) := id rfl
/-- a name handed back -/
def mvR : Nat → Nv → R (Fl × Nv)
  | _, [] => .no
  | 0, .own d :: r => .ok (.rt d true, .emp :: r)
  | 0, .val d :: r => .ok (.rt d false, .val d :: r)
  | 0, _ :: _ => .no
  | i + 1, s :: r => (mvR i r).bind fun q => .ok (q.1, s :: q.2)
theorem mvR_o (r : Nv) : mvR 0 (.own d :: r) = .ok (.rt d true, .emp :: r) := id rfl
theorem mvR_v (r : Nv) : mvR 0 (.val d :: r) = .ok (.rt d false, .val d :: r) := id rfl
theorem mvR_s (s : Slot) (r : Nv) : mvR (i + 1) (s :: r) = (mvR i r).bind fun q => .ok (q.1, s :: q.2) := by cases s <;> rfl
theorem zs_mv : exS T call sub W (.mv i) nv = mvR i nv := by
  show (match nv[i]? with
      | some (.own d) => R.ok (Fl.rt d true, nv.set i .emp)
      | some (.val d) => .ok (.rt d false, nv)
      | _ => .no) = _
  induction nv generalizing i with
  | nil => cases i <;> rfl
  | cons s r ih =>
    cases i with
    | zero => cases s <;> rfl
    | succ i =>
      rw [mvR_s, ← ih i, List.getElem?_cons_succ]
      cases r[i]? with
      | none => rfl
      | some x => cases x <;> rfl
theorem zs_retN : exS T call sub W .retN nv = .ok (.rt .none false, nv) := id rfl
theorem zs_ite (p q : CSs) : exS T call sub W (.ite a p q) nv = ((evB T call a).t nv).bind fun r => if r.1 then exs T call sub W p r.2 else exs T call sub W q r.2 := id rfl
/-- the turn of a loop -/
def foT (tg : Tg) (body : CSs) (d : D) (n : Nv) : R (Fl × Nv) := (asg tg d false n).bind fun n1 => exs T call sub W body n1
theorem zs_for (tg : Tg) (it : CI) (body : CSs) : exS T call sub W (.for tg it body) nv = (evI T call it nv).bind fun r => foR (foT T call sub W tg body) r.1 r.2 := id rfl
theorem zs_whl (p : CSs) : exS T call sub W (.whl a p) nv = whR (evB T call a).t (exs T call sub W p) (W + fuel nv) nv := id rfl
theorem zs_raise (k : Nat) : exS T call sub W (.raise k es) nv = (evs T call es nv).bind fun r => .ex k r.1 := id rfl
def tryR (r : R (Fl × Nv)) (k : Nat → List D → R (Fl × Nv)) : R (Fl × Nv) := match r with
  | .ex c ds => k c ds
  | r => r
theorem tryR_ok (q : Fl × Nv) (k : Nat → List D → R (Fl × Nv)) : tryR (.ok q) k = .ok q := id rfl
theorem tryR_ex (c : Nat) (ds : List D) (k : Nat → List D → R (Fl × Nv)) : tryR (.ex c ds) k = k c ds := id rfl
theorem tryR_ite (c : Prop) [Decidable c] (p q : R (Fl × Nv)) (k : Nat → List D → R (Fl × Nv)) : tryR (if c then p else q) k = if c then tryR p k else tryR q k := by split <;> rfl
theorem zs_try (p : CSs) (hs : List (Nat × Hx)) : exS T call sub W (.try p hs) nv = tryR (exs T call sub W p nv) fun c ds => caught sub c ds nv hs := by
  rfl
theorem zs_brk : exS T call sub W .brk nv = .ok (.br, nv) := id rfl
theorem zs_cont : exS T call sub W .cont nv = .ok (.ct, nv) := id rfl
theorem zs_pass : exS T call sub W .pass nv = .ok (.nx, nv) := id rfl
def seqR (r : Fl × Nv) (k : Nv → R (Fl × Nv)) : R (Fl × Nv) := match r.1 with
  | .nx => k r.2
  | f => .ok (f, r.2)
theorem seqR_nx (k : Nv → R (Fl × Nv)) : seqR (.nx, nv) k = k nv := id rfl
theorem seqR_rt (ow : Bool) (k : Nv → R (Fl × Nv)) : seqR (.rt d ow, nv) k = .ok (.rt d ow, nv) := id rfl
theorem seqR_br (k : Nv → R (Fl × Nv)) : seqR (.br, nv) k = .ok (.br, nv) := id rfl
theorem seqR_ct (k : Nv → R (Fl × Nv)) : seqR (.ct, nv) k = .ok (.ct, nv) := id rfl
theorem ss_nil : exs T call sub W .nil nv = .ok (.nx, nv) := id rfl
theorem ss_cons (s : CS) (ss : CSs) : exs T call sub W (.cons s ss) nv = (exS T call sub W s nv).bind fun r => seqR r (exs T call sub W ss) := by
  show (exS T call sub W s nv).bind _ = _
  congr 1
theorem caught_nil (c : Nat) (ds : List D) : caught sub c ds nv [] = .ex c ds := id rfl
theorem caught_cons (c h : Nat) (ds : List D) (x : Hx) (l : List (Nat × Hx)) : caught sub c ds nv ((h, x) :: l) = if sub c h then (R.of (hx ds x)).bind fun d => .ok (.rt d false, nv.map fun _ => .emp) else caught sub c ds nv l := id rfl
theorem zhx_k (ds : List D) : hx ds (.k d) = some d := id rfl
theorem zhx_a (e : D) (ds : List D) : hx (e :: ds) (.a 0) = some e := id rfl
theorem zhx_t (ds : List D) (l : List Hx) : hx ds (.t l) = (hx.hxs ds l).map .tuple := id rfl
theorem zhxs_nil (ds : List D) : hx.hxs ds [] = some [] := id rfl
theorem zhxs_cons (ds : List D) (h : Hx) (l : List Hx) : hx.hxs ds (h :: l) = (hx ds h).bind fun d => (hx.hxs ds l).map (d :: ·) := id rfl
end
/-! ### a def -/
def endR (io : List Nat) (r : Fl × Nv) : R Ret := (R.of (outsOf io r.2)).bind fun os => retOf r.1 os
theorem run_at {T : List Fn} {sub : Nat → Nat → Bool} {W i : Nat} {fn : Fn} (m : Nat) {ds : List D} (hf : T[i]? = some fn) (hn : ds.length = fn.np) :
    run T sub W (m + 1) i ds = (exs T (run T sub W m) sub W fn.body (entry fn ds)).bind (endR fn.io) := by
  show (R.of (T[i]?)).bind _ = _
  rw [hf]
  show (if ds.length = fn.np then _ else R.no) = _
  rw [if_pos hn]; rfl
theorem endR_rt (d : D) (ow : Bool) (nv : Nv) : endR [] (.rt d ow, nv) = .ok ⟨d, ow, []⟩ := id rfl
theorem endR_nx (nv : Nv) : endR [] (.nx, nv) = .ok ⟨.none, false, []⟩ := id rfl
def ioAt : Nat → Nv → Option D
  | _, [] => none
  | 0, .io d :: _ => some d
  | 0, _ :: _ => none
  | i + 1, _ :: r => ioAt i r
theorem ioAt_io (d : D) (r : Nv) : ioAt 0 (.io d :: r) = some d := id rfl
theorem ioAt_s (i : Nat) (s : Slot) (r : Nv) : ioAt (i + 1) (s :: r) = ioAt i r := by cases s <;> rfl
theorem ioAt_eq : ∀ (i : Nat) (nv : Nv), ioAt i nv = nv[i]?.bind Slot.ioD
  | _, [] => by unfold ioAt; rfl
  | 0, s :: r => by cases s <;> rfl
  | i + 1, s :: r => by rw [ioAt_s, ioAt_eq i r, List.getElem?_cons_succ]
theorem endR_rt1 (k : Nat) (d : D) (ow : Bool) (nv : Nv) : endR [k] (.rt d ow, nv) = (R.of (ioAt k nv)).bind fun o => .ok ⟨d, ow, [o]⟩ := by
  rw [ioAt_eq]
  unfold endR outsOf
  simp only [List.mapM_cons, List.mapM_nil]
  cases nv[k]?.bind Slot.ioD <;> rfl
theorem endR_nx1 (k : Nat) (nv : Nv) : endR [k] (.nx, nv) = (R.of (ioAt k nv)).bind fun o => .ok ⟨.none, false, [o]⟩ := by
  rw [ioAt_eq]
  unfold endR outsOf
  simp only [List.mapM_cons, List.mapM_nil]
  cases nv[k]?.bind Slot.ioD <;> rfl
end SF

/-! Operations at given forms; loops and comprehensions over typed lists. -/
namespace SF
open PySem PySem.Spec
section
variable (i j : Int) (l m : List D) (d e : D) (s t : Str) (b c : Bool)
theorem x_add : op2 .add (.int i) (.int j) = .ok (.int (i + j), false) := id rfl
theorem x_sub : op2 .sub (.int i) (.int j) = .ok (.int (i - j), false) := id rfl
theorem x_mul (h : i.natAbs.log2 + j.natAbs.log2 < 1000000) : op2 .mul (.int i) (.int j) = .ok (.int (i * j), false) := by
  show (if i.natAbs.log2 + j.natAbs.log2 < 1000000 then val (.int (i * j)) else R.no) = _
  rw [if_pos h]; rfl
theorem x_mod (h : 0 < j) : op2 .mod (.int i) (.int j) = .ok (.int (i % j), false) := by
  show (if 0 < j then val (.int (i % j)) else _) = _
  rw [if_pos h]; rfl
theorem x_fdiv (h : 0 < j) (h2 : j.natAbs.log2 < 9000) : op2 .fdiv (.int i) (.int j) = .ok (.int (i / j), false) := by
  show (if 0 < j then (if j.natAbs.log2 < 9000 then val (.int (i / j)) else R.no) else _) = _
  rw [if_pos h, if_pos h2]; rfl
theorem x_fdivn (h : ¬ 0 < j) (h0 : j ≠ 0) (h2 : j.natAbs < 1073741824) : op2 .fdiv (.int i) (.int j) = .ok (.int (i.fdiv j), false) := by
  show (if 0 < j then _ else if j ≠ 0 ∧ j.natAbs < 1073741824 then val (.int (i.fdiv j)) else .no) = _
  rw [if_neg h, if_pos ⟨h0, h2⟩]; rfl
theorem x_addS (h : s.length + t.length ≤ lim) : op2 .add (.str s) (.str t) = .ok (.str (s ++ t), false) := by
  show (if s.length + t.length ≤ lim then val (.str (s ++ t)) else R.no) = _
  rw [if_pos h]; rfl
theorem x_addT (h : l.length + m.length ≤ lim) : op2 .add (.tuple l) (.tuple m) = .ok (.tuple (l ++ m), false) := by
  show (if l.length + m.length ≤ lim then val (.tuple (l ++ m)) else R.no) = _
  rw [if_pos h]; rfl
theorem x_addL (h : l.length + m.length ≤ lim) : op2 .add (.list l) (.list m) = .ok (.list (l ++ m), true) := by
  show (if l.length + m.length ≤ lim then new (.list (l ++ m)) else R.no) = _
  rw [if_pos h]; rfl
theorem x_pow (h : 0 ≤ j ∧ j ≤ 1000000 ∧ i.natAbs < 2 ^ 64) : op2 .pow (.int i) (.int j) = .ok (.int (i ^ j.toNat), false) := by
  show (if 0 ≤ j ∧ j ≤ 1000000 ∧ i.natAbs < 2 ^ 64 then val (.int (i ^ j.toNat)) else R.no) = _
  rw [if_pos h]; rfl
theorem x_lt : op2 .lt (.int i) (.int j) = .ok (.bool (decide (i < j)), false) := id rfl
theorem x_le : op2 .le (.int i) (.int j) = .ok (.bool (decide (i ≤ j)), false) := id rfl
theorem x_gt : op2 .gt (.int i) (.int j) = .ok (.bool (decide (j < i)), false) := id rfl
theorem x_ge : op2 .ge (.int i) (.int j) = .ok (.bool (decide (j ≤ i)), false) := id rfl
theorem x_min : op2 .min (.int i) (.int j) = .ok (.int (min i j), false) := by
  show val (.int (if j < i then j else i)) = _
  have : (if j < i then j else i) = min i j := by rw [Int.min_def]; split <;> split <;> omega
  rw [this]; rfl
theorem x_max : op2 .max (.int i) (.int j) = .ok (.int (max i j), false) := by
  show val (.int (if j > i then j else i)) = _
  have : (if j > i then j else i) = max i j := by rw [Int.max_def]; split <;> split <;> omega
  rw [this]; rfl
theorem beq_dec (i j : Int) : (i == j) = decide (i = j) := by
  cases h : decide (i = j) with
  | true => have := of_decide_eq_true h; subst this; simp
  | false => have := of_decide_eq_false h; simp [this]
theorem x_eq_i : op2 .eq (.int i) (.int j) = .ok (.bool (decide (i = j)), false) := by rw [← beq_dec]; rfl
theorem x_ne_i : op2 .ne (.int i) (.int j) = .ok (.bool (!decide (i = j)), false) := by rw [← beq_dec]; rfl
theorem x_eq_s : op2 .eq (.str s) (.str t) = .ok (.bool (decide (s = t)), false) := by
  show val (.bool (s == t)) = _
  congr 3
theorem x_ne_s : op2 .ne (.str s) (.str t) = .ok (.bool (!decide (s = t)), false) := by
  show val (.bool (!(s == t))) = _
  congr 3
theorem x_eq_b : op2 .eq (.bool b) (.bool c) = .ok (.bool (decide (b = c)), false) := by cases b <;> cases c <;> rfl
theorem x_ne_b : op2 .ne (.bool b) (.bool c) = .ok (.bool (!decide (b = c)), false) := by cases b <;> cases c <;> rfl
theorem x_eq_nn : op2 .eq .none .none = .ok (.bool true, false) := id rfl
theorem x_eq_ns : op2 .eq .none (.str s) = .ok (.bool false, false) := id rfl
theorem x_eq_sn : op2 .eq (.str s) .none = .ok (.bool false, false) := id rfl
theorem x_eq_ni : op2 .eq .none (.int i) = .ok (.bool false, false) := id rfl
theorem x_eq_in : op2 .eq (.int i) .none = .ok (.bool false, false) := id rfl
theorem x_eq_is : op2 .eq (.int i) (.str s) = .ok (.bool false, false) := id rfl
theorem x_eq_si : op2 .eq (.str s) (.int i) = .ok (.bool false, false) := id rfl
theorem x_ne_nn : op2 .ne .none .none = .ok (.bool false, false) := id rfl
theorem x_ne_ns : op2 .ne .none (.str s) = .ok (.bool true, false) := id rfl
theorem x_ne_sn : op2 .ne (.str s) .none = .ok (.bool true, false) := id rfl
theorem x_eq_shaped (h1 : SeqAt.shaped d = true) (h2 : SeqAt.shaped e = true) : op2 .eq d e = .ok (.bool (PyData.eqv d e), false) := by
  show (if eqOk d e then val (.bool (PyData.eqv d e)) else .no) = _
  rw [if_pos (by unfold eqOk; rw [h1, h2]; simp)]; rfl
theorem x_ne_shaped (h1 : SeqAt.shaped d = true) (h2 : SeqAt.shaped e = true) : op2 .ne d e = .ok (.bool (!PyData.eqv d e), false) := by
  show (if eqOk d e then val (.bool (!PyData.eqv d e)) else .no) = _
  rw [if_pos (by unfold eqOk; rw [h1, h2]; simp)]; rfl
theorem x_at_t : op2 .at (.tuple l) (.int i) = (R.of (L2.atI l i)).bind val := id rfl
theorem x_at_l : op2 .at (.list l) (.int i) = (R.of (L2.atI l i)).bind val := id rfl
theorem x_val (d : D) : val d = .ok (d, false) := id rfl
theorem x_new (d : D) : new d = .ok (d, true) := id rfl
/-! one operand -/
theorem y_neg : op1 .neg (.int i) = .ok (.int (-i), false) := id rfl
theorem y_len_l : op1 .len (.list l) = .ok (.int l.length, false) := id rfl
theorem y_len_t : op1 .len (.tuple l) = .ok (.int l.length, false) := id rfl
theorem y_len_d (l : List (D × D)) : op1 .len (.dict l) = .ok (.int l.length, false) := id rfl
theorem y_len_s (h : s.length ≤ lim) : op1 .len (.str s) = .ok (.int s.length, false) := by
  show (if s.length ≤ lim then val (.int s.length) else R.no) = _
  rw [if_pos h]; rfl
theorem y_abs : op1 .abs (.int i) = .ok (.int i.natAbs, false) := by
  show val (.int (if i < 0 then -i else i)) = _
  have : (if i < 0 then -i else i) = (i.natAbs : Int) := by split <;> omega
  rw [this]; rfl
theorem y_int : op1 .int (.int i) = .ok (.int i, false) := id rfl
theorem y_str (h : i.natAbs.log2 < 1920) : op1 .str (.int i) = .ok (.str (toString i), false) := by
  show (if i.natAbs.log2 < 1920 then val (.str (toString i)) else R.no) = _
  rw [if_pos h]; rfl
theorem asInts_map {α : Type} (f : α → Int) : ∀ xs : List α, asInts (xs.map fun x => .int (f x)) = some (xs.map f)
  | [] => rfl
  | x :: xs => by show (asInts (xs.map _)).map _ = _; rw [asInts_map f xs]; rfl
theorem asBools_map {α : Type} (f : α → Bool) : ∀ xs : List α, asBools (xs.map fun x => .bool (f x)) = some (xs.map f)
  | [] => rfl
  | x :: xs => by show (asBools (xs.map _)).map _ = _; rw [asBools_map f xs]; rfl
theorem y_all {α : Type} (f : α → Bool) (xs : List α) : op1 .all (.list (xs.map fun x => .bool (f x))) = .ok (.bool (xs.all f), false) := by
  show (R.of (asBools _)).bind _ = _
  rw [asBools_map]
  simp [x_val, List.all_map, Function.comp_def]
theorem y_any {α : Type} (f : α → Bool) (xs : List α) : op1 .any (.list (xs.map fun x => .bool (f x))) = .ok (.bool (xs.any f), false) := by
  show (R.of (asBools _)).bind _ = _
  rw [asBools_map]
  simp [x_val, List.any_map, Function.comp_def]
theorem y_sum {α : Type} (f : α → Int) (xs : List α) : op1 .sum (.list (xs.map fun x => .int (f x))) = .ok (.int (xs.map f).sum, false) := by
  show (R.of (asInts _)).bind _ = _
  rw [asInts_map]
  rfl
theorem y_tuple_l : op1 .tuple (.list l) = .ok (.tuple l, false) := id rfl
theorem y_tuple_t : op1 .tuple (.tuple l) = .ok (.tuple l, false) := id rfl
theorem y_list_l : op1 .list (.list l) = .ok (.list l, true) := id rfl
theorem y_list_t : op1 .list (.tuple l) = .ok (.list l, true) := id rfl
theorem y_isi (t : Ty) : op1 (.isi t) d = .ok (.bool (isTy t d), false) := by cases d <;> cases t <;> rfl
def isNone : D → Bool
  | .none => true
  | _ => false
theorem y_isN : op1 .isN d = .ok (.bool (isNone d), false) := by cases d <;> rfl
theorem y_notN : op1 .notN d = .ok (.bool (!isNone d), false) := by cases d <;> rfl
theorem isKey_s : isKey (.str s) = true := id rfl
theorem isKey_i : isKey (.int i) = true := id rfl
theorem stillIn_1 : stillIn (.list [.int i]) = true := id rfl
theorem still_i : still (.int i) = true := id rfl
theorem still_s : still (.str s) = true := id rfl
theorem still_n : still .none = true := id rfl
theorem still_b : still (.bool b) = true := id rfl
theorem isNone_n : isNone .none = true := id rfl
theorem isNone_i : isNone (.int i) = false := id rfl
theorem isNone_s : isNone (.str s) = false := id rfl
theorem isNone_b : isNone (.bool b) = false := id rfl
theorem isNone_t : isNone (.tuple l) = false := id rfl
theorem isNone_l : isNone (.list l) = false := id rfl
theorem isTy_int_i : isTy .int (.int i) = true := id rfl
theorem isTy_int_b : isTy .int (.bool b) = true := id rfl
theorem isTy_int_s : isTy .int (.str s) = false := id rfl
theorem isTy_int_t : isTy .int (.tuple l) = false := id rfl
theorem isTy_int_n : isTy .int .none = false := id rfl
theorem isTy_bool_i : isTy .bool (.int i) = false := id rfl
theorem isTy_bool_b : isTy .bool (.bool b) = true := id rfl
theorem isTy_bool_s : isTy .bool (.str s) = false := id rfl
theorem isTy_bool_t : isTy .bool (.tuple l) = false := id rfl
theorem isTy_bool_n : isTy .bool .none = false := id rfl
theorem isTy_str_i : isTy .str (.int i) = false := id rfl
theorem isTy_str_b : isTy .str (.bool b) = false := id rfl
theorem isTy_str_s : isTy .str (.str s) = true := id rfl
theorem isTy_str_t : isTy .str (.tuple l) = false := id rfl
theorem isTy_str_n : isTy .str .none = false := id rfl
theorem isTy_tuple_i : isTy .tuple (.int i) = false := id rfl
theorem isTy_tuple_b : isTy .tuple (.bool b) = false := id rfl
theorem isTy_tuple_s : isTy .tuple (.str s) = false := id rfl
theorem isTy_tuple_t : isTy .tuple (.tuple l) = true := id rfl
theorem isTy_tuple_n : isTy .tuple .none = false := id rfl
end
/-! ### places in lists -/
section
variable {α β : Type} (a b c d e : α) (l : List α)
theorem at_0 : L2.atI (a :: l) 0 = some a := L2.atI_nat (j := 0) rfl
theorem at_1 : L2.atI (a :: b :: l) 1 = some b := L2.atI_nat (j := 1) rfl
theorem at_2 : L2.atI (a :: b :: c :: l) 2 = some c := L2.atI_nat (j := 2) rfl
theorem at_3 : L2.atI (a :: b :: c :: d :: l) 3 = some d := L2.atI_nat (j := 3) rfl
theorem at_4 : L2.atI (a :: b :: c :: d :: e :: l) 4 = some e := L2.atI_nat (j := 4) rfl
theorem at_n (k : Nat) : L2.atI l (k : Int) = l[k]? := by
  by_cases h : k < l.length
  · exact (L2.atI_nat (List.getElem?_eq_getElem h)).trans (List.getElem?_eq_getElem h).symm
  · unfold L2.atI L2.ixN
    rw [if_pos (by omega), if_neg (by omega), List.getElem?_eq_none (by omega)]; rfl
theorem at_m1 : L2.atI l (-1) = l.getLast? := by
  unfold L2.atI L2.ixN
  rw [if_neg (by omega)]
  cases l with
  | nil => rfl
  | cons x r =>
    rw [if_pos (by simp; omega)]
    show (x :: r)[((-1 : Int) + ((x :: r).length : Nat)).toNat]? = _
    rw [List.getLast?_eq_getElem?]
    congr 1
    simp only [List.length_cons]; omega
theorem cutL_from (k : Nat) : cutL l (some (k : Int)) none = l.drop k := by
  unfold cutL
  rw [HT.sIx_none, HT.sIx_nat]
  rcases Nat.le_total k l.length with h | h
  · rw [Nat.min_eq_left h]
    exact List.take_of_length_le (by simp)
  · rw [Nat.min_eq_right h, List.drop_eq_nil_of_le (Nat.le_refl _), List.drop_eq_nil_of_le h, List.take_nil]
theorem cutL_to (k : Nat) : cutL l none (some (k : Int)) = l.take k := by
  unfold cutL
  rw [HT.sIx_none, HT.sIx_nat]
  show (l.drop 0).take (min k l.length - 0) = _
  rw [List.drop_zero, Nat.sub_zero]
  rcases Nat.le_total k l.length with h | h
  · rw [Nat.min_eq_left h]
  · rw [Nat.min_eq_right h, List.take_of_length_le (Nat.le_refl _), List.take_of_length_le h]
theorem cutD_tf (l : List D) (k : Nat) : cutD (.tuple l) (some (k : Int)) none = .ok (.tuple (l.drop k), false) := by
  show val (.tuple (cutL l _ _)) = _; rw [cutL_from]; rfl
theorem cutD_tt (l : List D) (k : Nat) : cutD (.tuple l) none (some (k : Int)) = .ok (.tuple (l.take k), false) := by
  show val (.tuple (cutL l _ _)) = _; rw [cutL_to]; rfl
theorem cutD_lf (l : List D) (k : Nat) : cutD (.list l) (some (k : Int)) none = .ok (.list (l.drop k), true) := by
  show new (.list (cutL l _ _)) = _; rw [cutL_from]; rfl
theorem cutD_lt (l : List D) (k : Nat) : cutD (.list l) none (some (k : Int)) = .ok (.list (l.take k), true) := by
  show new (.list (cutL l _ _)) = _; rw [cutL_to]; rfl
theorem cutD_t (l : List D) (a b : Option Int) : cutD (.tuple l) a b = .ok (.tuple (cutL l a b), false) := id rfl
theorem cutD_l (l : List D) (a b : Option Int) : cutD (.list l) a b = .ok (.list (cutL l a b), true) := id rfl
theorem cutD_t1 (d : D) (l : List D) : cutD (.tuple (d :: l)) (some 1) none = .ok (.tuple l, false) := by
  show val (.tuple (cutL (d :: l) (some ((1 : Nat) : Int)) none)) = _; rw [cutL_from]; rfl
theorem cutD_l1 (d : D) (l : List D) : cutD (.list (d :: l)) (some 1) none = .ok (.list l, true) := by
  show new (.list (cutL (d :: l) (some ((1 : Nat) : Int)) none)) = _; rw [cutL_from]; rfl
theorem cutD_tt1 (d : D) (l : List D) : cutD (.tuple (d :: l)) none (some 1) = .ok (.tuple [d], false) := by
  show val (.tuple (cutL (d :: l) none (some ((1 : Nat) : Int)))) = _; rw [cutL_to]; rfl
theorem x_mulT (l : List D) (k : Int) (h : 1 ≤ k ∧ k ≤ 1000 ∧ 1 ≤ l.length ∧ l.length ≤ 1000) : op2 .mul (.tuple l) (.int k) = .ok (.tuple (List.replicate k.toNat l).flatten, false) := by
  show (if 1 ≤ k ∧ k ≤ 1000 ∧ 1 ≤ l.length ∧ l.length ≤ 1000 then val (.tuple (List.replicate k.toNat l).flatten) else R.no) = _
  rw [if_pos h]; rfl
theorem x_mulL (l : List D) (k : Int) (h : 0 ≤ k ∧ k ≤ 1000 ∧ l.length ≤ 1000) : op2 .mul (.list l) (.int k) = .ok (.list (List.replicate k.toNat l).flatten, true) := by
  show (if 0 ≤ k ∧ k ≤ 1000 ∧ l.length ≤ 1000 then new (.list (List.replicate k.toNat l).flatten) else R.no) = _
  rw [if_pos h]; rfl
theorem smallI_nat {n : Nat} (h : n < 2 ^ 40) : smallI (n : Int) = true := by
  unfold smallI
  rw [Bool.and_eq_true]; exact ⟨decide_eq_true (by omega), decide_eq_true (by omega)⟩
theorem rangeL_0 (n : Nat) : rangeL 0 (n : Int) = (List.range n).map fun (i : Nat) => PyData.int (i : Int) := by
  unfold rangeL
  rw [show ((n : Int) - 0).toNat = n by omega]
  congr 1; funext i; rw [Int.zero_add]
theorem rangeL_3 : rangeL 0 3 = [.int 0, .int 1, .int 2] := id rfl
theorem rangeL_n (a b : Nat) : rangeL (a : Int) (b : Int) = (List.range' a (b - a)).map fun (i : Nat) => PyData.int (i : Int) := by
  unfold rangeL
  rw [show ((b : Int) - (a : Int)).toNat = b - a by omega, List.range'_eq_map_range, List.map_map]
  congr 1
theorem enumL_map (f : α → D) (xs : List α) : enumL (xs.map f) = xs.zipIdx.map fun p => .tuple [.int (p.2 : Nat), f p.1] := by
  unfold enumL
  rw [List.zipIdx_map, List.map_map]; rfl
end
/-! ### comprehensions -/
theorem blank_length : ∀ (own : List Nat) (nv : Nv), (blank own nv).length = nv.length
  | [], _ => rfl
  | i :: l, nv => by show ((blank l nv).set i .emp).length = _; rw [List.length_set, blank_length l nv]
theorem back_length : ∀ (own : List Nat) (old nv : Nv), (back own old nv).length = nv.length
  | [], _, _ => rfl
  | i :: l, old, nv => by show ((back l old nv).set i _).length = _; rw [List.length_set, back_length l old nv]
theorem blank_get : ∀ (own : List Nat) (nv : Nv) (k : Nat), (blank own nv)[k]? = if k ∈ own ∧ k < nv.length then some .emp else nv[k]?
  | [], nv, k => by simp [blank]
  | i :: l, nv, k => by
    show ((blank l nv).set i .emp)[k]? = _
    rw [List.getElem?_set, blank_length, blank_get l nv k]
    by_cases h : i = k
    · subst h
      by_cases h2 : i < nv.length <;> simp [h2]
    · have : (k ∈ i :: l) ↔ k ∈ l := by simp [Ne.symm h]
      simp only [h, if_false, this]
theorem back_get : ∀ (own : List Nat) (old nv : Nv) (k : Nat), (back own old nv)[k]? = if k ∈ own ∧ k < nv.length then some (old.getD k .emp) else nv[k]?
  | [], old, nv, k => by simp [back]
  | i :: l, old, nv, k => by
    show ((back l old nv).set i _)[k]? = _
    rw [List.getElem?_set, back_length, back_get l old nv k]
    by_cases h : i = k
    · subst h
      by_cases h2 : i < nv.length <;> simp [h2]
    · have : (k ∈ i :: l) ↔ k ∈ l := by simp [Ne.symm h]
      simp only [h, if_false, this]
theorem back_blank {own : List Nat} {old nv : Nv} (h : blank own nv = blank own old) : back own old nv = old := by
  have hl : nv.length = old.length := by have := congrArg List.length h; rwa [blank_length, blank_length] at this
  apply List.ext_getElem?
  intro k
  rw [back_get]
  have hk := congrArg (·[k]?) h
  simp only [blank_get] at hk
  by_cases c : k ∈ own ∧ k < nv.length
  · rw [if_pos c]
    have : k < old.length := by omega
    rw [List.getElem?_eq_getElem this]
    simp [List.getD, List.getElem?_eq_getElem this]
  · rw [if_neg c]
    rw [if_neg c, if_neg (by rw [← hl]; exact c)] at hk
    exact hk
theorem dPuts_nodup : ∀ (l acc : List (D × D)), (acc ++ l).Pairwise (fun p q => keyEq q.1 p.1 = false) → dPuts acc l = acc ++ l
  | [], acc, _ => by simp [dPuts]
  | (k, v) :: l, acc, h => by
    have h1 : dPut k v acc = acc ++ [(k, v)] := by
      unfold dPut
      rw [if_neg]
      intro c
      obtain ⟨p, hp, hk⟩ := List.any_eq_true.mp c
      have := (List.pairwise_append.mp h).2.2 p hp (k, v) (List.mem_cons_self ..)
      rw [this] at hk; cases hk
    show dPuts (dPut k v acc) l = _
    rw [h1, dPuts_nodup l _ (by rw [List.append_assoc]; exact h), List.append_assoc]; rfl
theorem keyEq_s (s t : Str) : keyEq (.str s) (.str t) = (s == t) := id rfl
theorem lcR_ok {α : Type} (turn : D → Nv → R (Option D × Nv)) (J : Nv → Prop) (enc : α → D) (g : α → Option D) : ∀ (xs : List α) (acc : List D) (nv : Nv), J nv → acc.length + xs.length ≤ lim →
    (∀ x ∈ xs, ∀ n, J n → ∃ n', turn (enc x) n = .ok (g x, n') ∧ J n') → ∃ n', lcR turn (xs.map enc) acc nv = .ok (acc ++ xs.filterMap g, n') ∧ J n'
  | [], acc, nv, hj, _, _ => ⟨nv, by simp [lcR], hj⟩
  | x :: xs, acc, nv, hj, hl, h => by
    obtain ⟨n1, h1, j1⟩ := h x (List.mem_cons_self ..) nv hj
    rw [List.length_cons] at hl
    have hr := fun acc' hl' => lcR_ok turn J enc g xs acc' n1 j1 hl' (fun y hy => h y (List.mem_cons_of_mem _ hy))
    rw [List.map_cons]
    unfold lcR
    rw [h1, List.filterMap_cons]
    simp only [R.bind_ok]
    cases e : g x with
    | none =>
      obtain ⟨n', h2, j2⟩ := hr acc (by omega)
      exact ⟨n', h2, j2⟩
    | some y =>
      obtain ⟨n', h2, j2⟩ := hr (acc ++ [y]) (by rw [List.length_append, List.length_singleton]; omega)
      refine ⟨n', ?_, j2⟩
      show (if acc.length < lim then lcR turn (xs.map enc) (acc ++ [y]) n1 else .no) = _
      rw [if_pos (by omega), h2, List.append_assoc]; rfl
theorem lc_gen {α : Type} {T : List Fn} {call : Call} {own : List Nat} {tg : Tg} {it : CI} {cond elt : CE} {nv nv1 : Nv} (xs : List α) (enc : α → D) (g : α → Option D)
    (hi : evI T call it nv = .ok (xs.map enc, nv1)) (hb : blankOk own nv1 = true) (hl : xs.length ≤ lim)
    (h : ∀ x ∈ xs, ∃ n', lcT T call tg cond elt (enc x) (blank own nv1) = .ok (g x, n') ∧ blank own n' = blank own nv1) :
    (evB T call (.lc own tg it cond elt)).v nv = .ok (.list (xs.filterMap g), true, nv1) := by
  rw [v_lc, hi]
  simp only [R.bind_ok, hb, if_true]
  obtain ⟨n', h1, h2⟩ := lcR_ok (fun d n => lcT T call tg cond elt d (blank own n)) (fun n => blank own n = blank own nv1) enc g xs [] nv1 rfl (by simpa using hl)
    (fun x hx n hn => by obtain ⟨n', a, b⟩ := h x hx; exact ⟨n', by simp only [hn]; exact a, b⟩)
  rw [h1]
  simp only [R.calm_ok, R.bind_ok, List.nil_append]
  rw [back_blank h2]
theorem filterMap_some {α β : Type} (f : α → β) (xs : List α) : xs.filterMap (fun x => some (f x)) = xs.map f := by
  induction xs with
  | nil => rfl
  | cons x xs ih => rw [List.filterMap_cons, List.map_cons, ih]
theorem filterMap_if {α β : Type} (p : α → Bool) (f : α → β) (xs : List α) : xs.filterMap (fun x => if p x then some (f x) else none) = (xs.filter p).map f := by
  induction xs with
  | nil => rfl
  | cons x xs ih =>
    rw [List.filterMap_cons, List.filter_cons, ih]
    cases p x <;> simp
theorem lc_map {α : Type} {T : List Fn} {call : Call} {own : List Nat} {tg : Tg} {it : CI} {cond elt : CE} {nv nv1 : Nv} (xs : List α) (enc : α → D) (f : α → D)
    (hi : evI T call it nv = .ok (xs.map enc, nv1)) (hb : blankOk own nv1 = true) (hl : xs.length ≤ lim)
    (h : ∀ x ∈ xs, ∃ n', lcT T call tg cond elt (enc x) (blank own nv1) = .ok (some (f x), n') ∧ blank own n' = blank own nv1) :
    (evB T call (.lc own tg it cond elt)).v nv = .ok (.list (xs.map f), true, nv1) := by
  rw [lc_gen xs enc (fun x => some (f x)) hi hb hl h, filterMap_some]
theorem lc_filter {α : Type} {T : List Fn} {call : Call} {own : List Nat} {tg : Tg} {it : CI} {cond elt : CE} {nv nv1 : Nv} (xs : List α) (enc : α → D) (p : α → Bool) (f : α → D)
    (hi : evI T call it nv = .ok (xs.map enc, nv1)) (hb : blankOk own nv1 = true) (hl : xs.length ≤ lim)
    (h : ∀ x ∈ xs, ∃ n', lcT T call tg cond elt (enc x) (blank own nv1) = .ok (if p x then some (f x) else none, n') ∧ blank own n' = blank own nv1) :
    (evB T call (.lc own tg it cond elt)).v nv = .ok (.list ((xs.filter p).map f), true, nv1) := by
  rw [lc_gen xs enc (fun x => if p x then some (f x) else none) hi hb hl h, filterMap_if]
theorem dcR_ok {α : Type} (turn : D → Nv → R (Option (D × D) × Nv)) (J : Nv → Prop) (enc : α → D) (k v : α → D) : ∀ (xs : List α) (acc : List (D × D)) (nv : Nv), J nv → acc.length + xs.length ≤ lim →
    (∀ x ∈ xs, isKey (k x) = true) → (∀ x ∈ xs, ∀ n, J n → ∃ n', turn (enc x) n = .ok (some (k x, v x), n') ∧ J n') → ∃ n', dcR turn (xs.map enc) acc nv = .ok (dPuts acc (xs.map fun x => (k x, v x)), n') ∧ J n'
  | [], acc, nv, hj, _, _, _ => ⟨nv, by simp [dcR, dPuts], hj⟩
  | x :: xs, acc, nv, hj, hl, hk, h => by
    obtain ⟨n1, h1, j1⟩ := h x (List.mem_cons_self ..) nv hj
    rw [List.length_cons] at hl
    have hpl : (dPut (k x) (v x) acc).length ≤ acc.length + 1 := by
      unfold dPut; split <;> simp
    obtain ⟨n', h2, j2⟩ := dcR_ok turn J enc k v xs (dPut (k x) (v x) acc) n1 j1 (by omega) (fun y hy => hk y (List.mem_cons_of_mem _ hy)) (fun y hy => h y (List.mem_cons_of_mem _ hy))
    refine ⟨n', ?_, j2⟩
    unfold dcR
    rw [List.map_cons]
    show (turn (enc x) nv).bind _ = _
    rw [h1]
    show (if isKey (k x) && decide (acc.length < lim) then dcR turn (xs.map enc) (dPut (k x) (v x) acc) n1 else .no) = _
    rw [if_pos (by rw [hk x (List.mem_cons_self ..)]; simp; omega), h2]; rfl
theorem dc_map {α : Type} {T : List Fn} {call : Call} {own : List Nat} {tg : Tg} {it : CI} {cond key elt : CE} {nv nv1 : Nv} (xs : List α) (enc : α → D) (k v : α → D)
    (hi : evI T call it nv = .ok (xs.map enc, nv1)) (hb : blankOk own nv1 = true) (hl : xs.length ≤ lim) (hk : ∀ x ∈ xs, isKey (k x) = true)
    (h : ∀ x ∈ xs, ∃ n', dcT T call tg cond key elt (enc x) (blank own nv1) = .ok (some (k x, v x), n') ∧ blank own n' = blank own nv1) :
    (evB T call (.dc own tg it cond key elt)).v nv = .ok (.dict (dPuts [] (xs.map fun x => (k x, v x))), true, nv1) := by
  rw [v_dc, hi]
  simp only [R.bind_ok, hb, if_true]
  obtain ⟨n', h1, h2⟩ := dcR_ok (fun d n => dcT T call tg cond key elt d (blank own n)) (fun n => blank own n = blank own nv1) enc k v xs [] nv1 rfl (by simpa using hl) hk
    (fun x hx n hn => by obtain ⟨n', a, b⟩ := h x hx; exact ⟨n', by simp only [hn]; exact a, b⟩)
  rw [h1]
  simp only [R.calm_ok, R.bind_ok]
  rw [back_blank h2]
/-! ### loops -/
def foN (b : D → Nv → R (Fl × Nv)) (ds : List D) (r : Fl × Nv) : R (Fl × Nv) := match r.1 with
  | .nx => foR b ds r.2
  | .ct => foR b ds r.2
  | .br => .ok (.nx, r.2)
  | .rt d ow => .ok (.rt d ow, r.2)
theorem foR_nil (b : D → Nv → R (Fl × Nv)) (nv : Nv) : foR b [] nv = .ok (.nx, nv) := id rfl
theorem foR_cons (b : D → Nv → R (Fl × Nv)) (d : D) (ds : List D) (nv : Nv) : foR b (d :: ds) nv = (b d nv).bind (foN b ds) := id rfl
theorem foN_nx (b : D → Nv → R (Fl × Nv)) (ds : List D) (nv : Nv) : foN b ds (.nx, nv) = foR b ds nv := id rfl
theorem foN_ct (b : D → Nv → R (Fl × Nv)) (ds : List D) (nv : Nv) : foN b ds (.ct, nv) = foR b ds nv := id rfl
theorem foN_br (b : D → Nv → R (Fl × Nv)) (ds : List D) (nv : Nv) : foN b ds (.br, nv) = .ok (.nx, nv) := id rfl
theorem foN_rt (b : D → Nv → R (Fl × Nv)) (ds : List D) (nv : Nv) (d : D) (ow : Bool) : foN b ds (.rt d ow, nv) = .ok (.rt d ow, nv) := id rfl
def Turn (r : R (Fl × Nv)) (I : Nv → Prop) (P : R (Fl × Nv) → Prop) : Prop := match r with
  | .ok (.nx, n) => I n
  | .ok (.ct, n) => I n
  | .ok (.br, n) => P (.ok (.nx, n))
  | .ok (.rt d ow, n) => P (.ok (.rt d ow, n))
  | .ex c ds => P (.ex c ds)
  | .no => P .no
theorem for_turn {α : Type} {b : D → Nv → R (Fl × Nv)} (enc : α → D) (I : List α → Nv → Prop) (P : R (Fl × Nv) → Prop) : ∀ (xs : List α) (nv : Nv), I xs nv →
    (∀ x rest nv, I (x :: rest) nv → Turn (b (enc x) nv) (I rest) P) → (∀ nv, I [] nv → P (.ok (.nx, nv))) → P (foR b (xs.map enc) nv)
  | [], nv, h0, _, hp => hp nv h0
  | x :: xs, nv, h0, hs, hp => by
    have h1 := hs x xs nv h0
    rw [List.map_cons]
    unfold foR
    cases e : b (enc x) nv with
    | no => rw [e] at h1; exact h1
    | ex c ds => rw [e] at h1; exact h1
    | ok r =>
      rw [e] at h1
      obtain ⟨f, n⟩ := r
      cases f with
      | nx => exact for_turn enc I P xs n h1 hs hp
      | ct => exact for_turn enc I P xs n h1 hs hp
      | br => exact h1
      | rt d ow => exact h1
/-- a loop that goes through, its state told by what is left -/
theorem for_all {α : Type} {b : D → Nv → R (Fl × Nv)} (enc : α → D) (I : List α → Nv → Prop) (xs : List α) (nv : Nv) (h0 : I xs nv)
    (hs : ∀ x rest nv, I (x :: rest) nv → ∃ n', b (enc x) nv = .ok (.nx, n') ∧ I rest n') : ∃ n', foR b (xs.map enc) nv = .ok (.nx, n') ∧ I [] n' :=
  for_turn enc I (fun r => ∃ n', r = .ok (.nx, n') ∧ I [] n') xs nv h0 (fun x rest nv h => by obtain ⟨n', h1, h2⟩ := hs x rest nv h; rw [h1]; exact h2) fun nv h => ⟨nv, rfl, h⟩
theorem wh_turn {t : Nv → R (Bool × Nv)} {b : Nv → R (Fl × Nv)} (I : Nv → Prop) (μ : Nv → Nat) (P : R (Fl × Nv) → Prop)
    (hs : ∀ nv, I nv → ∃ c nv1, t nv = .ok (c, nv1) ∧ (c = false → P (.ok (.nx, nv1))) ∧ (c = true → Turn (b nv1) (fun n => I n ∧ μ n < μ nv) P)) : ∀ (k : Nat) (nv : Nv), I nv → μ nv < k → P (whR t b k nv)
  | 0, nv, _, h => by omega
  | k + 1, nv, h0, hk => by
    obtain ⟨c, nv1, h1, h2, h3⟩ := hs nv h0
    unfold whR
    rw [h1]
    simp only [R.bind_ok]
    cases c with
    | false => exact h2 rfl
    | true =>
      have h4 := h3 rfl
      simp only [if_true]
      cases e : b nv1 with
      | no => rw [e] at h4; exact h4
      | ex c ds => rw [e] at h4; exact h4
      | ok r =>
        rw [e] at h4
        obtain ⟨f, n⟩ := r
        cases f with
        | nx => exact wh_turn I μ P hs k n h4.1 (by have := h4.2; omega)
        | ct => exact wh_turn I μ P hs k n h4.1 (by have := h4.2; omega)
        | br => exact h4
        | rt d ow => exact h4
end SF

/-! All rules in one. -/
namespace SF
open PySem PySem.Spec
def sx0 := And.intro (And.intro (And.intro (And.intro (And.intro (@v_k) (@v_v)) (And.intro (@v_g) (And.intro (@v_o1) (@v_o2)))) (And.intro (And.intro (@v_o3) (@v_ch)) (And.intro (@v_sl) (And.intro (@v_and) (@v_or))))) (And.intro (And.intro (And.intro (@v_not) (@v_ite)) (And.intro (@v_tup) (And.intro (@v_lst) (@v_dct)))) (And.intro (And.intro (@v_call) (@t_k)) (And.intro (@t_v) (And.intro (@t_g) (@t_o1)))))) (And.intro (And.intro (And.intro (And.intro (@t_o2) (@t_o3)) (And.intro (@t_ch) (And.intro (@t_sl) (@t_and)))) (And.intro (And.intro (@t_or) (@t_not)) (And.intro (@t_ite) (And.intro (@t_tup) (@t_lst))))) (And.intro (And.intro (And.intro (@t_dct) (@t_call)) (And.intro (@t_lc) (And.intro (@O_v) (@O_k)))) (And.intro (And.intro (@O_g) (@O_o1)) (And.intro (@O_o2) (And.intro (@O_o3) (@O_ch))))))
def sx1 := And.intro (And.intro (And.intro (And.intro (And.intro (@O_sl) (@O_and)) (And.intro (@O_or) (And.intro (@O_not) (@O_ite)))) (And.intro (And.intro (@O_tup) (@O_lst)) (And.intro (@O_dct) (And.intro (@O_call) (@O_lc))))) (And.intro (And.intro (And.intro (@O_dc) (@fin_v)) (And.intro (@fin_k) (And.intro (@fin_g) (@fin_o1)))) (And.intro (And.intro (@fin_o2) (@fin_o3)) (And.intro (@fin_ch) (And.intro (@fin_sl) (@fin_and)))))) (And.intro (And.intro (And.intro (And.intro (@fin_or) (@fin_not)) (And.intro (@fin_ite) (And.intro (@fin_tup) (@fin_lst)))) (And.intro (And.intro (@fin_dct) (@fin_call)) (And.intro (@fin_lc) (And.intro (@fin_dc) (@fins_nil))))) (And.intro (And.intro (And.intro (@fins_cons) (@evP_no)) (And.intro (@evP_so) (And.intro (@evPi_i) (@evs_nil)))) (And.intro (And.intro (@evs_cons) (@evAs_nil)) (And.intro (@evAs_cons) (And.intro (@evI_seq) (@evI_rng))))))
def sx2 := And.intro (And.intro (And.intro (And.intro (And.intro (@rngR_1) (@rngR_2)) (And.intro (@evI_enm) (And.intro (@enmR_l) (@enmR_t)))) (And.intro (And.intro (@evI_zip) (@zipR_l)) (And.intro (@zipR_t) (And.intro (@evI_rev) (@revR_l))))) (And.intro (And.intro (And.intro (@items_l) (@items_t)) (And.intro (@a_n) (And.intro (@a_t) (@a_nil)))) (And.intro (And.intro (@a_cons) (@zs_set)) (And.intro (@zs_app) (And.intro (@zs_put) (@zs_expr)))))) (And.intro (And.intro (And.intro (And.intro (@zs_ret) (@zs_mv)) (And.intro (@zs_retN) (And.intro (@zs_ite) (@zs_raise)))) (And.intro (And.intro (@zs_try) (@zs_brk)) (And.intro (@zs_cont) (And.intro (@zs_pass) (@ss_nil))))) (And.intro (And.intro (And.intro (@ss_cons) (@seqR_nx)) (And.intro (@seqR_rt) (And.intro (@seqR_br) (@seqR_ct)))) (And.intro (And.intro (@tryR_ok) (@tryR_ex)) (And.intro (@tryR_ite) (And.intro (@caught_nil) (@caught_cons))))))
def sx3 := And.intro (And.intro (And.intro (And.intro (And.intro (@zhx_k) (@zhx_a)) (And.intro (@zhx_t) (And.intro (@zhxs_nil) (@zhxs_cons)))) (And.intro (And.intro (@mvR_o) (@mvR_v)) (And.intro (@mvR_s) (And.intro (@appR_l) (@putR_l))))) (And.intro (And.intro (And.intro (@putR_d) (@asT_ok)) (And.intro (@asT_ite) (And.intro (@asT_no) (@asT_ex)))) (And.intro (And.intro (@noV_ok) (@noV_ite)) (And.intro (@noV_no) (And.intro (@noV_ex) (@chR_b)))))) (And.intro (And.intro (And.intro (And.intro (@andR_b) (@orR_b)) (And.intro (@notR_b) (And.intro (@truth_b) (@truth_i)))) (And.intro (And.intro (@truth_n) (@truth_l)) (And.intro (@truth_t) (And.intro (@truth_d) (@bnd_ok))))) (And.intro (And.intro (And.intro (@bnd_ex) (@bnd_no)) (And.intro (@R.bind_ite) (And.intro (@of_some) (@calm_ok)))) (And.intro (And.intro (@ite_okB) (@ite_okD)) (And.intro (@ite_bool) (And.intro (@ite_int) (@ite_tf))))))
def sx4 := And.intro (And.intro (And.intro (And.intro (And.intro (@ite_ft) (@ite_bf)) (And.intro (@ite_tb) (And.intro (@peek_v) (@peek_o)))) (And.intro (And.intro (@peek_io) (@peek_s)) (And.intro (@leak_v) (And.intro (@leak_o) (@leak_s))))) (And.intro (And.intro (And.intro (@put_e) (@put_v)) (And.intro (@put_o) (And.intro (@put_opt) (@put_s)))) (And.intro (And.intro (@alter_o) (@alter_io)) (And.intro (@alter_s) (And.intro (@holds_e) (@holds_v)))))) (And.intro (And.intro (And.intro (And.intro (@holds_o) (@holds_io)) (And.intro (@holds_opt) (And.intro (@holds_s) (@ownAt_e)))) (And.intro (And.intro (@ownAt_v) (@ownAt_o)) (And.intro (@ownAt_io) (And.intro (@ownAt_s) (@listAt_o))))) (And.intro (And.intro (And.intro (@listAt_io) (@listAt_s)) (And.intro (@share_nil) (And.intro (@share_cons) (@shareAt_0)))) (And.intro (And.intro (@shareAt_s) (@share1_o)) (And.intro (@share1_v) (And.intro (@share1_e) (@share1_io))))))
def sx5 := And.intro (And.intro (And.intro (And.intro (And.intro (@setHeld_o) (@setHeld_io)) (And.intro (@setHeld_s) (And.intro (@lentG_nil) (@lentG_cons)))) (And.intro (And.intro (@lentC_t) (@lentC_n)) (And.intro (@lentC_s) (And.intro (@nameAt_0) (@nameAt_s))))) (And.intro (And.intro (And.intro (@callA0_ok) (@callA0_nil)) (And.intro (@callA0_ex) (And.intro (@callA0_exnil) (@callA0_ite)))) (And.intro (And.intro (@callA1_ok) (@callA1_ex)) (And.intro (@callA1_ite) (And.intro (@endR_rt) (@endR_nx)))))) (And.intro (And.intro (And.intro (And.intro (@endR_rt1) (@endR_nx1)) (And.intro (@ioAt_io) (And.intro (@ioAt_s) (@x_add)))) (And.intro (And.intro (@x_sub) (@x_lt)) (And.intro (@x_le) (And.intro (@x_gt) (@x_ge))))) (And.intro (And.intro (And.intro (@x_min) (@x_max)) (And.intro (@x_eq_i) (And.intro (@x_ne_i) (@x_eq_s)))) (And.intro (And.intro (@x_ne_s) (@x_eq_b)) (And.intro (@x_ne_b) (And.intro (@x_eq_nn) (@x_eq_ns))))))
def sx6 := And.intro (And.intro (And.intro (And.intro (And.intro (@x_eq_sn) (@x_eq_ni)) (And.intro (@x_eq_in) (And.intro (@x_eq_is) (@x_eq_si)))) (And.intro (And.intro (@x_ne_nn) (@x_ne_ns)) (And.intro (@x_ne_sn) (And.intro (@x_at_t) (@x_at_l))))) (And.intro (And.intro (And.intro (@x_val) (@x_new)) (And.intro (@y_neg) (And.intro (@y_len_l) (@y_len_t)))) (And.intro (And.intro (@y_len_d) (@y_abs)) (And.intro (@y_int) (And.intro (@y_tuple_l) (@y_tuple_t)))))) (And.intro (And.intro (And.intro (And.intro (@y_list_l) (@y_list_t)) (And.intro (@y_isi) (And.intro (@y_isN) (@y_notN)))) (And.intro (And.intro (@isKey_s) (@isKey_i)) (And.intro (@stillIn_1) (And.intro (@still_i) (@still_s))))) (And.intro (And.intro (And.intro (@still_n) (@still_b)) (And.intro (@isNone_n) (And.intro (@isNone_i) (@isNone_s)))) (And.intro (And.intro (@isNone_b) (@isNone_t)) (And.intro (@isNone_l) (And.intro (@isTy_int_i) (@isTy_int_b))))))
def sx7 := And.intro (And.intro (And.intro (And.intro (@isTy_int_s) (And.intro (@isTy_int_t) (@isTy_int_n))) (And.intro (And.intro (@isTy_bool_i) (@isTy_bool_b)) (And.intro (@isTy_bool_s) (@isTy_bool_t)))) (And.intro (And.intro (@isTy_bool_n) (And.intro (@isTy_str_i) (@isTy_str_b))) (And.intro (And.intro (@isTy_str_s) (@isTy_str_t)) (And.intro (@isTy_str_n) (@isTy_tuple_i))))) (And.intro (And.intro (And.intro (@isTy_tuple_b) (And.intro (@isTy_tuple_s) (@isTy_tuple_t))) (And.intro (And.intro (@isTy_tuple_n) (@at_0)) (And.intro (@at_1) (@at_2)))) (And.intro (And.intro (And.intro (@at_3) (@at_4)) (And.intro (@cutD_tf) (@cutD_tt))) (And.intro (And.intro (@cutD_lf) (@cutD_lt)) (And.intro (@cutD_t1) (@cutD_l1)))))
end SF

/-! Fractions in least terms, and sizes of numbers. -/
namespace SF
open PySem PySem.Spec
def encR (r : Rat) : D := .tuple [.int r.num, .int r.den]
theorem encR_inj {p q : Rat} (h : encR p = encR q) : p = q := by
  unfold encR at h
  injection h with h; injection h with h1 h; injection h with h2 h
  injection h1 with h1; injection h2 with h2
  exact Rat.ext h1 (by omega)
/-- both parts below a power of two -/
def Sm (k : Nat) (r : Rat) : Prop := r.num.natAbs < 2 ^ k ∧ r.den < 2 ^ k
theorem Sm.mono {i j : Nat} {r : Rat} (h : Sm i r) (hij : i ≤ j) : Sm j r :=
  ⟨Nat.lt_of_lt_of_le h.1 (Nat.pow_le_pow_right (by decide) hij), Nat.lt_of_lt_of_le h.2 (Nat.pow_le_pow_right (by decide) hij)⟩
theorem Sm.mkRat {k : Nat} {a : Int} {b : Nat} (h0 : b ≠ 0) (ha : a.natAbs < 2 ^ k) (hb : b < 2 ^ k) : Sm k (mkRat a b) := by
  constructor
  · rw [Rat.num_mkRat, if_neg h0]
    have : (a / ((b.gcd a.natAbs : Nat) : Int)).natAbs ≤ a.natAbs := by
      have := Int.natAbs_ediv_le_natAbs a (b.gcd a.natAbs : Nat)
      exact this
    omega
  · rw [Rat.den_mkRat, if_neg h0]
    exact Nat.lt_of_le_of_lt (Nat.div_le_self _ _) hb
theorem natAbs_mul_lt {a b : Int} {i j : Nat} (ha : a.natAbs < 2 ^ i) (hb : b.natAbs < 2 ^ j) : (a * b).natAbs < 2 ^ (i + j) := by
  rw [Int.natAbs_mul, Nat.pow_add]
  exact Nat.mul_lt_mul'' ha hb
theorem natAbs_add_lt {a b : Int} {i : Nat} (ha : a.natAbs < 2 ^ i) (hb : b.natAbs < 2 ^ i) : (a + b).natAbs < 2 ^ (i + 1) := by
  rw [Nat.pow_succ]; omega
theorem Sm.add {i j : Nat} {p q : Rat} (hp : Sm i p) (hq : Sm j q) : Sm (i + j + 1) (p + q) := by
  rw [Rat.add_def']
  refine Sm.mkRat (Nat.mul_ne_zero p.den_nz q.den_nz) (natAbs_add_lt (natAbs_mul_lt hp.1 (by rw [Int.natAbs_natCast]; exact hq.2)) ?_) ?_
  · rw [Nat.add_comm]; exact natAbs_mul_lt hq.1 (by rw [Int.natAbs_natCast]; exact hp.2)
  · have : p.den * q.den < 2 ^ (i + j) := by rw [Nat.pow_add]; exact Nat.mul_lt_mul'' hp.2 hq.2
    rw [Nat.pow_succ]; omega
theorem Sm.mul {i j : Nat} {p q : Rat} (hp : Sm i p) (hq : Sm j q) : Sm (i + j) (p * q) := by
  rw [Rat.mul_def']
  refine Sm.mkRat (Nat.mul_ne_zero p.den_nz q.den_nz) (natAbs_mul_lt hp.1 hq.1) ?_
  rw [Nat.pow_add]; exact Nat.mul_lt_mul'' hp.2 hq.2
theorem Sm.neg {i : Nat} {p : Rat} (hp : Sm i p) : Sm i (-p) := ⟨by rw [Rat.neg_num, Int.natAbs_neg]; exact hp.1, hp.2⟩
theorem Sm.sub {i j : Nat} {p q : Rat} (hp : Sm i p) (hq : Sm j q) : Sm (i + j + 1) (p - q) := by
  rw [Rat.sub_eq_add_neg]; exact hp.add hq.neg
theorem Sm.int {k : Nat} {a : Int} (ha : a.natAbs < 2 ^ k) (hk : k ≠ 0) : Sm k (a : Rat) :=
  ⟨ha, by show 1 < 2 ^ k; exact Nat.one_lt_two_pow hk⟩
theorem log2_le {n k : Nat} (h : n < 2 ^ k) : n.log2 ≤ k := by
  by_cases h0 : n = 0
  · subst h0; simp
  · have := (Nat.log2_lt h0).mpr h; omega
theorem mul_guard {a b : Int} {i j : Nat} (ha : a.natAbs < 2 ^ i) (hb : b.natAbs < 2 ^ j) (h : i + j < 1000000) : a.natAbs.log2 + b.natAbs.log2 < 1000000 := by
  have := log2_le ha; have := log2_le hb; omega
/-- not too great for the operations -/
def Bd (r : Rat) : Prop := Sm 4000 r
theorem Bd.of {k : Nat} {r : Rat} (h : Sm k r) (hk : k ≤ 4000) : Bd r := h.mono hk
theorem fr_pos (a : Int) (b : Nat) (h : b ≠ 0) : a / (Int.gcd a b : Int) = (mkRat a b).num ∧ (b : Int) / (Int.gcd a b : Int) = ((mkRat a b).den : Int) := by
  rw [Rat.num_mkRat, Rat.den_mkRat, if_neg h, if_neg h]
  have : Int.gcd a b = b.gcd a.natAbs := by unfold Int.gcd; rw [Nat.gcd_comm, Int.natAbs_natCast]
  rw [this]
  exact ⟨rfl, by rw [Int.natCast_ediv]⟩
theorem rat_add (p q : Rat) : p + q = mkRat (p.num * q.den + q.num * p.den) (p.den * q.den) := Rat.add_def' p q
theorem rat_ints {p q : Rat} (hp : p.den = 1) (hq : q.den = 1) : encR (p + q) = .tuple [.int (p.num + q.num), .int 1] ∧ encR (p * q) = .tuple [.int (p.num * q.num), .int 1] := by
  have h1 : p = (p.num : Rat) := Rat.ext rfl hp
  have h2 : q = (q.num : Rat) := Rat.ext rfl hq
  constructor
  · have : p + q = ((p.num + q.num : Int) : Rat) := by rw [Rat.intCast_add, ← h1, ← h2]
    rw [this]; rfl
  · have : p * q = ((p.num * q.num : Int) : Rat) := by rw [Rat.intCast_mul, ← h1, ← h2]
    rw [this]; rfl
theorem whR_gcd (t : Nv → R (Bool × Nv)) (b : Nv → R (Fl × Nv)) (ht : ∀ x y : Int, t [.val (.int x), .val (.int y)] = .ok (decide (0 < y), [.val (.int x), .val (.int y)]))
    (hb : ∀ x y : Int, 0 < y → b [.val (.int x), .val (.int y)] = .ok (.nx, [.val (.int y), .val (.int (x % y))])) : ∀ (n : Nat) (x y : Int), 0 ≤ x → 0 ≤ y → y.natAbs < n →
    whR t b n [.val (.int x), .val (.int y)] = .ok (.nx, [.val (.int (Int.gcd x y)), .val (.int 0)]) := by
  intro n
  induction n with
  | zero => intro x y _ _ h; omega
  | succ n ih =>
    intro x y hx hy h
    unfold whR
    rw [ht]
    by_cases h0 : 0 < y
    · simp only [SF.R.bind_ok, h0, decide_true, if_true]
      rw [hb x y h0]
      simp only [SF.R.bind_ok]
      rw [ih y (x % y) hy (Int.emod_nonneg _ (by omega)) (by have := Int.emod_lt_of_pos x h0; have := Int.emod_nonneg x (show y ≠ 0 by omega); omega)]
      have : Int.gcd y (x % y) = Int.gcd x y := by
        obtain ⟨a, rfl⟩ := Int.eq_ofNat_of_zero_le hx
        obtain ⟨c, rfl⟩ := Int.eq_ofNat_of_zero_le hy
        rw [← Int.natCast_emod, Int.gcd_natCast_natCast, Int.gcd_natCast_natCast, Nat.gcd_comm a c, Nat.gcd_rec c a, Nat.gcd_comm]
      rw [this]
    · have : y = 0 := by omega
      subst this
      simp [Int.gcd_zero_right, Int.natAbs_of_nonneg hx]
theorem whR_gcd4 (d0 d1 : D) (t : Nv → R (Bool × Nv)) (b : Nv → R (Fl × Nv)) (ht : ∀ x y : Int, t [.val d0, .val d1, .val (.int x), .val (.int y)] = .ok (decide (0 < y), [.val d0, .val d1, .val (.int x), .val (.int y)]))
    (hb : ∀ x y : Int, 0 < y → b [.val d0, .val d1, .val (.int x), .val (.int y)] = .ok (.nx, [.val d0, .val d1, .val (.int y), .val (.int (x % y))])) : ∀ (n : Nat) (x y : Int), 0 ≤ x → 0 ≤ y → y.natAbs < n →
    whR t b n [.val d0, .val d1, .val (.int x), .val (.int y)] = .ok (.nx, [.val d0, .val d1, .val (.int (Int.gcd x y)), .val (.int 0)]) := by
  intro n
  induction n with
  | zero => intro x y _ _ h; omega
  | succ n ih =>
    intro x y hx hy h
    unfold whR
    rw [ht]
    by_cases h0 : 0 < y
    · simp only [SF.R.bind_ok, h0, decide_true, if_true]
      rw [hb x y h0]
      simp only [SF.R.bind_ok]
      rw [ih y (x % y) hy (Int.emod_nonneg _ (by omega)) (by have := Int.emod_lt_of_pos x h0; have := Int.emod_nonneg x (show y ≠ 0 by omega); omega)]
      have : Int.gcd y (x % y) = Int.gcd x y := by
        obtain ⟨a, rfl⟩ := Int.eq_ofNat_of_zero_le hx
        obtain ⟨c, rfl⟩ := Int.eq_ofNat_of_zero_le hy
        rw [← Int.natCast_emod, Int.gcd_natCast_natCast, Int.gcd_natCast_natCast, Nat.gcd_comm a c, Nat.gcd_rec c a, Nat.gcd_comm]
      rw [this]
    · have : y = 0 := by omega
      subst this
      simp [Int.gcd_zero_right, Int.natAbs_of_nonneg hx]
theorem Sm.den_lt {i j : Nat} {p q : Rat} (hp : Sm i p) (hq : Sm j q) : p.den * q.den < 2 ^ (i + j) := by
  rw [Nat.pow_add]; exact Nat.mul_lt_mul'' hp.2 hq.2
theorem Bd.guard1 {p q : Rat} (hp : Bd p) (hq : Bd q) : p.num.natAbs.log2 + (q.den : Int).natAbs.log2 < 1000000 := mul_guard hp.1 (by rw [Int.natAbs_natCast]; exact hq.2) (by decide)
theorem Bd.guard2 {p q : Rat} (hp : Bd p) (hq : Bd q) : p.num.natAbs.log2 + q.num.natAbs.log2 < 1000000 := mul_guard hp.1 hq.1 (by decide)
theorem Bd.guard3 {p q : Rat} (hp : Bd p) (hq : Bd q) : (p.den : Int).natAbs.log2 + (q.den : Int).natAbs.log2 < 1000000 := mul_guard (by rw [Int.natAbs_natCast]; exact hp.2) (by rw [Int.natAbs_natCast]; exact hq.2) (by decide)
theorem Bd.guard4 {p q : Rat} (hp : Bd p) (hq : Bd q) : (p.den : Int).natAbs.log2 + q.num.natAbs.log2 < 1000000 := mul_guard (by rw [Int.natAbs_natCast]; exact hp.2) hq.1 (by decide)
theorem Bd.dens {p q : Rat} (hp : Bd p) (hq : Bd q) : p.den * q.den ≠ 0 ∧ p.den * q.den < 2 ^ 8900 :=
  ⟨Nat.mul_ne_zero p.den_nz q.den_nz, Nat.lt_of_lt_of_le (Sm.den_lt hp hq) (Nat.pow_le_pow_right (by decide) (by decide))⟩
theorem Bd.neg {p : Rat} (h : Bd p) : Bd (-p) := Sm.neg h
end SF

/-! What a law draws from its script. -/
namespace SF
open PySem PySem.Spec
def encI (l : List Int) : D := .list (l.map .int)
def stepM (ds : List Int) (p : Nat) (k : Int) (mixed : Int) : Int :=
  ((if ds = [] then mixed else mixed + ds.getD (((p : Int) * (k + 5) + k) % (ds.length : Int)).toNat 0) * 16807 + 69621 * k + 5) % 2147483629
def rawMore (ds : List Int) (p : Nat) : Int := stepM ds p 2 (stepM ds p 1 (stepM ds p 0 (((p : Int) * 48271 + (ds.length : Int) + 11) % 2147483629))) / 1009
def raw (ds : List Int) (p : Nat) : Int := if p < ds.length then ds.getD p 0 else rawMore ds p
def tk (ds : List Int) (p : Nat) (n : Int) : Int := raw ds p % n
theorem tk_nonneg (ds : List Int) (p : Nat) {n : Int} (h : 0 < n) : 0 ≤ tk ds p n := Int.emod_nonneg _ (by omega)
theorem tk_lt (ds : List Int) (p : Nat) {n : Int} (h : 0 < n) : tk ds p n < n := Int.emod_lt_of_pos _ h
/-- numbers that were drawn -/
def DrOk (ds : List Int) : Prop := (∀ d ∈ ds, 0 ≤ d ∧ d < 2147483647) ∧ ds.length ≤ 3780
/-- the place drawn next -/
def PlOk (p : Nat) : Prop := p < 2 ^ 60
theorem natAbs_lt_of {a : Int} {k : Nat} (h1 : -(2 ^ k : Nat) < a) (h2 : a < (2 ^ k : Nat)) : a.natAbs < 2 ^ k := by omega
theorem getD_dr {ds : List Int} (h : DrOk ds) (k : Nat) : 0 ≤ ds.getD k 0 ∧ ds.getD k 0 < 2147483647 := by
  by_cases hk : k < ds.length
  · have := h.1 (ds[k]) (List.getElem_mem hk)
    simpa [List.getD, hk] using this
  · simp [List.getD, List.getElem?_eq_none (Nat.le_of_not_lt hk)]
theorem stepM_bound (ds : List Int) (p : Nat) (k mixed : Int) : 0 ≤ stepM ds p k mixed ∧ stepM ds p k mixed < 2147483629 :=
  ⟨Int.emod_nonneg _ (by decide), Int.emod_lt_of_pos _ (by decide)⟩
end SF

/-! Values that may be compared and shown. -/
namespace SF
open PySem PySem.Spec
mutual
def smallIs : D → Bool
  | .int i => decide (i.natAbs.log2 < 1000)
  | .list xs => smallAll xs
  | .tuple xs => smallAll xs
  | _ => true
def smallAll : List D → Bool
  | [] => true
  | x :: xs => smallIs x && smallAll xs
end
/-- depth at most k, weight at most n -/
structure Nice (k n : Nat) (d : D) : Prop where
  lay : d.canLay0 = true
  dep : d.depth ≤ k
  wei : d.weight ≤ n
  sml : smallIs d = true
theorem Nice.mono {k n k' n' : Nat} {d : D} (h : Nice k n d) (hk : k ≤ k') (hn : n ≤ n') : Nice k' n' d := ⟨h.lay, Nat.le_trans h.dep hk, Nat.le_trans h.wei hn, h.sml⟩
theorem nice_none : Nice 0 0 .none := ⟨rfl, Nat.le_refl _, Nat.le_refl _, rfl⟩
theorem nice_bool (b : Bool) : Nice 0 0 (.bool b) := ⟨rfl, Nat.le_refl _, Nat.le_refl _, rfl⟩
theorem nice_int {k : Nat} {i : Int} (h : i.natAbs < 2 ^ k) (hk : k < 1000) : Nice 0 (k + 1) (.int i) := by
  have := log2_le h
  refine ⟨rfl, Nat.le_refl _, ?_, ?_⟩
  · show (if i == 0 then 0 else i.natAbs.log2 + 1) ≤ _
    split <;> omega
  · show decide (i.natAbs.log2 < 1000) = true
    simp; omega
theorem nice_str {s : Str} {n : Nat} (h : PyData.strOk s = true) (hn : s.length ≤ n) : Nice 0 n (.str s) := ⟨h, Nat.le_refl _, hn, rfl⟩
theorem nice_all {k n : Nat} : ∀ {xs : List D}, (∀ x ∈ xs, Nice k n x) → PyData.canLayAll0 xs = true ∧ PyData.depthAll xs ≤ k ∧ PyData.weightAll xs ≤ xs.length * (n + 1) ∧ smallAll xs = true
  | [], _ => ⟨rfl, Nat.zero_le _, Nat.zero_le _, rfl⟩
  | x :: xs, h => by
    have h1 := h x (List.mem_cons_self ..)
    obtain ⟨a, b, c, d⟩ := nice_all (fun y hy => h y (List.mem_cons_of_mem _ hy))
    refine ⟨?_, ?_, ?_, ?_⟩
    · show (x.canLay0 && PyData.canLayAll0 xs) = true
      rw [h1.lay, a]; rfl
    · show max x.depth (PyData.depthAll xs) ≤ k
      have := h1.dep; omega
    · show x.weight + 1 + PyData.weightAll xs ≤ (xs.length + 1) * (n + 1)
      have := h1.wei
      rw [Nat.add_mul, Nat.one_mul]; omega
    · show (smallIs x && smallAll xs) = true
      rw [h1.sml, d]; rfl
theorem nice_tup {k n : Nat} {xs : List D} (h : ∀ x ∈ xs, Nice k n x) : Nice (k + 1) (xs.length * (n + 1)) (.tuple xs) := by
  obtain ⟨a, b, c, d⟩ := nice_all h
  exact ⟨a, Nat.succ_le_succ b, c, d⟩
theorem nice_lst {k n : Nat} {xs : List D} (h : ∀ x ∈ xs, Nice k n x) : Nice (k + 1) (xs.length * (n + 1)) (.list xs) := by
  obtain ⟨a, b, c, d⟩ := nice_all h
  exact ⟨a, Nat.succ_le_succ b, c, d⟩
mutual
theorem short_of_small : ∀ (d : D), d.canLay0 = true → smallIs d = true → d.intsShort 1921 = true ∧ d.showable = true
  | .none, _, _ => ⟨rfl, rfl⟩
  | .bool _, _, _ => ⟨rfl, rfl⟩
  | .str _, _, _ => ⟨rfl, rfl⟩
  | .dict _, h, _ => by cases h
  | .int i, _, h => by
    have h1 : i.natAbs.log2 < 1000 := of_decide_eq_true h
    constructor
    · show decide ((Str.ofString (toString i)).length ≤ 1921) = true
      exact decide_eq_true (PyProof.Rows.int_text_len_1921 (by omega))
    · show decide (i.natAbs.log2 < 1920) = true
      exact decide_eq_true (by omega)
  | .list xs, h, h2 => shortAll xs h h2
  | .tuple xs, h, h2 => shortAll xs h h2
theorem shortAll : ∀ (xs : List D), PyData.canLayAll0 xs = true → smallAll xs = true → PyData.intsShortAll 1921 xs = true ∧ PyData.showableAll xs = true
  | [], _, _ => ⟨rfl, rfl⟩
  | x :: xs, h, h2 => by
    have h' : (x.canLay0 && PyData.canLayAll0 xs) = true := h
    have h2' : (smallIs x && smallAll xs) = true := h2
    rw [Bool.and_eq_true] at h' h2'
    obtain ⟨a, b⟩ := short_of_small x h'.1 h2'.1
    obtain ⟨c, d⟩ := shortAll xs h'.2 h2'.2
    constructor
    · show (PyData.intsShort 1921 x && PyData.intsShortAll 1921 xs) = true
      rw [a, c]; rfl
    · show (PyData.showable x && PyData.showableAll xs) = true
      rw [b, d]; rfl
end
theorem Nice.shaped {k n : Nat} {d : D} (h : Nice k n d) (hk : k ≤ 64) : SeqAt.shaped d = true := by
  show (d.canLay0 && decide (d.depth ≤ 64)) = true
  rw [h.lay, decide_eq_true (show d.depth ≤ 64 from Nat.le_trans h.dep hk)]; rfl
theorem Nice.repr {k n : Nat} {d : D} (h : Nice k n d) (hk : k ≤ 64) (hn : n ≤ 8000) : op1 .repr d = .ok (.str d.shown, false) := by
  obtain ⟨a, b⟩ := short_of_small d h.lay h.sml
  have c := PyData.hasDict_of_canLay d h.lay
  have e := PyData.shown_le 1921 (by decide) d (PyData.leavesShort_of_canLay0 1921 d h.lay a)
  have f : (1921 + 2) * d.weight ≤ 1923 * 8000 := Nat.mul_le_mul (by decide) (Nat.le_trans h.wei hn)
  have g : d.shown.length ≤ sizeLine := by rw [sizeLine_eq]; omega
  have h1 := h.dep
  show (if d.showable && !d.hasDict && decide (d.depth ≤ 64) && decide (d.shown.length ≤ sizeLine) then val (.str d.shown) else R.no) = _
  rw [if_pos]
  · rfl
  · rw [b, c, decide_eq_true g, decide_eq_true (show d.depth ≤ 64 by omega)]; rfl
theorem Nice.eqv {k n : Nat} {d : D} (h : Nice k n d) : PyData.eqv d d = true := PySem.SeqAt.eqv_refl d h.lay
theorem smallAll_of : ∀ {xs : List D}, (∀ x ∈ xs, smallIs x = true) → smallAll xs = true
  | [], _ => rfl
  | x :: xs, h => by
    show (smallIs x && smallAll xs) = true
    rw [h x (List.mem_cons_self ..), smallAll_of fun y hy => h y (List.mem_cons_of_mem _ hy)]; rfl
theorem smallAll_cons {x : D} {xs : List D} (h : smallIs x = true) (h2 : smallAll xs = true) : smallAll (x :: xs) = true := by
  show (smallIs x && smallAll xs) = true
  rw [h, h2]; rfl
theorem stillAll_of : ∀ {xs : List D}, (∀ x ∈ xs, still x = true) → still.stillAll xs = true
  | [], _ => rfl
  | x :: xs, h => by
    show (still x && still.stillAll xs) = true
    rw [h x (List.mem_cons_self ..), stillAll_of fun y hy => h y (List.mem_cons_of_mem _ hy)]; rfl
theorem still_tup {xs : List D} (h : ∀ x ∈ xs, still x = true) : still (.tuple xs) = true := stillAll_of h
/-- small, and nothing in it that could change -/
def SSt (d : D) : Prop := smallIs d = true ∧ still d = true
theorem sst_tup {xs : List D} (h : ∀ x ∈ xs, SSt x) : SSt (.tuple xs) := ⟨smallAll_of fun x hx => (h x hx).1, still_tup fun x hx => (h x hx).2⟩
theorem sst_str (s : Str) : SSt (.str s) := ⟨rfl, rfl⟩
theorem sst_none : SSt .none := ⟨rfl, rfl⟩
theorem sst_bool (b : Bool) : SSt (.bool b) := ⟨rfl, rfl⟩
theorem sst_int {i : Int} (h : i.natAbs < 2 ^ 990) : SSt (.int i) := ⟨by
  have := log2_le h
  show decide (i.natAbs.log2 < 1000) = true
  exact decide_eq_true (by omega), rfl⟩
theorem sst_nil : SSt (.tuple []) := ⟨rfl, rfl⟩
theorem sst_cons {x : D} {xs : List D} (h : SSt x) (h2 : SSt (.tuple xs)) : SSt (.tuple (x :: xs)) := ⟨smallAll_cons h.1 h2.1, by
  show (still x && still.stillAll xs) = true
  rw [h.2, show still.stillAll xs = true from h2.2]; rfl⟩
theorem smallAll_mem : ∀ {xs : List D}, smallAll xs = true → ∀ x ∈ xs, smallIs x = true
  | [], _, x, h => by cases h
  | y :: ys, hs, x, h => by
    have h' : (smallIs y && smallAll ys) = true := hs
    rw [Bool.and_eq_true] at h'
    rcases List.mem_cons.mp h with rfl | h
    · exact h'.1
    · exact smallAll_mem h'.2 x h
theorem stillAll_mem : ∀ {xs : List D}, still.stillAll xs = true → ∀ x ∈ xs, still x = true
  | [], _, x, h => by cases h
  | y :: ys, hs, x, h => by
    have h' : (still y && still.stillAll ys) = true := hs
    rw [Bool.and_eq_true] at h'
    rcases List.mem_cons.mp h with rfl | h
    · exact h'.1
    · exact stillAll_mem h'.2 x h
theorem sst_mem {xs : List D} (h : SSt (.tuple xs)) : ∀ x ∈ xs, SSt x := fun x hx => ⟨smallAll_mem h.1 x hx, stillAll_mem h.2 x hx⟩
/-! ### which values are equal -/
mutual
/-- no truth values, dicts -/
def noB : D → Bool
  | .bool _ => false
  | .dict _ => false
  | .list xs => noBs xs
  | .tuple xs => noBs xs
  | _ => true
def noBs : List D → Bool
  | [] => true
  | x :: xs => noB x && noBs xs
end
mutual
theorem eqv_noB : ∀ (d e : D), noB d = true → noB e = true → PyData.eqv d e = true → d = e
  | .none, .none, _, _, _ => rfl
  | .int i, .int j, _, _, h => by rw [show i = j from eq_of_beq h]
  | .str s, .str t, _, _, h => by rw [show s = t from eq_of_beq h]
  | .list xs, .list ys, h1, h2, h => by rw [eqvs_noB xs ys h1 h2 h]
  | .tuple xs, .tuple ys, h1, h2, h => by rw [eqvs_noB xs ys h1 h2 h]
  | .bool _, _, h, _, _ => by cases h
  | .dict _, _, h, _, _ => by cases h
  | .none, .bool _, _, h, _ => by cases h
  | .int _, .bool _, _, h, _ => by cases h
  | .str _, .bool _, _, h, _ => by cases h
  | .list _, .bool _, _, h, _ => by cases h
  | .tuple _, .bool _, _, h, _ => by cases h
  | .none, .dict _, _, h, _ => by cases h
  | .int _, .dict _, _, h, _ => by cases h
  | .str _, .dict _, _, h, _ => by cases h
  | .list _, .dict _, _, h, _ => by cases h
  | .tuple _, .dict _, _, h, _ => by cases h
  | .none, .int _, _, _, h => by cases h
  | .none, .str _, _, _, h => by cases h
  | .none, .list _, _, _, h => by cases h
  | .none, .tuple _, _, _, h => by cases h
  | .int _, .none, _, _, h => by cases h
  | .int _, .str _, _, _, h => by cases h
  | .int _, .list _, _, _, h => by cases h
  | .int _, .tuple _, _, _, h => by cases h
  | .str _, .none, _, _, h => by cases h
  | .str _, .int _, _, _, h => by cases h
  | .str _, .list _, _, _, h => by cases h
  | .str _, .tuple _, _, _, h => by cases h
  | .list _, .none, _, _, h => by cases h
  | .list _, .int _, _, _, h => by cases h
  | .list _, .str _, _, _, h => by cases h
  | .list _, .tuple _, _, _, h => by cases h
  | .tuple _, .none, _, _, h => by cases h
  | .tuple _, .int _, _, _, h => by cases h
  | .tuple _, .str _, _, _, h => by cases h
  | .tuple _, .list _, _, _, h => by cases h
theorem eqvs_noB : ∀ (xs ys : List D), noBs xs = true → noBs ys = true → PyData.eqvAll xs ys = true → xs = ys
  | [], [], _, _, _ => rfl
  | [], _ :: _, _, _, h => by cases h
  | _ :: _, [], _, _, h => by cases h
  | x :: xs, y :: ys, h1, h2, h => by
    have h1' : (noB x && noBs xs) = true := h1
    have h2' : (noB y && noBs ys) = true := h2
    have h' : (PyData.eqv x y && PyData.eqvAll xs ys) = true := h
    rw [Bool.and_eq_true] at h1' h2' h'
    rw [eqv_noB x y h1'.1 h2'.1 h'.1, eqvs_noB xs ys h1'.2 h2'.2 h'.2]
end
theorem eqv_dec {d e : D} (hl : d.canLay0 = true) (h1 : noB d = true) (h2 : noB e = true) {p : Prop} [Decidable p] (hp : p ↔ d = e) : PyData.eqv d e = decide p := by
  by_cases h : p
  · have e1 := hp.mp h
    subst e1
    rw [decide_eq_true h]
    exact PySem.SeqAt.eqv_refl d hl
  · rw [decide_eq_false h]
    cases c : PyData.eqv d e with
    | false => rfl
    | true => exact absurd (hp.mpr (eqv_noB d e h1 h2 c)) h
theorem shapedR (p : Rat) : SeqAt.shaped (encR p) = true := by
  show (PyData.canLay0 (.tuple [.int p.num, .int p.den]) && decide (PyData.depth (.tuple [.int p.num, .int p.den]) ≤ 64)) = true
  rfl
theorem x_eq_R (p q : Rat) : op2 .eq (encR p) (encR q) = .ok (.bool (decide (p = q)), false) := by
  rw [x_eq_shaped _ _ (shapedR p) (shapedR q), eqv_dec rfl rfl rfl ⟨fun h => by rw [h], encR_inj⟩]
theorem x_ne_R (p q : Rat) : op2 .ne (encR p) (encR q) = .ok (.bool (!decide (p = q)), false) := by
  rw [x_ne_shaped _ _ (shapedR p) (shapedR q), eqv_dec rfl rfl rfl ⟨fun h => by rw [h], encR_inj⟩]
theorem encR_0 : PyData.tuple [.int 0, .int 1] = encR 0 := id rfl
theorem encR_i (a : Int) : PyData.tuple [.int a, .int 1] = encR a := id rfl
theorem nice_R {k : Nat} {r : Rat} (h : Sm k r) (hk : k < 1000) : Nice 1 (2 * (k + 2)) (encR r) := by
  refine nice_tup (k := 0) (n := k + 1) (xs := [.int r.num, .int r.den]) fun x hx => ?_
  rcases List.mem_cons.mp hx with rfl | hx
  · exact nice_int h.1 hk
  · rcases List.mem_cons.mp hx with rfl | hx
    · exact nice_int (by rw [Int.natAbs_natCast]; exact h.2) hk
    · cases hx
theorem sst_R {k : Nat} {r : Rat} (h : Sm k r) (hk : k ≤ 990) : SSt (encR r) := by
  have h := h.mono hk
  exact sst_cons (sst_int h.1) (sst_cons (sst_int (by rw [Int.natAbs_natCast]; exact h.2)) sst_nil)
end SF

/-! Towers: plain functions. -/
namespace SF
open PySem PySem.Spec
structure Blk where
  nm : Str
  l : Int
  w : Int
  g : Int
def encB (b : Blk) : D := .tuple [.str b.nm, .int b.l, .int b.w, .int b.g]
def encT (t : List Blk) : D := .tuple (t.map encB)
def BOk (b : Blk) : Prop := (-1000 ≤ b.l ∧ b.l ≤ 1000) ∧ (1 ≤ b.w ∧ b.w ≤ 1000) ∧ (1 ≤ b.g ∧ b.g ≤ 1000000) ∧ PyData.strOk b.nm = true
def BT (t : List Blk) : Prop := (∀ b ∈ t, BOk b) ∧ t.length ≤ 12
def ctc (t : List Blk) (k : Nat) : Int × Int := match t[k]?, (if k = 0 then none else t[k - 1]?) with
  | some b, none => (b.l, b.l + b.w)
  | some b, some c => (max b.l c.l, min (b.l + b.w) (c.l + c.w))
  | none, _ => (0, 0)
def wt (t : List Blk) (k : Nat) : Int := ((t.drop k).map (·.g)).sum
def mo (t : List Blk) (k : Nat) : Int := ((t.drop k).map fun b => b.g * (2 * b.l + b.w)).sum
def ctr (t : List Blk) (k : Nat) : Rat := mkRat (mo t k) (2 * wt t k).toNat
def sideD (t : List Blk) (k : Nat) : D := if ctr t k < ((ctc t k).1 : Rat) then .str "left" else if ((ctc t k).2 : Rat) < ctr t k then .str "right" else .none
theorem sum_bound {α : Type} (f : α → Int) (B : Int) (hB : 0 ≤ B) : ∀ (l : List α), (∀ x ∈ l, -B ≤ f x ∧ f x ≤ B) → -(B * l.length) ≤ (l.map f).sum ∧ (l.map f).sum ≤ B * l.length
  | [], _ => by simp
  | x :: l, h => by
    have h1 := h x (List.mem_cons_self ..)
    have h2 := sum_bound f B hB l fun y hy => h y (List.mem_cons_of_mem _ hy)
    simp only [List.map_cons, List.sum_cons, List.length_cons, Int.natCast_add, Int.cast_ofNat_Int, Int.mul_add, Int.mul_one]
    omega
theorem sum_pos {α : Type} (f : α → Int) : ∀ (l : List α), (∀ x ∈ l, 1 ≤ f x) → (l.length : Int) ≤ (l.map f).sum
  | [], _ => by simp
  | x :: l, h => by
    have h1 := h x (List.mem_cons_self ..)
    have h2 := sum_pos f l fun y hy => h y (List.mem_cons_of_mem _ hy)
    simp only [List.map_cons, List.sum_cons, List.length_cons, Int.natCast_add, Int.cast_ofNat_Int]
    omega
theorem BT.drop {t : List Blk} (h : BT t) (k : Nat) : (∀ b ∈ t.drop k, BOk b) ∧ (t.drop k).length ≤ 12 :=
  ⟨fun b hb => h.1 b (List.mem_of_mem_drop hb), by rw [List.length_drop]; have := h.2; omega⟩
theorem BT.take {t : List Blk} (h : BT t) (k : Nat) : BT (t.take k) :=
  ⟨fun b hb => h.1 b (List.mem_of_mem_take hb), by rw [List.length_take]; have := h.2; omega⟩
theorem wt_bound {t : List Blk} (h : BT t) (k : Nat) : 0 ≤ wt t k ∧ wt t k ≤ 12000000 := by
  have hd := h.drop k
  have h1 := sum_bound (·.g) 1000000 (by decide) (t.drop k) fun b hb => by have := hd.1 b hb; unfold BOk at this; omega
  have h2 := sum_pos (·.g) (t.drop k) fun b hb => (hd.1 b hb).2.2.1.1
  unfold wt
  have := hd.2
  omega
theorem wt_pos {t : List Blk} (h : BT t) {k : Nat} (hk : k < t.length) : 0 < wt t k := by
  have hd := h.drop k
  have h2 := sum_pos (·.g) (t.drop k) fun b hb => (hd.1 b hb).2.2.1.1
  rw [List.length_drop] at h2
  unfold wt
  omega
theorem mul_range {a b A B : Int} (h1 : 1 ≤ a ∧ a ≤ A) (h2 : -B ≤ b ∧ b ≤ B) : -(A * B) ≤ a * b ∧ a * b ≤ A * B := by
  have hB : 0 ≤ B := by omega
  have hA : 0 ≤ A := by omega
  constructor
  · have e1 : a * -B ≤ a * b := Int.mul_le_mul_of_nonneg_left h2.1 (by omega)
    have e2 : a * B ≤ A * B := Int.mul_le_mul_of_nonneg_right h1.2 hB
    rw [Int.mul_neg] at e1; omega
  · have e1 : a * b ≤ a * B := Int.mul_le_mul_of_nonneg_left h2.2 (by omega)
    have e2 : a * B ≤ A * B := Int.mul_le_mul_of_nonneg_right h1.2 hB
    omega
theorem mo_bound {t : List Blk} (h : BT t) (k : Nat) : (mo t k).natAbs < 2 ^ 40 := by
  have hd := h.drop k
  have h1 := sum_bound (fun b : Blk => b.g * (2 * b.l + b.w)) 3000000000 (by decide) (t.drop k) fun b hb => by
    obtain ⟨a1, a2, a3, _⟩ := hd.1 b hb
    have := mul_range (a := b.g) (b := 2 * b.l + b.w) (A := 1000000) (B := 3000) a3 (by omega)
    omega
  have := hd.2
  unfold mo
  omega
theorem ctr_sm {t : List Blk} (h : BT t) {k : Nat} (hk : k < t.length) : Sm 40 (ctr t k) := by
  have := wt_bound h k
  have := wt_pos h hk
  exact Sm.mkRat (by omega) (mo_bound h k) (by omega)
theorem ctc_bound {t : List Blk} (h : BT t) (k : Nat) : (-2000 ≤ (ctc t k).1 ∧ (ctc t k).1 ≤ 2000) ∧ (-2000 ≤ (ctc t k).2 ∧ (ctc t k).2 ≤ 2000) := by
  unfold ctc
  split
  · rename_i b hb _
    have := h.1 b (List.mem_of_getElem? hb)
    unfold BOk at this
    simp only; omega
  · rename_i b c hb hc
    have h1 := h.1 b (List.mem_of_getElem? hb)
    have h2 := h.1 c (by split at hc; · cases hc
                         · exact List.mem_of_getElem? hc)
    unfold BOk at h1 h2
    simp only
    omega
  · simp
theorem int_sm {a : Int} {k : Nat} (h : -(2 ^ k : Nat) < a ∧ a < (2 ^ k : Nat)) (hk : k ≠ 0) : Sm k (a : Rat) := Sm.int (by omega) hk
theorem ctc_sm {t : List Blk} (h : BT t) (k : Nat) : Sm 12 ((ctc t k).1 : Rat) ∧ Sm 12 ((ctc t k).2 : Rat) := by
  have := ctc_bound h k
  exact ⟨int_sm (by omega) (by decide), int_sm (by omega) (by decide)⟩
theorem wt_sm {t : List Blk} (h : BT t) (k : Nat) : Sm 24 (wt t k : Rat) := by
  have := wt_bound h k
  exact int_sm (by omega) (by decide)
/-- the forces at a contact -/
def prs (t : List Blk) (k : Nat) : Rat × Rat :=
  if (ctc t k).1 = (ctc t k).2 then ((wt t k : Rat), 0) else
    let r := (wt t k : Rat) * (ctr t k - ((ctc t k).1 : Rat)) / (((ctc t k).2 - (ctc t k).1 : Int) : Rat)
    ((wt t k : Rat) - r, r)
def enc2 (p : Rat × Rat) : D := .tuple [encR p.1, encR p.2]
/-- a valid tower -/
structure TV (t : List Blk) : Prop where
  bt : BT t
  ne : t ≠ []
  nd : (t.map (·.nm)).Nodup
  ct : ∀ k, k < t.length → (ctc t k).1 ≤ (ctc t k).2
theorem encT_len (t : List Blk) : (t.map encB).length = t.length := List.length_map ..
theorem encB_shaped {b : Blk} (h : BOk b) : (encB b).canLay0 = true ∧ (encB b).depth ≤ 1 := by
  constructor
  · show (PyData.strOk b.nm && (true && (true && (true && true)))) = true
    rw [h.2.2.2]; rfl
  · exact Nat.le_refl _
theorem encT_shaped {t : List Blk} (h : BT t) : SeqAt.shaped (encT t) = true := by
  have : ∀ l : List Blk, (∀ b ∈ l, BOk b) → PyData.canLayAll0 (l.map encB) = true ∧ PyData.depthAll (l.map encB) ≤ 1 := by
    intro l
    induction l with
    | nil => intro _; exact ⟨rfl, Nat.zero_le _⟩
    | cons b l ih =>
      intro h
      have h1 := encB_shaped (h b (List.mem_cons_self ..))
      have h2 := ih fun x hx => h x (List.mem_cons_of_mem _ hx)
      constructor
      · show ((encB b).canLay0 && PyData.canLayAll0 (l.map encB)) = true
        rw [h1.1, h2.1]; rfl
      · show max (encB b).depth (PyData.depthAll (l.map encB)) ≤ 1
        have := h1.2; have := h2.2; omega
  obtain ⟨a, b⟩ := this t h.1
  show (PyData.canLayAll0 (t.map encB) && decide (PyData.depthAll (t.map encB) + 1 ≤ 64)) = true
  rw [a, decide_eq_true (by omega)]; rfl
/-! what is told of a tower -/
def isFr (d : D) : Option Rat := match d with
  | .tuple [.int a, .int b] => if 1 ≤ b ∧ Int.gcd a b = 1 then some (mkRat a b.toNat) else none
  | _ => none
theorem mkRat_red {a b : Int} (h : 1 ≤ b ∧ Int.gcd a b = 1) : encR (mkRat a b.toNat) = .tuple [.int a, .int b] := by
  obtain ⟨n, rfl⟩ := Int.eq_ofNat_of_zero_le (show 0 ≤ b by omega)
  obtain ⟨e1, e2⟩ := fr_pos a n (by omega)
  rw [h.2] at e1 e2
  unfold encR
  rw [Int.toNat_natCast, ← e1, ← e2]
  simp
theorem isFr_some {d : D} {r : Rat} (h : isFr d = some r) : d = encR r := by
  unfold isFr at h
  split at h
  · rename_i a b
    split at h
    · rename_i c
      cases h
      rw [mkRat_red c]
    · cases h
  · cases h
theorem isFr_R (r : Rat) : isFr (encR r) = some r := by
  have hd := r.den_pos
  have hr : Int.gcd r.num r.den = 1 := r.reduced
  show (if 1 ≤ (r.den : Int) ∧ Int.gcd r.num r.den = 1 then some (mkRat r.num (r.den : Int).toNat) else none) = some r
  rw [if_pos ⟨by omega, hr⟩, Int.toNat_natCast, Rat.mkRat_self]
def asPair (d : D) : Option (Rat × Rat) := match d with
  | .tuple [x, y] => (isFr x).bind fun p => (isFr y).map fun q => (p, q)
  | _ => none
theorem asPair_some {d : D} {p : Rat × Rat} (h : asPair d = some p) : d = enc2 p := by
  unfold asPair at h
  split at h
  · rename_i x y
    cases hx : isFr x with
    | none => rw [hx] at h; cases h
    | some a =>
      cases hy : isFr y with
      | none => rw [hx, hy] at h; cases h
      | some b =>
        rw [hx, hy] at h
        cases h
        rw [isFr_some hx, isFr_some hy]; rfl
  · cases h
theorem asPair_2 (p : Rat × Rat) : asPair (enc2 p) = some p := by
  show (isFr (encR p.1)).bind _ = _
  rw [isFr_R]
  show (isFr (encR p.2)).map _ = _
  rw [isFr_R]; rfl
theorem small_cons {x : D} {xs : List D} (h : smallAll (x :: xs) = true) : smallIs x = true ∧ smallAll xs = true := by
  have h' : (smallIs x && smallAll xs) = true := h
  rwa [Bool.and_eq_true] at h'
theorem small_mem : ∀ {xs : List D}, smallAll xs = true → ∀ x ∈ xs, smallIs x = true
  | [], _, x, h => by cases h
  | y :: ys, hs, x, h => by
    obtain ⟨a, b⟩ := small_cons hs
    rcases List.mem_cons.mp h with rfl | h
    · exact a
    · exact small_mem b x h
theorem small_int {i : Int} (h : smallIs (.int i) = true) : i.natAbs < 2 ^ 1000 := by
  have h1 : i.natAbs.log2 < 1000 := of_decide_eq_true h
  by_cases h0 : i.natAbs = 0
  · rw [h0]; exact Nat.two_pow_pos _
  · exact (Nat.log2_lt h0).mp h1
theorem small_R {r : Rat} (h : smallIs (encR r) = true) : Sm 1000 r := by
  obtain ⟨a, b⟩ := small_cons (show smallAll [.int r.num, .int r.den] = true from h)
  refine ⟨small_int a, ?_⟩
  have := small_int (small_cons b).1
  rwa [Int.natAbs_natCast] at this
def Sm2 (k : Nat) (p : Rat × Rat) : Prop := Sm k p.1 ∧ Sm k p.2
theorem small_2 {p : Rat × Rat} (h : smallIs (enc2 p) = true) : Sm2 1000 p := by
  obtain ⟨a, b⟩ := small_cons (show smallAll [encR p.1, encR p.2] = true from h)
  exact ⟨small_R a, small_R (small_cons b).1⟩
/-- what is wrong with the forces at a contact -/
def badAt (t : List Blk) (k : Nat) (p : Rat × Rat) : Option Str :=
  if p.1 < 0 ∨ p.2 < 0 then some "pull" else
  if p.1 + p.2 ≠ (wt t k : Rat) then some "weight" else
  if ((ctc t k).1 : Rat) * p.1 + ((ctc t k).2 : Rat) * p.2 ≠ ctr t k * (wt t k : Rat) then some "moment" else none
def firstBad (t : List Blk) (ps : List (Rat × Rat)) : Option Str := ps.zipIdx.findSome? fun x => badAt t x.2 x.1
def frPairs : List D → Option (List (Rat × Rat))
  | [] => some []
  | d :: ds => (asPair d).bind fun p => (frPairs ds).map fun ps => p :: ps
def frs (t : List Blk) (f : D) : Option Str := match f with
  | .tuple fs => if fs.length ≠ t.length then some "form" else match frPairs fs with
    | none => some "form"
    | some ps => firstBad t ps
  | _ => some "form"
def isS (d : D) (s : Str) : Bool := match d with
  | .str u => decide (u = s)
  | _ => false
def rsn (t : List Blk) (d : D) : Option Str := match d with
  | .tuple [a, f] => if isS a "stands" then frs t f else some "form"
  | .tuple [a, k, s] => if isS a "tips" then (match k, s with
    | .int k, .str s => if 0 ≤ k ∧ k < t.length then (if isS (sideD t k.toNat) s then none else some "side") else some "form"
    | _, _ => some "form") else some "form"
  | _ => some "form"
theorem frPairs_some : ∀ {fs : List D} {ps : List (Rat × Rat)}, frPairs fs = some ps → fs = ps.map enc2
  | [], ps, h => by cases h; rfl
  | d :: ds, ps, h => by
    unfold frPairs at h
    cases hd : asPair d with
    | none => rw [hd] at h; cases h
    | some p =>
      cases hs : frPairs ds with
      | none => rw [hd, hs] at h; cases h
      | some qs =>
        rw [hd, hs] at h
        cases h
        rw [asPair_some hd, frPairs_some hs]; rfl
theorem frPairs_all : ∀ (fs : List D), (fs.all fun d => (asPair d).isSome) = (frPairs fs).isSome
  | [] => rfl
  | d :: ds => by
    have e : frPairs (d :: ds) = (asPair d).bind fun p => (frPairs ds).map fun ps => p :: ps := rfl
    rw [List.all_cons, frPairs_all ds, e]
    cases asPair d with
    | none => rfl
    | some p => cases frPairs ds <;> rfl
theorem frPairs_map : ∀ (ps : List (Rat × Rat)), frPairs (ps.map enc2) = some ps
  | [] => rfl
  | p :: ps => by
    show (asPair (enc2 p)).bind _ = _
    rw [asPair_2]
    show (frPairs (ps.map enc2)).map _ = _
    rw [frPairs_map ps]; rfl
theorem side_cases (t : List Blk) (k : Nat) : sideD t k = .str "left" ∨ sideD t k = .str "right" ∨ sideD t k = .none := by
  unfold sideD
  split
  · exact .inl rfl
  · split
    · exact .inr (.inl rfl)
    · exact .inr (.inr rfl)
end SF

namespace LT
open PySem PySem.Spec PyProof.Rows SF
def top (i : Nat) : Stmt := PySem.Challenge.pw_standsfirm_k56_whole_towers.main.body.getD i (.Pass ⟨0, 0, 0, 0⟩)
def src (nm : Str) (i : Nat) (N : List Str) (io : List Nat) : SF.SrcF := ⟨nm, L2.defArgs (top i), L2.defBody (top i), L2.defScope (top i), N, io⟩
def sub (c h : Nat) : Bool := match c, h with
  | 0, 0 => true
  | 1, 0 => true
  | 1, 1 => true
  | 2, 0 => true
  | 2, 2 => true
  | _, _ => false
def con : List (Str × D) := [("MAX_PLACE", .int 1000), ("MAX_COST", .int 1000000), ("MAX_BLOCKS", .int 12), ("ZERO", .tuple [.int 0, .int 1])]
def s_is_integer : SF.SrcF := src "is_integer" 4 ["value"] []
def s_in_range : SF.SrcF := src "in_range" 5 ["value", "least", "most"] []
def s_same_value : SF.SrcF := src "same_value" 6 ["first", "second", "one", "other"] []
def s_divisor : SF.SrcF := src "divisor" 14 ["first", "second"] []
def s_fraction_of : SF.SrcF := src "fraction_of" 15 ["over", "under", "common"] []
def s_whole : SF.SrcF := src "whole" 16 ["number"] []
def s_add : SF.SrcF := src "add" 17 ["first", "second"] []
def s_negative : SF.SrcF := src "negative" 18 ["one"] []
def s_subtract : SF.SrcF := src "subtract" 19 ["first", "second"] []
def s_multiply : SF.SrcF := src "multiply" 20 ["first", "second"] []
def s_divide : SF.SrcF := src "divide" 21 ["first", "second"] []
def s_is_less : SF.SrcF := src "is_less" 22 ["first", "second"] []
def s_is_fraction : SF.SrcF := src "is_fraction" 23 ["value"] []
def s_are_fractions : SF.SrcF := src "are_fractions" 25 ["value", "count", "part"] []
def s_are_blocks : SF.SrcF := src "are_blocks" 27 ["value", "ranges", "row", "part", "least", "most"] []
def s_contact : SF.SrcF := src "contact" 28 ["tower", "number", "below", "left", "right"] []
def s_demand_tower : SF.SrcF := src "demand_tower" 29 ["tower", "number", "low", "high"] []
def s_weight_from : SF.SrcF := src "weight_from" 30 ["tower", "number", "block"] []
def s_moment_from : SF.SrcF := src "moment_from" 31 ["tower", "number", "block"] []
def s_centre_from : SF.SrcF := src "centre_from" 32 ["tower", "number"] []
def s_side_of : SF.SrcF := src "side_of" 33 ["tower", "number", "centre", "low", "high"] []
def s_centres : SF.SrcF := src "centres" 34 ["tower", "number"] []
def s_pressure : SF.SrcF := src "pressure" 35 ["tower", "number", "weight", "right", "low", "high"] []
def s_stands : SF.SrcF := src "stands" 36 ["tower", "number", "side"] []
def s_accept_stands : SF.SrcF := src "accept_stands" 37 ["tower", "told", "number", "pair", "weight", "turning", "low", "high"] []
def s_raised : SF.SrcF := src "raised" 38 ["tower", "count", "number"] []
def s_room : SF.SrcF := src "room" 39 ["tower", "number", "centre", "block", "below", "low", "high", "other", "share", "ends", "least", "most"] []
def s__law_draws : SF.SrcF := src "_law_draws" 41 ["script", "draws", "cell", "rest", "k", "mixed"] []
def s__law_more : SF.SrcF := src "_law_more" 42 ["draws", "place", "mixed", "k"] []
def s__law_take : SF.SrcF := src "_law_take" 43 ["draws", "at", "many", "place"] [1]
def s__law_one : SF.SrcF := src "_law_one" 44 ["rows", "draws", "at"] [2]
def s__law_tower : SF.SrcF := src "_law_tower" 45 ["most", "draws", "at", "far", "names", "rows", "k", "left", "width", "wide", "near", "low", "high"] [2]
def s__law_contact : SF.SrcF := src "_law_contact" 46 ["tower", "k", "below", "name", "left", "width", "weight"] []
def s__law_centre : SF.SrcF := src "_law_centre" 47 ["tower", "k", "total", "row"] []
def s__law_side : SF.SrcF := src "_law_side" 48 ["tower", "k", "centre", "low", "high"] []
def s__law_least_terms : SF.SrcF := src "_law_least_terms" 49 ["over", "under", "first", "second"] []
def s__law_plus : SF.SrcF := src "_law_plus" 50 ["one", "other"] []
def s__law_times : SF.SrcF := src "_law_times" 51 ["one", "other"] []
def s__law_below : SF.SrcF := src "_law_below" 52 ["one", "other"] []
def s__law_same_as : SF.SrcF := src "_law_same_as" 53 ["actual", "due"] []
def s__law_is_fraction : SF.SrcF := src "_law_is_fraction" 54 ["value", "part"] []
def s__law_forces_reason : SF.SrcF := src "_law_forces_reason" 55 ["tower", "forces", "pair", "k", "total", "one", "other", "low", "high", "row"] []
def s__law_reason : SF.SrcF := src "_law_reason" 56 ["tower", "told"] []
def s__law_told : SF.SrcF := src "_law_told" 57 ["which", "tower", "told", "e"] []
def s__law_bent : SF.SrcF := src "_law_bent" 58 ["tower", "told", "draws", "at", "k", "more", "less", "pairs", "rows", "one", "other"] [3]
def s_law : SF.SrcF := src "law" 59 ["script", "draws", "at", "tower", "falls", "told", "sides", "turn", "row", "bad", "far", "wrong", "other", "reason", "many", "k", "which"] []
def srcs : List SF.SrcF := [s_is_integer, s_in_range, s_same_value, s_divisor, s_fraction_of, s_whole, s_add, s_negative, s_subtract, s_multiply, s_divide, s_is_less, s_is_fraction, s_are_fractions, s_are_blocks, s_contact, s_demand_tower, s_weight_from, s_moment_from, s_centre_from, s_side_of, s_centres, s_pressure, s_stands, s_accept_stands, s_raised, s_room, s__law_draws, s__law_more, s__law_take, s__law_one, s__law_tower, s__law_contact, s__law_centre, s__law_side, s__law_least_terms, s__law_plus, s__law_times, s__law_below, s__law_same_as, s__law_is_fraction, s__law_forces_reason, s__law_reason, s__law_told, s__law_bent, s_law]
def L : SF.LawD := ⟨srcs, con, ["ReasonError", "ArgumentError", "PaperError"], ["reason", "reason", "reason"], sub, 100⟩
def cs : List SF.ClsD := [⟨"ReasonError", "ReasonError", "reason", "ReasonError.__init__", ⟨22, 17, 22, 21⟩, ⟨22, 23, 22, 29⟩, ⟨⟨23, 8, 23, 13⟩, ⟨23, 8, 23, 15⟩, ⟨23, 8, 23, 24⟩, ⟨23, 25, 23, 31⟩, ⟨23, 8, 23, 32⟩, ⟨23, 8, 23, 32⟩, ⟨24, 8, 24, 12⟩, ⟨24, 8, 24, 19⟩, ⟨24, 22, 24, 28⟩, ⟨24, 8, 24, 28⟩, ⟨0, 0, 0, 0⟩⟩⟩,
  ⟨"ArgumentError", "ReasonError", "reason", "ReasonError.__init__", ⟨22, 17, 22, 21⟩, ⟨22, 23, 22, 29⟩, ⟨⟨23, 8, 23, 13⟩, ⟨23, 8, 23, 15⟩, ⟨23, 8, 23, 24⟩, ⟨23, 25, 23, 31⟩, ⟨23, 8, 23, 32⟩, ⟨23, 8, 23, 32⟩, ⟨24, 8, 24, 12⟩, ⟨24, 8, 24, 19⟩, ⟨24, 22, 24, 28⟩, ⟨24, 8, 24, 28⟩, ⟨0, 0, 0, 0⟩⟩⟩,
  ⟨"PaperError", "ReasonError", "reason", "ReasonError.__init__", ⟨22, 17, 22, 21⟩, ⟨22, 23, 22, 29⟩, ⟨⟨23, 8, 23, 13⟩, ⟨23, 8, 23, 15⟩, ⟨23, 8, 23, 24⟩, ⟨23, 25, 23, 31⟩, ⟨23, 8, 23, 32⟩, ⟨23, 8, 23, 32⟩, ⟨24, 8, 24, 12⟩, ⟨24, 8, 24, 19⟩, ⟨24, 22, 24, 28⟩, ⟨24, 8, 24, 28⟩, ⟨0, 0, 0, 0⟩⟩⟩]
abbrev ROW : PySem.W.OpenRow := PySem.W.OpenLaw.row PySem.Challenge.rw_standsfirm_k56_whole_towers
abbrev file : Str := PySem.Challenge.pw_standsfirm_k56_whole_towers.main.file
abbrev hk : PySem.W.Hook := SF.hookZ 4 L cs file
def ob (s : PySem.W.SharedT) : SF.AlZ := SF.obsZ 4 L cs file (HandSHeadRun.getT s)
theorem ob_eq (s : PySem.W.SharedT) : ob s = hk.obs s.abs := SF.obsZ_eq (HandSHeadRun.getT_eq s)
def loose : List Str := (["MAX_PLACE", "MAX_COST", "MAX_BLOCKS", "is_integer", "in_range", "same_value", "FrameError", "ReasonError", "ArgumentError", "PaperError", "ZERO", "divisor", "fraction_of", "whole", "add", "negative", "subtract", "multiply", "divide", "is_less", "is_fraction", "are_fractions", "are_blocks", "contact", "demand_tower", "weight_from", "moment_from", "centre_from", "side_of", "centres", "pressure", "stands", "accept_stands", "raised", "room", "_law_draws", "_law_more", "_law_take", "_law_one", "_law_tower", "_law_contact", "_law_centre", "_law_side", "_law_least_terms", "_law_plus", "_law_times", "_law_below", "_law_same_as", "_law_is_fraction", "_law_forces_reason", "_law_reason", "_law_told", "_law_bent"] : List String).map Str.ofString
theorem head_run (w : World) : HandSHeadRun.RunEq ROW (PySem.W.view ROW.prog [59]) hk ob 8000 loose w := by
  intro os
  kernel_rfl
theorem binds : ∀ s ∈ L.srcs, ∀ (kV doc pm : Value) (an : Option Addr) (cdv ct : Value) (us : List Value), us.length = (SF.argNames s.args).length → bindArgs (PySem.W.fnOf s.name s.name s.args s.body s.sc .none kV doc pm an cdv ct) ⟨us, []⟩ = pure ((SF.argNames s.args).zip us) := by
  show ∀ s ∈ srcs, _
  unfold srcs
  simp only [List.forall_mem_cons]
  exact ⟨(fun _ _ _ _ _ _ us hl => match us, hl with | [_], _ => rfl),
    (fun _ _ _ _ _ _ us hl => match us, hl with | [_, _, _], _ => rfl),
    (fun _ _ _ _ _ _ us hl => match us, hl with | [_, _], _ => rfl),
    (fun _ _ _ _ _ _ us hl => match us, hl with | [_, _], _ => rfl),
    (fun _ _ _ _ _ _ us hl => match us, hl with | [_, _], _ => rfl),
    (fun _ _ _ _ _ _ us hl => match us, hl with | [_], _ => rfl),
    (fun _ _ _ _ _ _ us hl => match us, hl with | [_, _], _ => rfl),
    (fun _ _ _ _ _ _ us hl => match us, hl with | [_], _ => rfl),
    (fun _ _ _ _ _ _ us hl => match us, hl with | [_, _], _ => rfl),
    (fun _ _ _ _ _ _ us hl => match us, hl with | [_, _], _ => rfl),
    (fun _ _ _ _ _ _ us hl => match us, hl with | [_, _], _ => rfl),
    (fun _ _ _ _ _ _ us hl => match us, hl with | [_, _], _ => rfl),
    (fun _ _ _ _ _ _ us hl => match us, hl with | [_], _ => rfl),
    (fun _ _ _ _ _ _ us hl => match us, hl with | [_, _], _ => rfl),
    (fun _ _ _ _ _ _ us hl => match us, hl with | [_, _], _ => rfl),
    (fun _ _ _ _ _ _ us hl => match us, hl with | [_, _], _ => rfl),
    (fun _ _ _ _ _ _ us hl => match us, hl with | [_], _ => rfl),
    (fun _ _ _ _ _ _ us hl => match us, hl with | [_, _], _ => rfl),
    (fun _ _ _ _ _ _ us hl => match us, hl with | [_, _], _ => rfl),
    (fun _ _ _ _ _ _ us hl => match us, hl with | [_, _], _ => rfl),
    (fun _ _ _ _ _ _ us hl => match us, hl with | [_, _], _ => rfl),
    (fun _ _ _ _ _ _ us hl => match us, hl with | [_], _ => rfl),
    (fun _ _ _ _ _ _ us hl => match us, hl with | [_, _], _ => rfl),
    (fun _ _ _ _ _ _ us hl => match us, hl with | [_], _ => rfl),
    (fun _ _ _ _ _ _ us hl => match us, hl with | [_, _], _ => rfl),
    (fun _ _ _ _ _ _ us hl => match us, hl with | [_], _ => rfl),
    (fun _ _ _ _ _ _ us hl => match us, hl with | [_, _], _ => rfl),
    (fun _ _ _ _ _ _ us hl => match us, hl with | [_], _ => rfl),
    (fun _ _ _ _ _ _ us hl => match us, hl with | [_, _], _ => rfl),
    (fun _ _ _ _ _ _ us hl => match us, hl with | [_, _, _], _ => rfl),
    (fun _ _ _ _ _ _ us hl => match us, hl with | [_, _, _], _ => rfl),
    (fun _ _ _ _ _ _ us hl => match us, hl with | [_, _, _], _ => rfl),
    (fun _ _ _ _ _ _ us hl => match us, hl with | [_, _], _ => rfl),
    (fun _ _ _ _ _ _ us hl => match us, hl with | [_, _], _ => rfl),
    (fun _ _ _ _ _ _ us hl => match us, hl with | [_, _], _ => rfl),
    (fun _ _ _ _ _ _ us hl => match us, hl with | [_, _], _ => rfl),
    (fun _ _ _ _ _ _ us hl => match us, hl with | [_, _], _ => rfl),
    (fun _ _ _ _ _ _ us hl => match us, hl with | [_, _], _ => rfl),
    (fun _ _ _ _ _ _ us hl => match us, hl with | [_, _], _ => rfl),
    (fun _ _ _ _ _ _ us hl => match us, hl with | [_, _], _ => rfl),
    (fun _ _ _ _ _ _ us hl => match us, hl with | [_], _ => rfl),
    (fun _ _ _ _ _ _ us hl => match us, hl with | [_, _], _ => rfl),
    (fun _ _ _ _ _ _ us hl => match us, hl with | [_, _], _ => rfl),
    (fun _ _ _ _ _ _ us hl => match us, hl with | [_, _, _], _ => rfl),
    (fun _ _ _ _ _ _ us hl => match us, hl with | [_, _, _, _], _ => rfl),
    (fun _ _ _ _ _ _ us hl => match us, hl with | [_], _ => rfl),
    fun s h => nomatch h⟩
def B_is_integer : CSs := (CSs.cons (CS.ret (CE.and (CE.o1 (Op1.isi Ty.int) (CE.v 0)) (CE.not (CE.o1 (Op1.isi Ty.bool) (CE.v 0))))) CSs.nil)
def b_is_integer : Fn := ⟨1, 1, [], B_is_integer⟩
def B_in_range : CSs := (CSs.cons (CS.ret (CE.and (CE.call 0 (CEs.cons (CE.v 0) CEs.nil)) (CE.ch Op2.le Op2.le (CE.v 1) (CE.v 0) (CE.v 2)))) CSs.nil)
def b_in_range : Fn := ⟨3, 3, [], B_in_range⟩
def L_same_value_1 : CE := (CE.lc [2, 3] (Tg.t (Tgs.cons (Tg.n 2) (Tgs.cons (Tg.n 3) Tgs.nil))) (CI.zip2 (CE.v 0) (CE.v 1)) (CE.k (.bool true)) (CE.call 2 (CEs.cons (CE.v 2) (CEs.cons (CE.v 3) CEs.nil))))
theorem O_L_same_value_1 (T : List Fn) (call : Call) (nv : Nv) : evO T call L_same_value_1 nv = noV ((evB T call L_same_value_1).v nv) := id rfl
theorem F_L_same_value_1 (nv : Nv) (d : D) : fin L_same_value_1 nv d = .ok d := id rfl
theorem A_L_same_value_1 (T : List Fn) (call : Call) (nv : Nv) : (evB T call L_same_value_1).t nv = asT ((evB T call L_same_value_1).v nv) := id rfl
def B_same_value : CSs := (CSs.cons (CS.ite (CE.or (CE.o1 (Op1.isi Ty.tuple) (CE.v 0)) (CE.o1 (Op1.isi Ty.tuple) (CE.v 1))) (CSs.cons (CS.ite (CE.or (CE.not (CE.o1 (Op1.isi Ty.tuple) (CE.v 0))) (CE.or (CE.not (CE.o1 (Op1.isi Ty.tuple) (CE.v 1))) (CE.o2 Op2.ne (CE.o1 Op1.len (CE.v 0)) (CE.o1 Op1.len (CE.v 1))))) (CSs.cons (CS.ret (CE.k (.bool false))) CSs.nil) CSs.nil) (CSs.cons (CS.ret (CE.o1 Op1.all L_same_value_1)) CSs.nil)) CSs.nil) (CSs.cons (CS.ite (CE.or (CE.o2 Op2.ne (CE.o1 (Op1.isi Ty.bool) (CE.v 0)) (CE.o1 (Op1.isi Ty.bool) (CE.v 1))) (CE.o2 Op2.ne (CE.o1 (Op1.isi Ty.str) (CE.v 0)) (CE.o1 (Op1.isi Ty.str) (CE.v 1)))) (CSs.cons (CS.ret (CE.k (.bool false))) CSs.nil) CSs.nil) (CSs.cons (CS.ret (CE.o2 Op2.eq (CE.v 0) (CE.v 1))) CSs.nil)))
def b_same_value : Fn := ⟨4, 2, [], B_same_value⟩
def L_divisor_1 : CSs := (CSs.cons (CS.set (Tg.t (Tgs.cons (Tg.n 0) (Tgs.cons (Tg.n 1) Tgs.nil))) (CE.tup (CEs.cons (CE.v 1) (CEs.cons (CE.o2 Op2.mod (CE.v 0) (CE.v 1)) CEs.nil)))) CSs.nil)
def L_divisor_2 : CS := (CS.whl (CE.o2 Op2.gt (CE.v 1) (CE.k (.int 0))) L_divisor_1)
def B_divisor : CSs := (CSs.cons (CS.set (Tg.t (Tgs.cons (Tg.n 0) (Tgs.cons (Tg.n 1) Tgs.nil))) (CE.tup (CEs.cons (CE.o1 Op1.abs (CE.v 0)) (CEs.cons (CE.o1 Op1.abs (CE.v 1)) CEs.nil)))) (CSs.cons L_divisor_2 (CSs.cons (CS.mv 0) CSs.nil)))
def b_divisor : Fn := ⟨2, 2, [], B_divisor⟩
def B_fraction_of : CSs := (CSs.cons (CS.set (Tg.n 2) (CE.call 3 (CEs.cons (CE.v 0) (CEs.cons (CE.v 1) CEs.nil)))) (CSs.cons (CS.ite (CE.o2 Op2.lt (CE.v 1) (CE.k (.int 0))) (CSs.cons (CS.set (Tg.n 2) (CE.o1 Op1.neg (CE.v 2))) CSs.nil) CSs.nil) (CSs.cons (CS.ret (CE.tup (CEs.cons (CE.o2 Op2.fdiv (CE.v 0) (CE.v 2)) (CEs.cons (CE.o2 Op2.fdiv (CE.v 1) (CE.v 2)) CEs.nil)))) CSs.nil)))
def b_fraction_of : Fn := ⟨3, 2, [], B_fraction_of⟩
def B_whole : CSs := (CSs.cons (CS.ret (CE.tup (CEs.cons (CE.v 0) (CEs.cons (CE.k (.int 1)) CEs.nil)))) CSs.nil)
def b_whole : Fn := ⟨1, 1, [], B_whole⟩
def B_add : CSs := (CSs.cons (CS.ite (CE.ch Op2.eq Op2.eq (CE.o2 Op2.at (CE.v 0) (CE.k (.int 1))) (CE.o2 Op2.at (CE.v 1) (CE.k (.int 1))) (CE.k (.int 1))) (CSs.cons (CS.ret (CE.tup (CEs.cons (CE.o2 Op2.add (CE.o2 Op2.at (CE.v 0) (CE.k (.int 0))) (CE.o2 Op2.at (CE.v 1) (CE.k (.int 0)))) (CEs.cons (CE.k (.int 1)) CEs.nil)))) CSs.nil) CSs.nil) (CSs.cons (CS.ret (CE.call 4 (CEs.cons (CE.o2 Op2.add (CE.o2 Op2.mul (CE.o2 Op2.at (CE.v 0) (CE.k (.int 0))) (CE.o2 Op2.at (CE.v 1) (CE.k (.int 1)))) (CE.o2 Op2.mul (CE.o2 Op2.at (CE.v 1) (CE.k (.int 0))) (CE.o2 Op2.at (CE.v 0) (CE.k (.int 1))))) (CEs.cons (CE.o2 Op2.mul (CE.o2 Op2.at (CE.v 0) (CE.k (.int 1))) (CE.o2 Op2.at (CE.v 1) (CE.k (.int 1)))) CEs.nil)))) CSs.nil))
def b_add : Fn := ⟨2, 2, [], B_add⟩
def B_negative : CSs := (CSs.cons (CS.ret (CE.tup (CEs.cons (CE.o1 Op1.neg (CE.o2 Op2.at (CE.v 0) (CE.k (.int 0)))) (CEs.cons (CE.o2 Op2.at (CE.v 0) (CE.k (.int 1))) CEs.nil)))) CSs.nil)
def b_negative : Fn := ⟨1, 1, [], B_negative⟩
def B_subtract : CSs := (CSs.cons (CS.ret (CE.call 6 (CEs.cons (CE.v 0) (CEs.cons (CE.call 7 (CEs.cons (CE.v 1) CEs.nil)) CEs.nil)))) CSs.nil)
def b_subtract : Fn := ⟨2, 2, [], B_subtract⟩
def B_multiply : CSs := (CSs.cons (CS.ite (CE.ch Op2.eq Op2.eq (CE.o2 Op2.at (CE.v 0) (CE.k (.int 1))) (CE.o2 Op2.at (CE.v 1) (CE.k (.int 1))) (CE.k (.int 1))) (CSs.cons (CS.ret (CE.tup (CEs.cons (CE.o2 Op2.mul (CE.o2 Op2.at (CE.v 0) (CE.k (.int 0))) (CE.o2 Op2.at (CE.v 1) (CE.k (.int 0)))) (CEs.cons (CE.k (.int 1)) CEs.nil)))) CSs.nil) CSs.nil) (CSs.cons (CS.ret (CE.call 4 (CEs.cons (CE.o2 Op2.mul (CE.o2 Op2.at (CE.v 0) (CE.k (.int 0))) (CE.o2 Op2.at (CE.v 1) (CE.k (.int 0)))) (CEs.cons (CE.o2 Op2.mul (CE.o2 Op2.at (CE.v 0) (CE.k (.int 1))) (CE.o2 Op2.at (CE.v 1) (CE.k (.int 1)))) CEs.nil)))) CSs.nil))
def b_multiply : Fn := ⟨2, 2, [], B_multiply⟩
def B_divide : CSs := (CSs.cons (CS.ret (CE.call 4 (CEs.cons (CE.o2 Op2.mul (CE.o2 Op2.at (CE.v 0) (CE.k (.int 0))) (CE.o2 Op2.at (CE.v 1) (CE.k (.int 1)))) (CEs.cons (CE.o2 Op2.mul (CE.o2 Op2.at (CE.v 0) (CE.k (.int 1))) (CE.o2 Op2.at (CE.v 1) (CE.k (.int 0)))) CEs.nil)))) CSs.nil)
def b_divide : Fn := ⟨2, 2, [], B_divide⟩
def B_is_less : CSs := (CSs.cons (CS.ret (CE.o2 Op2.lt (CE.o2 Op2.mul (CE.o2 Op2.at (CE.v 0) (CE.k (.int 0))) (CE.o2 Op2.at (CE.v 1) (CE.k (.int 1)))) (CE.o2 Op2.mul (CE.o2 Op2.at (CE.v 1) (CE.k (.int 0))) (CE.o2 Op2.at (CE.v 0) (CE.k (.int 1)))))) CSs.nil)
def b_is_less : Fn := ⟨2, 2, [], B_is_less⟩
def B_is_fraction : CSs := (CSs.cons (CS.ite (CE.or (CE.not (CE.o1 (Op1.isi Ty.tuple) (CE.v 0))) (CE.or (CE.o2 Op2.ne (CE.o1 Op1.len (CE.v 0)) (CE.k (.int 2))) (CE.or (CE.not (CE.call 0 (CEs.cons (CE.o2 Op2.at (CE.v 0) (CE.k (.int 0))) CEs.nil))) (CE.not (CE.call 0 (CEs.cons (CE.o2 Op2.at (CE.v 0) (CE.k (.int 1))) CEs.nil)))))) (CSs.cons (CS.ret (CE.k (.bool false))) CSs.nil) CSs.nil) (CSs.cons (CS.ret (CE.and (CE.o2 Op2.ge (CE.o2 Op2.at (CE.v 0) (CE.k (.int 1))) (CE.k (.int 1))) (CE.o2 Op2.eq (CE.call 3 (CEs.cons (CE.o2 Op2.at (CE.v 0) (CE.k (.int 0))) (CEs.cons (CE.o2 Op2.at (CE.v 0) (CE.k (.int 1))) CEs.nil))) (CE.k (.int 1))))) CSs.nil))
def b_is_fraction : Fn := ⟨1, 1, [], B_is_fraction⟩
def L_are_fractions_1 : CE := (CE.lc [2] (Tg.n 2) (CI.seq (CE.v 0)) (CE.k (.bool true)) (CE.call 12 (CEs.cons (CE.v 2) CEs.nil)))
theorem O_L_are_fractions_1 (T : List Fn) (call : Call) (nv : Nv) : evO T call L_are_fractions_1 nv = noV ((evB T call L_are_fractions_1).v nv) := id rfl
theorem F_L_are_fractions_1 (nv : Nv) (d : D) : fin L_are_fractions_1 nv d = .ok d := id rfl
theorem A_L_are_fractions_1 (T : List Fn) (call : Call) (nv : Nv) : (evB T call L_are_fractions_1).t nv = asT ((evB T call L_are_fractions_1).v nv) := id rfl
def B_are_fractions : CSs := (CSs.cons (CS.ret (CE.and (CE.o1 (Op1.isi Ty.tuple) (CE.v 0)) (CE.and (CE.o2 Op2.eq (CE.o1 Op1.len (CE.v 0)) (CE.v 1)) (CE.o1 Op1.all L_are_fractions_1)))) CSs.nil)
def b_are_fractions : Fn := ⟨3, 2, [], B_are_fractions⟩
def L_are_blocks_1 : CE := (CE.lc [3, 4, 5] (Tg.t (Tgs.cons (Tg.n 3) (Tgs.cons (Tg.t (Tgs.cons (Tg.n 4) (Tgs.cons (Tg.n 5) Tgs.nil))) Tgs.nil))) (CI.zip2 (CE.sl (CE.v 2) (CO.so (CE.k (.int 1))) CO.no) (CE.v 1)) (CE.k (.bool true)) (CE.call 1 (CEs.cons (CE.v 3) (CEs.cons (CE.v 4) (CEs.cons (CE.v 5) CEs.nil)))))
theorem O_L_are_blocks_1 (T : List Fn) (call : Call) (nv : Nv) : evO T call L_are_blocks_1 nv = noV ((evB T call L_are_blocks_1).v nv) := id rfl
theorem F_L_are_blocks_1 (nv : Nv) (d : D) : fin L_are_blocks_1 nv d = .ok d := id rfl
theorem A_L_are_blocks_1 (T : List Fn) (call : Call) (nv : Nv) : (evB T call L_are_blocks_1).t nv = asT ((evB T call L_are_blocks_1).v nv) := id rfl
def L_are_blocks_2 : CSs := (CSs.cons (CS.ite (CE.or (CE.not (CE.o1 (Op1.isi Ty.tuple) (CE.v 2))) (CE.or (CE.o2 Op2.ne (CE.o1 Op1.len (CE.v 2)) (CE.o2 Op2.add (CE.k (.int 1)) (CE.o1 Op1.len (CE.v 1)))) (CE.not (CE.o1 (Op1.isi Ty.str) (CE.o2 Op2.at (CE.v 2) (CE.k (.int 0))))))) (CSs.cons (CS.ret (CE.k (.bool false))) CSs.nil) CSs.nil) (CSs.cons (CS.ite (CE.not (CE.o1 Op1.all L_are_blocks_1)) (CSs.cons (CS.ret (CE.k (.bool false))) CSs.nil) CSs.nil) CSs.nil))
def L_are_blocks_3 : CS := (CS.for (Tg.n 2) (CI.seq (CE.v 0)) L_are_blocks_2)
def L_are_blocks_4 : CE := (CE.dc [2] (Tg.n 2) (CI.seq (CE.v 0)) (CE.k (.bool true)) (CE.o2 Op2.at (CE.v 2) (CE.k (.int 0))) (CE.k (.bool true)))
theorem O_L_are_blocks_4 (T : List Fn) (call : Call) (nv : Nv) : evO T call L_are_blocks_4 nv = noV ((evB T call L_are_blocks_4).v nv) := id rfl
theorem F_L_are_blocks_4 (nv : Nv) (d : D) : fin L_are_blocks_4 nv d = .ok d := id rfl
theorem A_L_are_blocks_4 (T : List Fn) (call : Call) (nv : Nv) : (evB T call L_are_blocks_4).t nv = asT ((evB T call L_are_blocks_4).v nv) := id rfl
def B_are_blocks : CSs := (CSs.cons (CS.ite (CE.or (CE.not (CE.o1 (Op1.isi Ty.tuple) (CE.v 0))) (CE.o2 Op2.gt (CE.o1 Op1.len (CE.v 0)) (CE.g "MAX_BLOCKS" (.int 12)))) (CSs.cons (CS.ret (CE.k (.bool false))) CSs.nil) CSs.nil) (CSs.cons L_are_blocks_3 (CSs.cons (CS.ret (CE.o2 Op2.eq (CE.o1 Op1.len L_are_blocks_4) (CE.o1 Op1.len (CE.v 0)))) CSs.nil)))
def b_are_blocks : Fn := ⟨6, 2, [], B_are_blocks⟩
def B_contact : CSs := (CSs.cons (CS.set (Tg.t (Tgs.cons (Tg.n 3) (Tgs.cons (Tg.n 4) Tgs.nil))) (CE.tup (CEs.cons (CE.o2 Op2.at (CE.o2 Op2.at (CE.v 0) (CE.v 1)) (CE.k (.int 1))) (CEs.cons (CE.o2 Op2.add (CE.o2 Op2.at (CE.o2 Op2.at (CE.v 0) (CE.v 1)) (CE.k (.int 1))) (CE.o2 Op2.at (CE.o2 Op2.at (CE.v 0) (CE.v 1)) (CE.k (.int 2)))) CEs.nil)))) (CSs.cons (CS.ite (CE.o2 Op2.eq (CE.v 1) (CE.k (.int 0))) (CSs.cons (CS.ret (CE.tup (CEs.cons (CE.v 3) (CEs.cons (CE.v 4) CEs.nil)))) CSs.nil) CSs.nil) (CSs.cons (CS.set (Tg.n 2) (CE.o2 Op2.at (CE.v 0) (CE.o2 Op2.sub (CE.v 1) (CE.k (.int 1))))) (CSs.cons (CS.ret (CE.tup (CEs.cons (CE.o2 Op2.max (CE.v 3) (CE.o2 Op2.at (CE.v 2) (CE.k (.int 1)))) (CEs.cons (CE.o2 Op2.min (CE.v 4) (CE.o2 Op2.add (CE.o2 Op2.at (CE.v 2) (CE.k (.int 1))) (CE.o2 Op2.at (CE.v 2) (CE.k (.int 2))))) CEs.nil)))) CSs.nil))))
def b_contact : Fn := ⟨5, 2, [], B_contact⟩
def L_demand_tower_1 : CSs := (CSs.cons (CS.set (Tg.t (Tgs.cons (Tg.n 2) (Tgs.cons (Tg.n 3) Tgs.nil))) (CE.call 15 (CEs.cons (CE.v 0) (CEs.cons (CE.v 1) CEs.nil)))) (CSs.cons (CS.ite (CE.o2 Op2.gt (CE.v 2) (CE.v 3)) (CSs.cons (CS.raise 1 (CEs.cons (CE.k (.str "tower")) CEs.nil)) CSs.nil) CSs.nil) CSs.nil))
def L_demand_tower_2 : CS := (CS.for (Tg.n 1) (CI.rng (CEs.cons (CE.o1 Op1.len (CE.v 0)) CEs.nil)) L_demand_tower_1)
def B_demand_tower : CSs := (CSs.cons (CS.ite (CE.or (CE.not (CE.call 14 (CEs.cons (CE.v 0) (CEs.cons (CE.tup (CEs.cons (CE.tup (CEs.cons (CE.o1 Op1.neg (CE.g "MAX_PLACE" (.int 1000))) (CEs.cons (CE.g "MAX_PLACE" (.int 1000)) CEs.nil))) (CEs.cons (CE.tup (CEs.cons (CE.k (.int 1)) (CEs.cons (CE.g "MAX_PLACE" (.int 1000)) CEs.nil))) (CEs.cons (CE.tup (CEs.cons (CE.k (.int 1)) (CEs.cons (CE.g "MAX_COST" (.int 1000000)) CEs.nil))) CEs.nil)))) CEs.nil)))) (CE.o2 Op2.eq (CE.v 0) (CE.tup CEs.nil))) (CSs.cons (CS.raise 1 (CEs.cons (CE.k (.str "tower")) CEs.nil)) CSs.nil) CSs.nil) (CSs.cons L_demand_tower_2 CSs.nil))
def b_demand_tower : Fn := ⟨4, 1, [], B_demand_tower⟩
def L_weight_from_1 : CE := (CE.lc [2] (Tg.n 2) (CI.seq (CE.sl (CE.v 0) (CO.so (CE.v 1)) CO.no)) (CE.k (.bool true)) (CE.o2 Op2.at (CE.v 2) (CE.k (.int 3))))
theorem O_L_weight_from_1 (T : List Fn) (call : Call) (nv : Nv) : evO T call L_weight_from_1 nv = noV ((evB T call L_weight_from_1).v nv) := id rfl
theorem F_L_weight_from_1 (nv : Nv) (d : D) : fin L_weight_from_1 nv d = .ok d := id rfl
theorem A_L_weight_from_1 (T : List Fn) (call : Call) (nv : Nv) : (evB T call L_weight_from_1).t nv = asT ((evB T call L_weight_from_1).v nv) := id rfl
def B_weight_from : CSs := (CSs.cons (CS.ret (CE.o1 Op1.sum L_weight_from_1)) CSs.nil)
def b_weight_from : Fn := ⟨3, 2, [], B_weight_from⟩
def L_moment_from_1 : CE := (CE.lc [2] (Tg.n 2) (CI.seq (CE.sl (CE.v 0) (CO.so (CE.v 1)) CO.no)) (CE.k (.bool true)) (CE.o2 Op2.mul (CE.o2 Op2.at (CE.v 2) (CE.k (.int 3))) (CE.o2 Op2.add (CE.o2 Op2.mul (CE.k (.int 2)) (CE.o2 Op2.at (CE.v 2) (CE.k (.int 1)))) (CE.o2 Op2.at (CE.v 2) (CE.k (.int 2))))))
theorem O_L_moment_from_1 (T : List Fn) (call : Call) (nv : Nv) : evO T call L_moment_from_1 nv = noV ((evB T call L_moment_from_1).v nv) := id rfl
theorem F_L_moment_from_1 (nv : Nv) (d : D) : fin L_moment_from_1 nv d = .ok d := id rfl
theorem A_L_moment_from_1 (T : List Fn) (call : Call) (nv : Nv) : (evB T call L_moment_from_1).t nv = asT ((evB T call L_moment_from_1).v nv) := id rfl
def B_moment_from : CSs := (CSs.cons (CS.ret (CE.o1 Op1.sum L_moment_from_1)) CSs.nil)
def b_moment_from : Fn := ⟨3, 2, [], B_moment_from⟩
def B_centre_from : CSs := (CSs.cons (CS.ret (CE.call 4 (CEs.cons (CE.call 18 (CEs.cons (CE.v 0) (CEs.cons (CE.v 1) CEs.nil))) (CEs.cons (CE.o2 Op2.mul (CE.k (.int 2)) (CE.call 17 (CEs.cons (CE.v 0) (CEs.cons (CE.v 1) CEs.nil)))) CEs.nil)))) CSs.nil)
def b_centre_from : Fn := ⟨2, 2, [], B_centre_from⟩
def B_side_of : CSs := (CSs.cons (CS.set (Tg.n 2) (CE.call 19 (CEs.cons (CE.v 0) (CEs.cons (CE.v 1) CEs.nil)))) (CSs.cons (CS.set (Tg.t (Tgs.cons (Tg.n 3) (Tgs.cons (Tg.n 4) Tgs.nil))) (CE.call 15 (CEs.cons (CE.v 0) (CEs.cons (CE.v 1) CEs.nil)))) (CSs.cons (CS.ite (CE.call 11 (CEs.cons (CE.v 2) (CEs.cons (CE.call 5 (CEs.cons (CE.v 3) CEs.nil)) CEs.nil))) (CSs.cons (CS.ret (CE.k (.str "left"))) CSs.nil) CSs.nil) (CSs.cons (CS.ret (CE.ite (CE.call 11 (CEs.cons (CE.call 5 (CEs.cons (CE.v 4) CEs.nil)) (CEs.cons (CE.v 2) CEs.nil))) (CE.k (.str "right")) (CE.k .none))) CSs.nil))))
def b_side_of : Fn := ⟨5, 2, [], B_side_of⟩
def L_centres_1 : CE := (CE.lc [1] (Tg.n 1) (CI.rng (CEs.cons (CE.o1 Op1.len (CE.v 0)) CEs.nil)) (CE.k (.bool true)) (CE.call 19 (CEs.cons (CE.v 0) (CEs.cons (CE.v 1) CEs.nil))))
theorem O_L_centres_1 (T : List Fn) (call : Call) (nv : Nv) : evO T call L_centres_1 nv = noV ((evB T call L_centres_1).v nv) := id rfl
theorem F_L_centres_1 (nv : Nv) (d : D) : fin L_centres_1 nv d = .ok d := id rfl
theorem A_L_centres_1 (T : List Fn) (call : Call) (nv : Nv) : (evB T call L_centres_1).t nv = asT ((evB T call L_centres_1).v nv) := id rfl
def B_centres : CSs := (CSs.cons (CS.expr (CE.call 16 (CEs.cons (CE.v 0) CEs.nil))) (CSs.cons (CS.ret (CE.o1 Op1.tuple L_centres_1)) CSs.nil))
def b_centres : Fn := ⟨2, 1, [], B_centres⟩
def B_pressure : CSs := (CSs.cons (CS.set (Tg.n 2) (CE.call 5 (CEs.cons (CE.call 17 (CEs.cons (CE.v 0) (CEs.cons (CE.v 1) CEs.nil))) CEs.nil))) (CSs.cons (CS.set (Tg.t (Tgs.cons (Tg.n 4) (Tgs.cons (Tg.n 5) Tgs.nil))) (CE.call 15 (CEs.cons (CE.v 0) (CEs.cons (CE.v 1) CEs.nil)))) (CSs.cons (CS.ite (CE.o2 Op2.eq (CE.v 4) (CE.v 5)) (CSs.cons (CS.ret (CE.tup (CEs.cons (CE.v 2) (CEs.cons (CE.g "ZERO" (.tuple [(.int 0), (.int 1)])) CEs.nil)))) CSs.nil) CSs.nil) (CSs.cons (CS.set (Tg.n 3) (CE.call 10 (CEs.cons (CE.call 9 (CEs.cons (CE.v 2) (CEs.cons (CE.call 8 (CEs.cons (CE.call 19 (CEs.cons (CE.v 0) (CEs.cons (CE.v 1) CEs.nil))) (CEs.cons (CE.call 5 (CEs.cons (CE.v 4) CEs.nil)) CEs.nil))) CEs.nil))) (CEs.cons (CE.call 5 (CEs.cons (CE.o2 Op2.sub (CE.v 5) (CE.v 4)) CEs.nil)) CEs.nil)))) (CSs.cons (CS.ret (CE.tup (CEs.cons (CE.call 8 (CEs.cons (CE.v 2) (CEs.cons (CE.v 3) CEs.nil))) (CEs.cons (CE.v 3) CEs.nil)))) CSs.nil)))))
def b_pressure : Fn := ⟨6, 2, [], B_pressure⟩
def L_stands_1 : CSs := (CSs.cons (CS.set (Tg.n 2) (CE.call 20 (CEs.cons (CE.v 0) (CEs.cons (CE.v 1) CEs.nil)))) (CSs.cons (CS.ite (CE.o1 Op1.notN (CE.v 2)) (CSs.cons (CS.ret (CE.tup (CEs.cons (CE.k (.str "tips")) (CEs.cons (CE.v 1) (CEs.cons (CE.v 2) CEs.nil))))) CSs.nil) CSs.nil) CSs.nil))
def L_stands_2 : CS := (CS.for (Tg.n 1) (CI.rng (CEs.cons (CE.o1 Op1.len (CE.v 0)) CEs.nil)) L_stands_1)
def L_stands_3 : CE := (CE.lc [1] (Tg.n 1) (CI.rng (CEs.cons (CE.o1 Op1.len (CE.v 0)) CEs.nil)) (CE.k (.bool true)) (CE.call 22 (CEs.cons (CE.v 0) (CEs.cons (CE.v 1) CEs.nil))))
theorem O_L_stands_3 (T : List Fn) (call : Call) (nv : Nv) : evO T call L_stands_3 nv = noV ((evB T call L_stands_3).v nv) := id rfl
theorem F_L_stands_3 (nv : Nv) (d : D) : fin L_stands_3 nv d = .ok d := id rfl
theorem A_L_stands_3 (T : List Fn) (call : Call) (nv : Nv) : (evB T call L_stands_3).t nv = asT ((evB T call L_stands_3).v nv) := id rfl
def B_stands : CSs := (CSs.cons (CS.expr (CE.call 16 (CEs.cons (CE.v 0) CEs.nil))) (CSs.cons L_stands_2 (CSs.cons (CS.ret (CE.tup (CEs.cons (CE.k (.str "stands")) (CEs.cons (CE.o1 Op1.tuple L_stands_3) CEs.nil)))) CSs.nil)))
def b_stands : Fn := ⟨3, 1, [], B_stands⟩
def L_accept_stands_1 : CE := (CE.lc [3] (Tg.n 3) (CI.seq (CE.o2 Op2.at (CE.v 1) (CE.k (.int 1)))) (CE.k (.bool true)) (CE.call 13 (CEs.cons (CE.v 3) (CEs.cons (CE.k (.int 2)) CEs.nil))))
theorem O_L_accept_stands_1 (T : List Fn) (call : Call) (nv : Nv) : evO T call L_accept_stands_1 nv = noV ((evB T call L_accept_stands_1).v nv) := id rfl
theorem F_L_accept_stands_1 (nv : Nv) (d : D) : fin L_accept_stands_1 nv d = .ok d := id rfl
theorem A_L_accept_stands_1 (T : List Fn) (call : Call) (nv : Nv) : (evB T call L_accept_stands_1).t nv = asT ((evB T call L_accept_stands_1).v nv) := id rfl
def L_accept_stands_2 : CSs := (CSs.cons (CS.set (Tg.t (Tgs.cons (Tg.n 6) (Tgs.cons (Tg.n 7) Tgs.nil))) (CE.call 15 (CEs.cons (CE.v 0) (CEs.cons (CE.v 2) CEs.nil)))) (CSs.cons (CS.set (Tg.n 4) (CE.call 5 (CEs.cons (CE.call 17 (CEs.cons (CE.v 0) (CEs.cons (CE.v 2) CEs.nil))) CEs.nil))) (CSs.cons (CS.ite (CE.or (CE.call 11 (CEs.cons (CE.o2 Op2.at (CE.v 3) (CE.k (.int 0))) (CEs.cons (CE.g "ZERO" (.tuple [(.int 0), (.int 1)])) CEs.nil))) (CE.call 11 (CEs.cons (CE.o2 Op2.at (CE.v 3) (CE.k (.int 1))) (CEs.cons (CE.g "ZERO" (.tuple [(.int 0), (.int 1)])) CEs.nil)))) (CSs.cons (CS.raise 2 (CEs.cons (CE.k (.str "pull")) CEs.nil)) CSs.nil) CSs.nil) (CSs.cons (CS.ite (CE.o2 Op2.ne (CE.call 6 (CEs.cons (CE.o2 Op2.at (CE.v 3) (CE.k (.int 0))) (CEs.cons (CE.o2 Op2.at (CE.v 3) (CE.k (.int 1))) CEs.nil))) (CE.v 4)) (CSs.cons (CS.raise 2 (CEs.cons (CE.k (.str "weight")) CEs.nil)) CSs.nil) CSs.nil) (CSs.cons (CS.set (Tg.n 5) (CE.call 6 (CEs.cons (CE.call 9 (CEs.cons (CE.call 5 (CEs.cons (CE.v 6) CEs.nil)) (CEs.cons (CE.o2 Op2.at (CE.v 3) (CE.k (.int 0))) CEs.nil))) (CEs.cons (CE.call 9 (CEs.cons (CE.call 5 (CEs.cons (CE.v 7) CEs.nil)) (CEs.cons (CE.o2 Op2.at (CE.v 3) (CE.k (.int 1))) CEs.nil))) CEs.nil)))) (CSs.cons (CS.ite (CE.o2 Op2.ne (CE.v 5) (CE.call 9 (CEs.cons (CE.call 19 (CEs.cons (CE.v 0) (CEs.cons (CE.v 2) CEs.nil))) (CEs.cons (CE.v 4) CEs.nil)))) (CSs.cons (CS.raise 2 (CEs.cons (CE.k (.str "moment")) CEs.nil)) CSs.nil) CSs.nil) CSs.nil))))))
def L_accept_stands_3 : CS := (CS.for (Tg.t (Tgs.cons (Tg.n 2) (Tgs.cons (Tg.n 3) Tgs.nil))) (CI.enm (CE.o2 Op2.at (CE.v 1) (CE.k (.int 1)))) L_accept_stands_2)
def B_accept_stands : CSs := (CSs.cons (CS.expr (CE.call 16 (CEs.cons (CE.v 0) CEs.nil))) (CSs.cons (CS.ite (CE.or (CE.not (CE.o1 (Op1.isi Ty.tuple) (CE.v 1))) (CE.o2 Op2.notin (CE.o1 Op1.len (CE.v 1)) (CE.tup (CEs.cons (CE.k (.int 2)) (CEs.cons (CE.k (.int 3)) CEs.nil))))) (CSs.cons (CS.raise 2 (CEs.cons (CE.k (.str "form")) CEs.nil)) CSs.nil) CSs.nil) (CSs.cons (CS.ite (CE.not (CE.call 2 (CEs.cons (CE.o2 Op2.at (CE.v 1) (CE.k (.int 0))) (CEs.cons (CE.ite (CE.o2 Op2.eq (CE.o1 Op1.len (CE.v 1)) (CE.k (.int 2))) (CE.k (.str "stands")) (CE.k (.str "tips"))) CEs.nil)))) (CSs.cons (CS.raise 2 (CEs.cons (CE.k (.str "form")) CEs.nil)) CSs.nil) CSs.nil) (CSs.cons (CS.ite (CE.o2 Op2.eq (CE.o1 Op1.len (CE.v 1)) (CE.k (.int 3))) (CSs.cons (CS.ite (CE.or (CE.not (CE.call 1 (CEs.cons (CE.o2 Op2.at (CE.v 1) (CE.k (.int 1))) (CEs.cons (CE.k (.int 0)) (CEs.cons (CE.o2 Op2.sub (CE.o1 Op1.len (CE.v 0)) (CE.k (.int 1))) CEs.nil))))) (CE.not (CE.o1 (Op1.isi Ty.str) (CE.o2 Op2.at (CE.v 1) (CE.k (.int 2)))))) (CSs.cons (CS.raise 2 (CEs.cons (CE.k (.str "form")) CEs.nil)) CSs.nil) CSs.nil) (CSs.cons (CS.ite (CE.o2 Op2.ne (CE.call 20 (CEs.cons (CE.v 0) (CEs.cons (CE.o2 Op2.at (CE.v 1) (CE.k (.int 1))) CEs.nil))) (CE.o2 Op2.at (CE.v 1) (CE.k (.int 2)))) (CSs.cons (CS.raise 2 (CEs.cons (CE.k (.str "side")) CEs.nil)) CSs.nil) CSs.nil) (CSs.cons CS.retN CSs.nil))) CSs.nil) (CSs.cons (CS.ite (CE.or (CE.not (CE.o1 (Op1.isi Ty.tuple) (CE.o2 Op2.at (CE.v 1) (CE.k (.int 1))))) (CE.o2 Op2.ne (CE.o1 Op1.len (CE.o2 Op2.at (CE.v 1) (CE.k (.int 1)))) (CE.o1 Op1.len (CE.v 0)))) (CSs.cons (CS.raise 2 (CEs.cons (CE.k (.str "form")) CEs.nil)) CSs.nil) CSs.nil) (CSs.cons (CS.ite (CE.not (CE.o1 Op1.all L_accept_stands_1)) (CSs.cons (CS.raise 2 (CEs.cons (CE.k (.str "form")) CEs.nil)) CSs.nil) CSs.nil) (CSs.cons L_accept_stands_3 CSs.nil)))))))
def b_accept_stands : Fn := ⟨8, 2, [], B_accept_stands⟩
def L_raised_1 : CE := (CE.lc [2] (Tg.n 2) (CI.rng (CEs.cons (CE.v 1) CEs.nil)) (CE.k (.bool true)) (CE.o1 Op1.notN (CE.call 20 (CEs.cons (CE.sl (CE.v 0) CO.no (CO.so (CE.v 1))) (CEs.cons (CE.v 2) CEs.nil)))))
theorem O_L_raised_1 (T : List Fn) (call : Call) (nv : Nv) : evO T call L_raised_1 nv = noV ((evB T call L_raised_1).v nv) := id rfl
theorem F_L_raised_1 (nv : Nv) (d : D) : fin L_raised_1 nv d = .ok d := id rfl
theorem A_L_raised_1 (T : List Fn) (call : Call) (nv : Nv) : (evB T call L_raised_1).t nv = asT ((evB T call L_raised_1).v nv) := id rfl
def L_raised_2 : CSs := (CSs.cons (CS.ite (CE.o1 Op1.any L_raised_1) (CSs.cons (CS.mv 1) CSs.nil) CSs.nil) CSs.nil)
def L_raised_3 : CS := (CS.for (Tg.n 1) (CI.rng (CEs.cons (CE.k (.int 1)) (CEs.cons (CE.o2 Op2.add (CE.o1 Op1.len (CE.v 0)) (CE.k (.int 1))) CEs.nil))) L_raised_2)
def B_raised : CSs := (CSs.cons (CS.expr (CE.call 16 (CEs.cons (CE.v 0) CEs.nil))) (CSs.cons L_raised_3 (CSs.cons (CS.ret (CE.k .none)) CSs.nil)))
def b_raised : Fn := ⟨3, 1, [], B_raised⟩
def L_room_1 : CE := (CE.lc [7] (Tg.n 7) (CI.rng (CEs.cons (CE.o2 Op2.add (CE.v 1) (CE.k (.int 1))) (CEs.cons (CE.o1 Op1.len (CE.v 0)) CEs.nil))) (CE.k (.bool true)) (CE.o1 Op1.notN (CE.call 20 (CEs.cons (CE.v 0) (CEs.cons (CE.v 7) CEs.nil)))))
theorem O_L_room_1 (T : List Fn) (call : Call) (nv : Nv) : evO T call L_room_1 nv = noV ((evB T call L_room_1).v nv) := id rfl
theorem F_L_room_1 (nv : Nv) (d : D) : fin L_room_1 nv d = .ok d := id rfl
theorem A_L_room_1 (T : List Fn) (call : Call) (nv : Nv) : (evB T call L_room_1).t nv = asT ((evB T call L_room_1).v nv) := id rfl
def L_room_2 : CSs := (CSs.cons (CS.set (Tg.n 8) (CE.call 4 (CEs.cons (CE.call 17 (CEs.cons (CE.v 0) (CEs.cons (CE.v 7) CEs.nil))) (CEs.cons (CE.call 17 (CEs.cons (CE.v 0) (CEs.cons (CE.v 1) CEs.nil))) CEs.nil)))) (CSs.cons (CS.set (Tg.n 9) (CE.call 15 (CEs.cons (CE.v 0) (CEs.cons (CE.v 7) CEs.nil)))) (CSs.cons (CS.set (Tg.n 10) (CE.call 9 (CEs.cons (CE.v 8) (CEs.cons (CE.call 8 (CEs.cons (CE.call 5 (CEs.cons (CE.o2 Op2.at (CE.v 9) (CE.k (.int 0))) CEs.nil)) (CEs.cons (CE.call 19 (CEs.cons (CE.v 0) (CEs.cons (CE.v 7) CEs.nil))) CEs.nil))) CEs.nil)))) (CSs.cons (CS.set (Tg.n 11) (CE.call 9 (CEs.cons (CE.v 8) (CEs.cons (CE.call 8 (CEs.cons (CE.call 5 (CEs.cons (CE.o2 Op2.at (CE.v 9) (CE.k (.int 1))) CEs.nil)) (CEs.cons (CE.call 19 (CEs.cons (CE.v 0) (CEs.cons (CE.v 7) CEs.nil))) CEs.nil))) CEs.nil)))) (CSs.cons (CS.set (Tg.n 5) (CE.ite (CE.call 11 (CEs.cons (CE.v 5) (CEs.cons (CE.v 10) CEs.nil))) (CE.v 10) (CE.v 5))) (CSs.cons (CS.set (Tg.n 6) (CE.ite (CE.call 11 (CEs.cons (CE.v 11) (CEs.cons (CE.v 6) CEs.nil))) (CE.v 11) (CE.v 6))) CSs.nil))))))
def L_room_3 : CS := (CS.for (Tg.n 7) (CI.rng (CEs.cons (CE.v 1) CEs.nil)) L_room_2)
def B_room : CSs := (CSs.cons (CS.expr (CE.call 16 (CEs.cons (CE.v 0) CEs.nil))) (CSs.cons (CS.ite (CE.not (CE.call 1 (CEs.cons (CE.v 1) (CEs.cons (CE.k (.int 1)) (CEs.cons (CE.o2 Op2.sub (CE.o1 Op1.len (CE.v 0)) (CE.k (.int 1))) CEs.nil))))) (CSs.cons (CS.raise 1 (CEs.cons (CE.k (.str "number")) CEs.nil)) CSs.nil) CSs.nil) (CSs.cons (CS.ite (CE.o1 Op1.any L_room_1) (CSs.cons (CS.ret (CE.k .none)) CSs.nil) CSs.nil) (CSs.cons (CS.set (Tg.n 2) (CE.call 19 (CEs.cons (CE.v 0) (CEs.cons (CE.v 1) CEs.nil)))) (CSs.cons (CS.set (Tg.n 3) (CE.o2 Op2.at (CE.v 0) (CE.v 1))) (CSs.cons (CS.ite (CE.or (CE.call 11 (CEs.cons (CE.v 2) (CEs.cons (CE.call 5 (CEs.cons (CE.o2 Op2.at (CE.v 3) (CE.k (.int 1))) CEs.nil)) CEs.nil))) (CE.call 11 (CEs.cons (CE.call 5 (CEs.cons (CE.o2 Op2.add (CE.o2 Op2.at (CE.v 3) (CE.k (.int 1))) (CE.o2 Op2.at (CE.v 3) (CE.k (.int 2)))) CEs.nil)) (CEs.cons (CE.v 2) CEs.nil)))) (CSs.cons (CS.ret (CE.k .none)) CSs.nil) CSs.nil) (CSs.cons (CS.set (Tg.n 4) (CE.o2 Op2.at (CE.v 0) (CE.o2 Op2.sub (CE.v 1) (CE.k (.int 1))))) (CSs.cons (CS.set (Tg.n 5) (CE.call 8 (CEs.cons (CE.call 5 (CEs.cons (CE.o2 Op2.at (CE.v 4) (CE.k (.int 1))) CEs.nil)) (CEs.cons (CE.v 2) CEs.nil)))) (CSs.cons (CS.set (Tg.n 6) (CE.call 8 (CEs.cons (CE.call 5 (CEs.cons (CE.o2 Op2.add (CE.o2 Op2.at (CE.v 4) (CE.k (.int 1))) (CE.o2 Op2.at (CE.v 4) (CE.k (.int 2)))) CEs.nil)) (CEs.cons (CE.v 2) CEs.nil)))) (CSs.cons L_room_3 (CSs.cons (CS.ret (CE.ite (CE.call 11 (CEs.cons (CE.v 6) (CEs.cons (CE.v 5) CEs.nil))) (CE.k .none) (CE.tup (CEs.cons (CE.v 5) (CEs.cons (CE.v 6) CEs.nil))))) CSs.nil)))))))))))
def b_room : Fn := ⟨12, 2, [], B_room⟩
def L__law_draws_1 : CSs := (CSs.cons (CS.ite (CE.o2 Op2.gt (CE.v 3) (CE.k (.int 0))) (CSs.cons (CS.app 1 (CE.o2 Op2.mod (CE.o1 Op1.int (CE.v 3)) (CE.k (.int 1009)))) (CSs.cons (CS.set (Tg.n 3) (CE.o2 Op2.fdiv (CE.v 3) (CE.k (.int 1009)))) CSs.nil)) CSs.nil) CSs.nil)
def L__law_draws_2 : CS := (CS.for (Tg.n 4) (CI.rng (CEs.cons (CE.k (.int 60)) CEs.nil)) L__law_draws_1)
def L__law_draws_3 : CSs := (CSs.cons (CS.set (Tg.n 5) (CE.o2 Op2.mod (CE.o1 Op1.int (CE.o2 Op2.add (CE.o2 Op2.add (CE.o2 Op2.mul (CE.v 5) (CE.k (.int 16807))) (CE.o2 Op2.mul (CE.k (.int 69621)) (CE.v 4))) (CE.k (.int 5)))) (CE.k (.int 2147483629)))) (CSs.cons (CS.app 1 (CE.o2 Op2.fdiv (CE.v 5) (CE.k (.int 1009)))) CSs.nil))
def L__law_draws_4 : CS := (CS.for (Tg.n 4) (CI.rng (CEs.cons (CE.k (.int 12)) CEs.nil)) L__law_draws_3)
def L__law_draws_5 : CSs := (CSs.cons (CS.set (Tg.n 3) (CE.o1 Op1.abs (CE.v 2))) (CSs.cons (CS.ite (CE.o2 Op2.ge (CE.v 3) (CE.o2 Op2.pow (CE.k (.int 10)) (CE.k (.int 18)))) (CSs.cons L__law_draws_2 CSs.nil) (CSs.cons (CS.set (Tg.n 5) (CE.o2 Op2.mod (CE.o1 Op1.int (CE.o2 Op2.add (CE.o2 Op2.mul (CE.v 3) (CE.k (.int 48271))) (CE.k (.int 11)))) (CE.k (.int 2147483647)))) (CSs.cons L__law_draws_4 CSs.nil))) CSs.nil))
def L__law_draws_6 : CS := (CS.for (Tg.n 2) (CI.seq (CE.sl (CE.v 0) CO.no (CO.so (CE.k (.int 63))))) L__law_draws_5)
def B__law_draws : CSs := (CSs.cons (CS.set (Tg.n 1) (CE.lst CEs.nil)) (CSs.cons L__law_draws_6 (CSs.cons (CS.mv 1) CSs.nil)))
def b__law_draws : Fn := ⟨6, 1, [], B__law_draws⟩
def L__law_more_1 : CSs := (CSs.cons (CS.ite (CE.v 0) (CSs.cons (CS.set (Tg.n 2) (CE.o2 Op2.add (CE.v 2) (CE.o2 Op2.at (CE.v 0) (CE.o2 Op2.mod (CE.o1 Op1.int (CE.o2 Op2.add (CE.o2 Op2.mul (CE.v 1) (CE.o2 Op2.add (CE.v 3) (CE.k (.int 5)))) (CE.v 3))) (CE.o1 Op1.len (CE.v 0)))))) CSs.nil) CSs.nil) (CSs.cons (CS.set (Tg.n 2) (CE.o2 Op2.mod (CE.o1 Op1.int (CE.o2 Op2.add (CE.o2 Op2.add (CE.o2 Op2.mul (CE.v 2) (CE.k (.int 16807))) (CE.o2 Op2.mul (CE.k (.int 69621)) (CE.v 3))) (CE.k (.int 5)))) (CE.k (.int 2147483629)))) CSs.nil))
def L__law_more_2 : CS := (CS.for (Tg.n 3) (CI.rng (CEs.cons (CE.k (.int 3)) CEs.nil)) L__law_more_1)
def B__law_more : CSs := (CSs.cons (CS.set (Tg.n 2) (CE.o2 Op2.mod (CE.o1 Op1.int (CE.o2 Op2.add (CE.o2 Op2.add (CE.o2 Op2.mul (CE.v 1) (CE.k (.int 48271))) (CE.o1 Op1.len (CE.v 0))) (CE.k (.int 11)))) (CE.k (.int 2147483629)))) (CSs.cons L__law_more_2 (CSs.cons (CS.ret (CE.o2 Op2.fdiv (CE.v 2) (CE.k (.int 1009)))) CSs.nil)))
def b__law_more : Fn := ⟨4, 2, [], B__law_more⟩
def B__law_take : CSs := (CSs.cons (CS.set (Tg.n 3) (CE.o2 Op2.at (CE.v 1) (CE.k (.int 0)))) (CSs.cons (CS.put 1 (CE.k (.int 0)) (CE.o2 Op2.add (CE.v 3) (CE.k (.int 1)))) (CSs.cons (CS.ret (CE.o2 Op2.mod (CE.o1 Op1.int (CE.ite (CE.o2 Op2.lt (CE.v 3) (CE.o1 Op1.len (CE.v 0))) (CE.o2 Op2.at (CE.v 0) (CE.v 3)) (CE.call 28 (CEs.cons (CE.v 0) (CEs.cons (CE.v 3) CEs.nil))))) (CE.v 2))) CSs.nil)))
def b__law_take : Fn := ⟨4, 3, [1], B__law_take⟩
def B__law_one : CSs := (CSs.cons (CS.ret (CE.o2 Op2.at (CE.v 0) (CE.call 29 (CEs.cons (CE.v 1) (CEs.cons (CE.v 2) (CEs.cons (CE.o1 Op1.len (CE.v 0)) CEs.nil)))))) CSs.nil)
def b__law_one : Fn := ⟨3, 3, [2], B__law_one⟩
def L__law_tower_1 : CSs := (CSs.cons (CS.app 5 (CE.tup (CEs.cons (CE.ite (CE.o2 Op2.lt (CE.v 6) (CE.k (.int 5))) (CE.o2 Op2.at (CE.v 4) (CE.v 6)) (CE.o2 Op2.add (CE.k (.str "n")) (CE.o1 Op1.str (CE.v 6)))) (CEs.cons (CE.v 7) (CEs.cons (CE.v 8) (CEs.cons (CE.o2 Op2.add (CE.k (.int 1)) (CE.call 29 (CEs.cons (CE.v 1) (CEs.cons (CE.v 2) (CEs.cons (CE.call 30 (CEs.cons (CE.lst (CEs.cons (CE.k (.int 1)) (CEs.cons (CE.k (.int 5)) (CEs.cons (CE.k (.int 1000000)) CEs.nil)))) (CEs.cons (CE.v 1) (CEs.cons (CE.v 2) CEs.nil)))) CEs.nil))))) CEs.nil)))))) (CSs.cons (CS.set (Tg.n 9) (CE.o2 Op2.add (CE.k (.int 1)) (CE.call 29 (CEs.cons (CE.v 1) (CEs.cons (CE.v 2) (CEs.cons (CE.v 3) CEs.nil)))))) (CSs.cons (CS.set (Tg.t (Tgs.cons (Tg.n 11) (Tgs.cons (Tg.n 12) Tgs.nil))) (CE.tup (CEs.cons (CE.o2 Op2.sub (CE.v 7) (CE.v 9)) (CEs.cons (CE.o2 Op2.add (CE.v 7) (CE.v 8)) CEs.nil)))) (CSs.cons (CS.set (Tg.n 10) (CE.call 30 (CEs.cons (CE.lst (CEs.cons (CE.o2 Op2.add (CE.v 7) (CE.o2 Op2.fdiv (CE.o2 Op2.sub (CE.v 8) (CE.v 9)) (CE.k (.int 2)))) (CEs.cons (CE.o2 Op2.add (CE.v 11) (CE.call 29 (CEs.cons (CE.v 1) (CEs.cons (CE.v 2) (CEs.cons (CE.o2 Op2.add (CE.o2 Op2.sub (CE.v 12) (CE.v 11)) (CE.k (.int 1))) CEs.nil))))) (CEs.cons (CE.v 7) (CEs.cons (CE.v 12) (CEs.cons (CE.v 11) CEs.nil)))))) (CEs.cons (CE.v 1) (CEs.cons (CE.v 2) CEs.nil))))) (CSs.cons (CS.set (Tg.t (Tgs.cons (Tg.n 7) (Tgs.cons (Tg.n 8) Tgs.nil))) (CE.tup (CEs.cons (CE.o2 Op2.max (CE.o1 Op1.neg (CE.k (.int 1000))) (CE.o2 Op2.min (CE.k (.int 1000)) (CE.v 10))) (CEs.cons (CE.v 9) CEs.nil)))) (CSs.cons (CS.ite (CE.or (CE.not (CE.o2 Op2.le (CE.o2 Op2.at (CE.o2 Op2.at (CE.v 5) (CE.o1 Op1.neg (CE.k (.int 1)))) (CE.k (.int 1))) (CE.o2 Op2.add (CE.v 7) (CE.v 8)))) (CE.not (CE.o2 Op2.le (CE.v 7) (CE.o2 Op2.add (CE.o2 Op2.at (CE.o2 Op2.at (CE.v 5) (CE.o1 Op1.neg (CE.k (.int 1)))) (CE.k (.int 1))) (CE.o2 Op2.at (CE.o2 Op2.at (CE.v 5) (CE.o1 Op1.neg (CE.k (.int 1)))) (CE.k (.int 2))))))) (CSs.cons (CS.set (Tg.n 7) (CE.o2 Op2.at (CE.o2 Op2.at (CE.v 5) (CE.o1 Op1.neg (CE.k (.int 1)))) (CE.k (.int 1)))) CSs.nil) CSs.nil) CSs.nil))))))
def L__law_tower_2 : CS := (CS.for (Tg.n 6) (CI.rng (CEs.cons (CE.o2 Op2.add (CE.k (.int 1)) (CE.call 29 (CEs.cons (CE.v 1) (CEs.cons (CE.v 2) (CEs.cons (CE.v 0) CEs.nil))))) CEs.nil)) L__law_tower_1)
def B__law_tower : CSs := (CSs.cons (CS.set (Tg.n 3) (CE.call 30 (CEs.cons (CE.lst (CEs.cons (CE.k (.int 2)) (CEs.cons (CE.k (.int 10)) (CEs.cons (CE.k (.int 200)) CEs.nil)))) (CEs.cons (CE.v 1) (CEs.cons (CE.v 2) CEs.nil))))) (CSs.cons (CS.set (Tg.t (Tgs.cons (Tg.n 7) (Tgs.cons (Tg.n 8) Tgs.nil))) (CE.tup (CEs.cons (CE.o2 Op2.sub (CE.call 29 (CEs.cons (CE.v 1) (CEs.cons (CE.v 2) (CEs.cons (CE.k (.int 5)) CEs.nil)))) (CE.k (.int 2))) (CEs.cons (CE.o2 Op2.add (CE.k (.int 1)) (CE.call 29 (CEs.cons (CE.v 1) (CEs.cons (CE.v 2) (CEs.cons (CE.v 3) CEs.nil))))) CEs.nil)))) (CSs.cons (CS.set (Tg.n 4) (CE.lst (CEs.cons (CE.k (.str "a")) (CEs.cons (CE.k (.str "")) (CEs.cons (CE.k (.str "A b")) (CEs.cons (CE.o2 Op2.mul (CE.k (.str "x")) (CE.k (.int 30))) (CEs.cons (CE.k (.str "0")) CEs.nil))))))) (CSs.cons (CS.set (Tg.n 5) (CE.lst CEs.nil)) (CSs.cons L__law_tower_2 (CSs.cons (CS.ret (CE.o1 Op1.tuple (CE.v 5))) CSs.nil))))))
def b__law_tower : Fn := ⟨13, 3, [2], B__law_tower⟩
def B__law_contact : CSs := (CSs.cons (CS.set (Tg.t (Tgs.cons (Tg.n 3) (Tgs.cons (Tg.n 4) (Tgs.cons (Tg.n 5) (Tgs.cons (Tg.n 6) Tgs.nil))))) (CE.o2 Op2.at (CE.v 0) (CE.v 1))) (CSs.cons (CS.ite (CE.o2 Op2.eq (CE.v 1) (CE.k (.int 0))) (CSs.cons (CS.ret (CE.tup (CEs.cons (CE.v 4) (CEs.cons (CE.o2 Op2.add (CE.v 4) (CE.v 5)) CEs.nil)))) CSs.nil) CSs.nil) (CSs.cons (CS.set (Tg.n 2) (CE.o2 Op2.at (CE.v 0) (CE.o2 Op2.sub (CE.v 1) (CE.k (.int 1))))) (CSs.cons (CS.ret (CE.tup (CEs.cons (CE.o2 Op2.max (CE.v 4) (CE.o2 Op2.at (CE.v 2) (CE.k (.int 1)))) (CEs.cons (CE.o2 Op2.min (CE.o2 Op2.add (CE.v 4) (CE.v 5)) (CE.o2 Op2.add (CE.o2 Op2.at (CE.v 2) (CE.k (.int 1))) (CE.o2 Op2.at (CE.v 2) (CE.k (.int 2))))) CEs.nil)))) CSs.nil))))
def b__law_contact : Fn := ⟨7, 2, [], B__law_contact⟩
def L__law_centre_1 : CE := (CE.lc [3] (Tg.n 3) (CI.seq (CE.sl (CE.v 0) (CO.so (CE.v 1)) CO.no)) (CE.k (.bool true)) (CE.o2 Op2.at (CE.v 3) (CE.k (.int 3))))
theorem O_L__law_centre_1 (T : List Fn) (call : Call) (nv : Nv) : evO T call L__law_centre_1 nv = noV ((evB T call L__law_centre_1).v nv) := id rfl
theorem F_L__law_centre_1 (nv : Nv) (d : D) : fin L__law_centre_1 nv d = .ok d := id rfl
theorem A_L__law_centre_1 (T : List Fn) (call : Call) (nv : Nv) : (evB T call L__law_centre_1).t nv = asT ((evB T call L__law_centre_1).v nv) := id rfl
def L__law_centre_2 : CE := (CE.lc [3] (Tg.n 3) (CI.seq (CE.sl (CE.v 0) (CO.so (CE.v 1)) CO.no)) (CE.k (.bool true)) (CE.o2 Op2.mul (CE.o2 Op2.at (CE.v 3) (CE.k (.int 3))) (CE.o2 Op2.add (CE.o2 Op2.mul (CE.k (.int 2)) (CE.o2 Op2.at (CE.v 3) (CE.k (.int 1)))) (CE.o2 Op2.at (CE.v 3) (CE.k (.int 2))))))
theorem O_L__law_centre_2 (T : List Fn) (call : Call) (nv : Nv) : evO T call L__law_centre_2 nv = noV ((evB T call L__law_centre_2).v nv) := id rfl
theorem F_L__law_centre_2 (nv : Nv) (d : D) : fin L__law_centre_2 nv d = .ok d := id rfl
theorem A_L__law_centre_2 (T : List Fn) (call : Call) (nv : Nv) : (evB T call L__law_centre_2).t nv = asT ((evB T call L__law_centre_2).v nv) := id rfl
def B__law_centre : CSs := (CSs.cons (CS.set (Tg.n 2) (CE.o1 Op1.sum L__law_centre_1)) (CSs.cons (CS.ret (CE.call 35 (CEs.cons (CE.o1 Op1.sum L__law_centre_2) (CEs.cons (CE.o2 Op2.mul (CE.k (.int 2)) (CE.v 2)) CEs.nil)))) CSs.nil))
def b__law_centre : Fn := ⟨4, 2, [], B__law_centre⟩
def B__law_side : CSs := (CSs.cons (CS.set (Tg.t (Tgs.cons (Tg.n 3) (Tgs.cons (Tg.n 4) Tgs.nil))) (CE.call 32 (CEs.cons (CE.v 0) (CEs.cons (CE.v 1) CEs.nil)))) (CSs.cons (CS.set (Tg.n 2) (CE.call 33 (CEs.cons (CE.v 0) (CEs.cons (CE.v 1) CEs.nil)))) (CSs.cons (CS.ret (CE.ite (CE.call 38 (CEs.cons (CE.v 2) (CEs.cons (CE.tup (CEs.cons (CE.v 3) (CEs.cons (CE.k (.int 1)) CEs.nil))) CEs.nil))) (CE.k (.str "left")) (CE.ite (CE.call 38 (CEs.cons (CE.tup (CEs.cons (CE.v 4) (CEs.cons (CE.k (.int 1)) CEs.nil))) (CEs.cons (CE.v 2) CEs.nil))) (CE.k (.str "right")) (CE.k .none)))) CSs.nil)))
def b__law_side : Fn := ⟨5, 2, [], B__law_side⟩
def L__law_least_terms_1 : CSs := (CSs.cons (CS.set (Tg.t (Tgs.cons (Tg.n 2) (Tgs.cons (Tg.n 3) Tgs.nil))) (CE.tup (CEs.cons (CE.v 3) (CEs.cons (CE.o2 Op2.mod (CE.o1 Op1.int (CE.v 2)) (CE.v 3)) CEs.nil)))) CSs.nil)
def L__law_least_terms_2 : CS := (CS.whl (CE.o2 Op2.gt (CE.v 3) (CE.k (.int 0))) L__law_least_terms_1)
def B__law_least_terms : CSs := (CSs.cons (CS.set (Tg.t (Tgs.cons (Tg.n 2) (Tgs.cons (Tg.n 3) Tgs.nil))) (CE.tup (CEs.cons (CE.o1 Op1.abs (CE.v 0)) (CEs.cons (CE.v 1) CEs.nil)))) (CSs.cons L__law_least_terms_2 (CSs.cons (CS.ret (CE.tup (CEs.cons (CE.o2 Op2.fdiv (CE.v 0) (CE.v 2)) (CEs.cons (CE.o2 Op2.fdiv (CE.v 1) (CE.v 2)) CEs.nil)))) CSs.nil)))
def b__law_least_terms : Fn := ⟨4, 2, [], B__law_least_terms⟩
def B__law_plus : CSs := (CSs.cons (CS.ret (CE.call 35 (CEs.cons (CE.o2 Op2.add (CE.o2 Op2.mul (CE.o2 Op2.at (CE.v 0) (CE.k (.int 0))) (CE.o2 Op2.at (CE.v 1) (CE.k (.int 1)))) (CE.o2 Op2.mul (CE.o2 Op2.at (CE.v 1) (CE.k (.int 0))) (CE.o2 Op2.at (CE.v 0) (CE.k (.int 1))))) (CEs.cons (CE.o2 Op2.mul (CE.o2 Op2.at (CE.v 0) (CE.k (.int 1))) (CE.o2 Op2.at (CE.v 1) (CE.k (.int 1)))) CEs.nil)))) CSs.nil)
def b__law_plus : Fn := ⟨2, 2, [], B__law_plus⟩
def B__law_times : CSs := (CSs.cons (CS.ret (CE.call 35 (CEs.cons (CE.o2 Op2.mul (CE.o2 Op2.at (CE.v 0) (CE.k (.int 0))) (CE.o2 Op2.at (CE.v 1) (CE.k (.int 0)))) (CEs.cons (CE.o2 Op2.mul (CE.o2 Op2.at (CE.v 0) (CE.k (.int 1))) (CE.o2 Op2.at (CE.v 1) (CE.k (.int 1)))) CEs.nil)))) CSs.nil)
def b__law_times : Fn := ⟨2, 2, [], B__law_times⟩
def B__law_below : CSs := (CSs.cons (CS.ret (CE.o2 Op2.lt (CE.o2 Op2.mul (CE.o2 Op2.at (CE.v 0) (CE.k (.int 0))) (CE.o2 Op2.at (CE.v 1) (CE.k (.int 1)))) (CE.o2 Op2.mul (CE.o2 Op2.at (CE.v 1) (CE.k (.int 0))) (CE.o2 Op2.at (CE.v 0) (CE.k (.int 1)))))) CSs.nil)
def b__law_below : Fn := ⟨2, 2, [], B__law_below⟩
def B__law_same_as : CSs := (CSs.cons (CS.ret (CE.and (CE.o2 Op2.eq (CE.v 0) (CE.v 1)) (CE.o2 Op2.eq (CE.o1 Op1.repr (CE.v 0)) (CE.o1 Op1.repr (CE.v 1))))) CSs.nil)
def b__law_same_as : Fn := ⟨2, 2, [], B__law_same_as⟩
def L__law_is_fraction_1 : CE := (CE.lc [1] (Tg.n 1) (CI.seq (CE.v 0)) (CE.or (CE.not (CE.o1 (Op1.isi Ty.int) (CE.v 1))) (CE.o1 (Op1.isi Ty.bool) (CE.v 1))) (CE.v 1))
theorem O_L__law_is_fraction_1 (T : List Fn) (call : Call) (nv : Nv) : evO T call L__law_is_fraction_1 nv = noV ((evB T call L__law_is_fraction_1).v nv) := id rfl
theorem F_L__law_is_fraction_1 (nv : Nv) (d : D) : fin L__law_is_fraction_1 nv d = .ok d := id rfl
theorem A_L__law_is_fraction_1 (T : List Fn) (call : Call) (nv : Nv) : (evB T call L__law_is_fraction_1).t nv = asT ((evB T call L__law_is_fraction_1).v nv) := id rfl
def B__law_is_fraction : CSs := (CSs.cons (CS.ite (CE.or (CE.not (CE.o1 (Op1.isi Ty.tuple) (CE.v 0))) (CE.or (CE.o2 Op2.ne (CE.o1 Op1.len (CE.v 0)) (CE.k (.int 2))) L__law_is_fraction_1)) (CSs.cons (CS.ret (CE.k (.bool false))) CSs.nil) CSs.nil) (CSs.cons (CS.ret (CE.and (CE.o2 Op2.gt (CE.o2 Op2.at (CE.v 0) (CE.k (.int 1))) (CE.k (.int 0))) (CE.o2 Op2.eq (CE.call 35 (CEs.cons (CE.o2 Op2.at (CE.v 0) (CE.k (.int 0))) (CEs.cons (CE.o2 Op2.at (CE.v 0) (CE.k (.int 1))) CEs.nil))) (CE.v 0)))) CSs.nil))
def b__law_is_fraction : Fn := ⟨2, 1, [], B__law_is_fraction⟩
def L__law_forces_reason_1 : CSs := (CSs.cons (CS.ite (CE.or (CE.not (CE.o1 (Op1.isi Ty.tuple) (CE.v 2))) (CE.or (CE.o2 Op2.ne (CE.o1 Op1.len (CE.v 2)) (CE.k (.int 2))) (CE.or (CE.not (CE.call 40 (CEs.cons (CE.o2 Op2.at (CE.v 2) (CE.k (.int 0))) CEs.nil))) (CE.not (CE.call 40 (CEs.cons (CE.o2 Op2.at (CE.v 2) (CE.k (.int 1))) CEs.nil)))))) (CSs.cons (CS.ret (CE.k (.str "form"))) CSs.nil) CSs.nil) CSs.nil)
def L__law_forces_reason_2 : CS := (CS.for (Tg.n 2) (CI.seq (CE.v 1)) L__law_forces_reason_1)
def L__law_forces_reason_3 : CE := (CE.lc [9] (Tg.n 9) (CI.seq (CE.sl (CE.v 0) (CO.so (CE.v 3)) CO.no)) (CE.k (.bool true)) (CE.o2 Op2.at (CE.v 9) (CE.k (.int 3))))
theorem O_L__law_forces_reason_3 (T : List Fn) (call : Call) (nv : Nv) : evO T call L__law_forces_reason_3 nv = noV ((evB T call L__law_forces_reason_3).v nv) := id rfl
theorem F_L__law_forces_reason_3 (nv : Nv) (d : D) : fin L__law_forces_reason_3 nv d = .ok d := id rfl
theorem A_L__law_forces_reason_3 (T : List Fn) (call : Call) (nv : Nv) : (evB T call L__law_forces_reason_3).t nv = asT ((evB T call L__law_forces_reason_3).v nv) := id rfl
def L__law_forces_reason_4 : CSs := (CSs.cons (CS.set (Tg.t (Tgs.cons (Tg.n 5) (Tgs.cons (Tg.n 6) Tgs.nil))) (CE.o2 Op2.at (CE.v 1) (CE.v 3))) (CSs.cons (CS.set (Tg.t (Tgs.cons (Tg.n 7) (Tgs.cons (Tg.n 8) Tgs.nil))) (CE.call 32 (CEs.cons (CE.v 0) (CEs.cons (CE.v 3) CEs.nil)))) (CSs.cons (CS.set (Tg.n 4) (CE.o1 Op1.sum L__law_forces_reason_3)) (CSs.cons (CS.ite (CE.or (CE.o2 Op2.lt (CE.o2 Op2.at (CE.v 5) (CE.k (.int 0))) (CE.k (.int 0))) (CE.o2 Op2.lt (CE.o2 Op2.at (CE.v 6) (CE.k (.int 0))) (CE.k (.int 0)))) (CSs.cons (CS.ret (CE.k (.str "pull"))) CSs.nil) CSs.nil) (CSs.cons (CS.ite (CE.o2 Op2.ne (CE.call 36 (CEs.cons (CE.v 5) (CEs.cons (CE.v 6) CEs.nil))) (CE.tup (CEs.cons (CE.v 4) (CEs.cons (CE.k (.int 1)) CEs.nil)))) (CSs.cons (CS.ret (CE.k (.str "weight"))) CSs.nil) CSs.nil) (CSs.cons (CS.ite (CE.o2 Op2.ne (CE.call 36 (CEs.cons (CE.call 37 (CEs.cons (CE.v 5) (CEs.cons (CE.tup (CEs.cons (CE.v 7) (CEs.cons (CE.k (.int 1)) CEs.nil))) CEs.nil))) (CEs.cons (CE.call 37 (CEs.cons (CE.v 6) (CEs.cons (CE.tup (CEs.cons (CE.v 8) (CEs.cons (CE.k (.int 1)) CEs.nil))) CEs.nil))) CEs.nil))) (CE.call 37 (CEs.cons (CE.call 33 (CEs.cons (CE.v 0) (CEs.cons (CE.v 3) CEs.nil))) (CEs.cons (CE.tup (CEs.cons (CE.v 4) (CEs.cons (CE.k (.int 1)) CEs.nil))) CEs.nil)))) (CSs.cons (CS.ret (CE.k (.str "moment"))) CSs.nil) CSs.nil) CSs.nil))))))
def L__law_forces_reason_5 : CS := (CS.for (Tg.n 3) (CI.rng (CEs.cons (CE.o1 Op1.len (CE.v 0)) CEs.nil)) L__law_forces_reason_4)
def B__law_forces_reason : CSs := (CSs.cons (CS.ite (CE.or (CE.not (CE.o1 (Op1.isi Ty.tuple) (CE.v 1))) (CE.o2 Op2.ne (CE.o1 Op1.len (CE.v 1)) (CE.o1 Op1.len (CE.v 0)))) (CSs.cons (CS.ret (CE.k (.str "form"))) CSs.nil) CSs.nil) (CSs.cons L__law_forces_reason_2 (CSs.cons L__law_forces_reason_5 (CSs.cons (CS.ret (CE.k .none)) CSs.nil))))
def b__law_forces_reason : Fn := ⟨10, 2, [], B__law_forces_reason⟩
def B__law_reason : CSs := (CSs.cons (CS.ite (CE.or (CE.not (CE.o1 (Op1.isi Ty.tuple) (CE.v 1))) (CE.or (CE.not (CE.v 1)) (CE.or (CE.not (CE.o1 (Op1.isi Ty.str) (CE.o2 Op2.at (CE.v 1) (CE.k (.int 0))))) (CE.o2 Op2.ne (CE.o1 Op1.len (CE.v 1)) (CE.o3 Op3.get (CE.dct (CEs.cons (CE.k (.str "stands")) (CEs.cons (CE.k (.int 2)) (CEs.cons (CE.k (.str "tips")) (CEs.cons (CE.k (.int 3)) CEs.nil))))) (CE.o2 Op2.at (CE.v 1) (CE.k (.int 0))) (CE.k (.int 0))))))) (CSs.cons (CS.ret (CE.k (.str "form"))) CSs.nil) CSs.nil) (CSs.cons (CS.ite (CE.o2 Op2.eq (CE.o2 Op2.at (CE.v 1) (CE.k (.int 0))) (CE.k (.str "stands"))) (CSs.cons (CS.ret (CE.call 41 (CEs.cons (CE.v 0) (CEs.cons (CE.o2 Op2.at (CE.v 1) (CE.k (.int 1))) CEs.nil)))) CSs.nil) CSs.nil) (CSs.cons (CS.ite (CE.or (CE.not (CE.o1 (Op1.isi Ty.int) (CE.o2 Op2.at (CE.v 1) (CE.k (.int 1))))) (CE.or (CE.o1 (Op1.isi Ty.bool) (CE.o2 Op2.at (CE.v 1) (CE.k (.int 1)))) (CE.or (CE.not (CE.ch Op2.le Op2.lt (CE.k (.int 0)) (CE.o2 Op2.at (CE.v 1) (CE.k (.int 1))) (CE.o1 Op1.len (CE.v 0)))) (CE.not (CE.o1 (Op1.isi Ty.str) (CE.o2 Op2.at (CE.v 1) (CE.k (.int 2)))))))) (CSs.cons (CS.ret (CE.k (.str "form"))) CSs.nil) CSs.nil) (CSs.cons (CS.ret (CE.ite (CE.o2 Op2.eq (CE.call 34 (CEs.cons (CE.v 0) (CEs.cons (CE.o2 Op2.at (CE.v 1) (CE.k (.int 1))) CEs.nil))) (CE.o2 Op2.at (CE.v 1) (CE.k (.int 2)))) (CE.k .none) (CE.k (.str "side")))) CSs.nil))))
def b__law_reason : Fn := ⟨2, 2, [], B__law_reason⟩
def L__law_told_1 : CSs := (CSs.cons (CS.ite (CE.o2 Op2.eq (CE.v 0) (CE.k (.int 0))) (CSs.cons (CS.ret (CE.call 23 (CEs.cons (CE.v 1) CEs.nil))) CSs.nil) CSs.nil) (CSs.cons (CS.ite (CE.o2 Op2.lt (CE.v 0) (CE.k (.int 3))) (CSs.cons (CS.ret (CE.ite (CE.o2 Op2.eq (CE.v 0) (CE.k (.int 1))) (CE.call 21 (CEs.cons (CE.v 1) CEs.nil)) (CE.call 25 (CEs.cons (CE.v 1) CEs.nil)))) CSs.nil) CSs.nil) (CSs.cons (CS.ret (CE.ite (CE.o2 Op2.eq (CE.v 0) (CE.k (.int 3))) (CE.call 24 (CEs.cons (CE.v 1) (CEs.cons (CE.v 2) CEs.nil))) (CE.call 26 (CEs.cons (CE.v 1) (CEs.cons (CE.k .none) CEs.nil))))) CSs.nil)))
def L__law_told_2 : CS := (CS.try L__law_told_1 [(2, (Hx.t [(Hx.k (.str "paper")), (Hx.a 0)])), (1, (Hx.t [(Hx.k (.str "argument")), (Hx.a 0)]))])
def B__law_told : CSs := (CSs.cons L__law_told_2 CSs.nil)
def b__law_told : Fn := ⟨4, 3, [], B__law_told⟩
def B__law_bent : CSs := (CSs.cons (CS.set (Tg.n 4) (CE.call 29 (CEs.cons (CE.v 2) (CEs.cons (CE.v 3) (CEs.cons (CE.o1 Op1.len (CE.v 0)) CEs.nil))))) (CSs.cons (CS.ite (CE.o2 Op2.eq (CE.call 29 (CEs.cons (CE.v 2) (CEs.cons (CE.v 3) (CEs.cons (CE.k (.int 5)) CEs.nil)))) (CE.k (.int 0))) (CSs.cons (CS.set (Tg.n 8) (CE.lst (CEs.cons (CE.k .none) (CEs.cons (CE.sl (CE.v 1) CO.no (CO.so (CE.k (.int 1)))) (CEs.cons (CE.o2 Op2.add (CE.v 1) (CE.tup (CEs.cons (CE.k (.int 1)) CEs.nil))) (CEs.cons (CE.o2 Op2.add (CE.tup (CEs.cons (CE.k (.int 5)) CEs.nil)) (CE.sl (CE.v 1) (CO.so (CE.k (.int 1))) CO.no)) (CEs.cons (CE.o2 Op2.add (CE.tup (CEs.cons (CE.k (.str "lies")) CEs.nil)) (CE.sl (CE.v 1) (CO.so (CE.k (.int 1))) CO.no)) (CEs.cons (CE.tup (CEs.cons (CE.k (.str "tips")) (CEs.cons (CE.v 4) (CEs.cons (CE.k (.str "left")) CEs.nil)))) (CEs.cons (CE.tup (CEs.cons (CE.k (.str "tips")) (CEs.cons (CE.v 4) (CEs.cons (CE.k (.str "right")) CEs.nil)))) (CEs.cons (CE.tup (CEs.cons (CE.k (.str "tips")) (CEs.cons (CE.k (.bool true)) (CEs.cons (CE.k (.str "left")) CEs.nil)))) CEs.nil)))))))))) (CSs.cons (CS.ret (CE.call 30 (CEs.cons (CE.o2 Op2.add (CE.v 8) (CE.lst (CEs.cons (CE.tup (CEs.cons (CE.k (.str "tips")) (CEs.cons (CE.v 4) (CEs.cons (CE.k .none) CEs.nil)))) (CEs.cons (CE.tup (CEs.cons (CE.k (.str "tips")) (CEs.cons (CE.o1 Op1.len (CE.v 0)) (CEs.cons (CE.k (.str "left")) CEs.nil)))) (CEs.cons (CE.tup (CEs.cons (CE.k (.str "stands")) (CEs.cons (CE.tup CEs.nil) CEs.nil))) CEs.nil))))) (CEs.cons (CE.v 2) (CEs.cons (CE.v 3) CEs.nil))))) CSs.nil)) CSs.nil) (CSs.cons (CS.ite (CE.o2 Op2.eq (CE.o2 Op2.at (CE.v 1) (CE.k (.int 0))) (CE.k (.str "tips"))) (CSs.cons (CS.ret (CE.call 30 (CEs.cons (CE.lst (CEs.cons (CE.tup (CEs.cons (CE.k (.str "tips")) (CEs.cons (CE.v 4) (CEs.cons (CE.o2 Op2.at (CE.v 1) (CE.k (.int 2))) CEs.nil)))) (CEs.cons (CE.tup (CEs.cons (CE.k (.str "tips")) (CEs.cons (CE.o2 Op2.at (CE.v 1) (CE.k (.int 1))) (CEs.cons (CE.k (.str "left")) CEs.nil)))) (CEs.cons (CE.tup (CEs.cons (CE.k (.str "tips")) (CEs.cons (CE.o2 Op2.at (CE.v 1) (CE.k (.int 1))) (CEs.cons (CE.k (.str "right")) CEs.nil)))) (CEs.cons (CE.tup (CEs.cons (CE.k (.str "stands")) (CEs.cons (CE.o2 Op2.mul (CE.tup (CEs.cons (CE.o2 Op2.mul (CE.tup (CEs.cons (CE.tup (CEs.cons (CE.k (.int 1)) (CEs.cons (CE.k (.int 1)) CEs.nil))) CEs.nil)) (CE.k (.int 2))) CEs.nil)) (CE.o1 Op1.len (CE.v 0))) CEs.nil))) (CEs.cons (CE.tup (CEs.cons (CE.k (.str "tips")) (CEs.cons (CE.o1 Op1.neg (CE.k (.int 1))) (CEs.cons (CE.o2 Op2.at (CE.v 1) (CE.k (.int 2))) CEs.nil)))) CEs.nil)))))) (CEs.cons (CE.v 2) (CEs.cons (CE.v 3) CEs.nil))))) CSs.nil) CSs.nil) (CSs.cons (CS.set (Tg.t (Tgs.cons (Tg.n 9) (Tgs.cons (Tg.n 10) Tgs.nil))) (CE.o2 Op2.at (CE.o2 Op2.at (CE.v 1) (CE.k (.int 1))) (CE.v 4))) (CSs.cons (CS.set (Tg.n 5) (CE.call 30 (CEs.cons (CE.lst (CEs.cons (CE.tup (CEs.cons (CE.k (.int 1)) (CEs.cons (CE.k (.int 1)) CEs.nil))) (CEs.cons (CE.tup (CEs.cons (CE.k (.int 1)) (CEs.cons (CE.k (.int 2)) CEs.nil))) (CEs.cons (CE.tup (CEs.cons (CE.o1 Op1.neg (CE.k (.int 1))) (CEs.cons (CE.k (.int 1)) CEs.nil))) CEs.nil)))) (CEs.cons (CE.v 2) (CEs.cons (CE.v 3) CEs.nil))))) (CSs.cons (CS.set (Tg.n 6) (CE.call 37 (CEs.cons (CE.v 5) (CEs.cons (CE.tup (CEs.cons (CE.o1 Op1.neg (CE.k (.int 1))) (CEs.cons (CE.k (.int 1)) CEs.nil))) CEs.nil)))) (CSs.cons (CS.set (Tg.n 7) (CE.lst (CEs.cons (CE.tup (CEs.cons (CE.call 36 (CEs.cons (CE.v 9) (CEs.cons (CE.v 5) CEs.nil))) (CEs.cons (CE.call 36 (CEs.cons (CE.v 10) (CEs.cons (CE.v 6) CEs.nil))) CEs.nil))) (CEs.cons (CE.tup (CEs.cons (CE.call 36 (CEs.cons (CE.v 9) (CEs.cons (CE.v 5) CEs.nil))) (CEs.cons (CE.v 10) CEs.nil))) (CEs.cons (CE.tup (CEs.cons (CE.v 10) (CEs.cons (CE.v 9) CEs.nil))) (CEs.cons (CE.tup (CEs.cons (CE.v 9) (CEs.cons (CE.tup (CEs.cons (CE.o2 Op2.mul (CE.k (.int 2)) (CE.o2 Op2.at (CE.v 10) (CE.k (.int 0)))) (CEs.cons (CE.o2 Op2.mul (CE.k (.int 2)) (CE.o2 Op2.at (CE.v 10) (CE.k (.int 1)))) CEs.nil))) CEs.nil))) (CEs.cons (CE.tup (CEs.cons (CE.v 9) CEs.nil)) (CEs.cons (CE.k .none) (CEs.cons (CE.tup (CEs.cons (CE.o2 Op2.at (CE.v 9) (CE.k (.int 0))) (CEs.cons (CE.v 10) CEs.nil))) (CEs.cons (CE.tup (CEs.cons (CE.k (.bool true)) (CEs.cons (CE.v 10) CEs.nil))) CEs.nil)))))))))) (CSs.cons (CS.ret (CE.tup (CEs.cons (CE.k (.str "stands")) (CEs.cons (CE.o2 Op2.add (CE.o2 Op2.add (CE.sl (CE.o2 Op2.at (CE.v 1) (CE.k (.int 1))) CO.no (CO.so (CE.v 4))) (CE.tup (CEs.cons (CE.call 30 (CEs.cons (CE.v 7) (CEs.cons (CE.v 2) (CEs.cons (CE.v 3) CEs.nil)))) CEs.nil))) (CE.sl (CE.o2 Op2.at (CE.v 1) (CE.k (.int 1))) (CO.so (CE.o2 Op2.add (CE.v 4) (CE.k (.int 1)))) CO.no)) CEs.nil)))) CSs.nil))))))))
def b__law_bent : Fn := ⟨11, 4, [3], B__law_bent⟩
def L_law_1 : CE := (CE.lc [15] (Tg.n 15) (CI.rng (CEs.cons (CE.o1 Op1.len (CE.v 3)) CEs.nil)) (CE.k (.bool true)) (CE.call 33 (CEs.cons (CE.v 3) (CEs.cons (CE.v 15) CEs.nil))))
theorem O_L_law_1 (T : List Fn) (call : Call) (nv : Nv) : evO T call L_law_1 nv = noV ((evB T call L_law_1).v nv) := id rfl
theorem F_L_law_1 (nv : Nv) (d : D) : fin L_law_1 nv d = .ok d := id rfl
theorem A_L_law_1 (T : List Fn) (call : Call) (nv : Nv) : (evB T call L_law_1).t nv = asT ((evB T call L_law_1).v nv) := id rfl
def L_law_2 : CE := (CE.lc [15] (Tg.n 15) (CI.rng (CEs.cons (CE.v 14) CEs.nil)) (CE.o1 Op1.notN (CE.call 34 (CEs.cons (CE.sl (CE.v 3) CO.no (CO.so (CE.v 14))) (CEs.cons (CE.v 15) CEs.nil)))) (CE.v 15))
theorem O_L_law_2 (T : List Fn) (call : Call) (nv : Nv) : evO T call L_law_2 nv = noV ((evB T call L_law_2).v nv) := id rfl
theorem F_L_law_2 (nv : Nv) (d : D) : fin L_law_2 nv d = .ok d := id rfl
theorem A_L_law_2 (T : List Fn) (call : Call) (nv : Nv) : (evB T call L_law_2).t nv = asT ((evB T call L_law_2).v nv) := id rfl
def L_law_3 : CE := (CE.lc [14] (Tg.n 14) (CI.rng (CEs.cons (CE.k (.int 1)) (CEs.cons (CE.o2 Op2.add (CE.o1 Op1.len (CE.v 3)) (CE.k (.int 1))) CEs.nil))) L_law_2 (CE.v 14))
theorem O_L_law_3 (T : List Fn) (call : Call) (nv : Nv) : evO T call L_law_3 nv = noV ((evB T call L_law_3).v nv) := id rfl
theorem F_L_law_3 (nv : Nv) (d : D) : fin L_law_3 nv d = .ok d := id rfl
theorem A_L_law_3 (T : List Fn) (call : Call) (nv : Nv) : (evB T call L_law_3).t nv = asT ((evB T call L_law_3).v nv) := id rfl
def L_law_4 : CE := (CE.lc [15] (Tg.n 15) (CI.rng (CEs.cons (CE.o1 Op1.len (CE.v 3)) CEs.nil)) (CE.o1 Op1.notN (CE.call 34 (CEs.cons (CE.v 3) (CEs.cons (CE.v 15) CEs.nil)))) (CE.tup (CEs.cons (CE.v 15) (CEs.cons (CE.call 34 (CEs.cons (CE.v 3) (CEs.cons (CE.v 15) CEs.nil))) CEs.nil))))
theorem O_L_law_4 (T : List Fn) (call : Call) (nv : Nv) : evO T call L_law_4 nv = noV ((evB T call L_law_4).v nv) := id rfl
theorem F_L_law_4 (nv : Nv) (d : D) : fin L_law_4 nv d = .ok d := id rfl
theorem A_L_law_4 (T : List Fn) (call : Call) (nv : Nv) : (evB T call L_law_4).t nv = asT ((evB T call L_law_4).v nv) := id rfl
def L_law_5 : CSs := (CSs.cons (CS.set (Tg.n 12) (CE.ite (CE.o2 Op2.gt (CE.v 7) (CE.k (.int 0))) (CE.call 44 (CEs.cons (CE.v 3) (CEs.cons (CE.v 5) (CEs.cons (CE.v 1) (CEs.cons (CE.v 2) CEs.nil))))) (CE.v 5))) (CSs.cons (CS.set (Tg.n 13) (CE.call 42 (CEs.cons (CE.v 3) (CEs.cons (CE.v 12) CEs.nil)))) (CSs.cons (CS.ite (CE.o2 Op2.ne (CE.call 43 (CEs.cons (CE.k (.int 3)) (CEs.cons (CE.v 3) (CEs.cons (CE.v 12) CEs.nil)))) (CE.ite (CE.o1 Op1.isN (CE.v 13)) (CE.k .none) (CE.tup (CEs.cons (CE.k (.str "paper")) (CEs.cons (CE.v 13) CEs.nil))))) (CSs.cons (CS.ret (CE.k (.bool false))) CSs.nil) CSs.nil) CSs.nil)))
def L_law_6 : CS := (CS.for (Tg.n 7) (CI.rng (CEs.cons (CE.k (.int 6)) CEs.nil)) L_law_5)
def L_law_7 : CE := (CE.lc [15] (Tg.n 15) (CI.rng (CEs.cons (CE.k (.int 13)) CEs.nil)) (CE.k (.bool true)) (CE.tup (CEs.cons (CE.o2 Op2.add (CE.k (.str "n")) (CE.o1 Op1.str (CE.v 15))) (CEs.cons (CE.k (.int 0)) (CEs.cons (CE.k (.int 5)) (CEs.cons (CE.k (.int 1)) CEs.nil))))))
theorem O_L_law_7 (T : List Fn) (call : Call) (nv : Nv) : evO T call L_law_7 nv = noV ((evB T call L_law_7).v nv) := id rfl
theorem F_L_law_7 (nv : Nv) (d : D) : fin L_law_7 nv d = .ok d := id rfl
theorem A_L_law_7 (T : List Fn) (call : Call) (nv : Nv) : (evB T call L_law_7).t nv = asT ((evB T call L_law_7).v nv) := id rfl
def L_law_8 : CE := (CE.lc [16] (Tg.n 16) (CI.rng (CEs.cons (CE.k (.int 5)) CEs.nil)) (CE.k (.bool true)) (CE.call 43 (CEs.cons (CE.v 16) (CEs.cons (CE.v 11) (CEs.cons (CE.k .none) CEs.nil)))))
theorem O_L_law_8 (T : List Fn) (call : Call) (nv : Nv) : evO T call L_law_8 nv = noV ((evB T call L_law_8).v nv) := id rfl
theorem F_L_law_8 (nv : Nv) (d : D) : fin L_law_8 nv d = .ok d := id rfl
theorem A_L_law_8 (T : List Fn) (call : Call) (nv : Nv) : (evB T call L_law_8).t nv = asT ((evB T call L_law_8).v nv) := id rfl
def B_law : CSs := (CSs.cons (CS.set (Tg.n 1) (CE.call 27 (CEs.cons (CE.v 0) CEs.nil))) (CSs.cons (CS.set (Tg.n 2) (CE.lst (CEs.cons (CE.k (.int 0)) CEs.nil))) (CSs.cons (CS.set (Tg.n 3) (CE.call 31 (CEs.cons (CE.call 30 (CEs.cons (CE.lst (CEs.cons (CE.k (.int 2)) (CEs.cons (CE.k (.int 5)) (CEs.cons (CE.k (.int 12)) CEs.nil)))) (CEs.cons (CE.v 1) (CEs.cons (CE.v 2) CEs.nil)))) (CEs.cons (CE.v 1) (CEs.cons (CE.v 2) CEs.nil))))) (CSs.cons (CS.ite (CE.not (CE.call 39 (CEs.cons (CE.call 43 (CEs.cons (CE.k (.int 1)) (CEs.cons (CE.v 3) (CEs.cons (CE.k .none) CEs.nil)))) (CEs.cons (CE.o1 Op1.tuple L_law_1) CEs.nil)))) (CSs.cons (CS.ret (CE.k (.bool false))) CSs.nil) CSs.nil) (CSs.cons (CS.set (Tg.n 4) L_law_3) (CSs.cons (CS.ite (CE.not (CE.call 39 (CEs.cons (CE.call 43 (CEs.cons (CE.k (.int 2)) (CEs.cons (CE.v 3) (CEs.cons (CE.k .none) CEs.nil)))) (CEs.cons (CE.ite (CE.v 4) (CE.o2 Op2.at (CE.v 4) (CE.k (.int 0))) (CE.k .none)) CEs.nil)))) (CSs.cons (CS.ret (CE.k (.bool false))) CSs.nil) CSs.nil) (CSs.cons (CS.set (Tg.n 5) (CE.call 43 (CEs.cons (CE.k (.int 0)) (CEs.cons (CE.v 3) (CEs.cons (CE.k .none) CEs.nil))))) (CSs.cons (CS.set (Tg.n 6) L_law_4) (CSs.cons (CS.ite (CE.or (CE.and (CE.v 6) (CE.not (CE.call 39 (CEs.cons (CE.v 5) (CEs.cons (CE.o2 Op2.add (CE.tup (CEs.cons (CE.k (.str "tips")) CEs.nil)) (CE.o2 Op2.at (CE.v 6) (CE.k (.int 0)))) CEs.nil))))) (CE.and (CE.not (CE.v 6)) (CE.o2 Op2.ne (CE.o2 Op2.at (CE.v 5) (CE.k (.int 0))) (CE.k (.str "stands"))))) (CSs.cons (CS.ret (CE.k (.bool false))) CSs.nil) CSs.nil) (CSs.cons (CS.ite (CE.o1 Op1.notN (CE.call 42 (CEs.cons (CE.v 3) (CEs.cons (CE.v 5) CEs.nil)))) (CSs.cons (CS.ret (CE.k (.bool false))) CSs.nil) CSs.nil) (CSs.cons L_law_6 (CSs.cons (CS.set (Tg.n 8) (CE.tup (CEs.cons (CE.k (.str "a")) (CEs.cons (CE.k (.int 0)) (CEs.cons (CE.k (.int 5)) (CEs.cons (CE.k (.int 1)) CEs.nil)))))) (CSs.cons (CS.set (Tg.n 9) (CE.lst (CEs.cons (CE.k .none) (CEs.cons (CE.tup CEs.nil) (CEs.cons (CE.tup (CEs.cons (CE.v 8) (CEs.cons (CE.v 8) CEs.nil))) (CEs.cons (CE.tup (CEs.cons (CE.v 8) (CEs.cons (CE.tup (CEs.cons (CE.k (.str "b")) (CEs.cons (CE.k (.int 6)) (CEs.cons (CE.k (.int 5)) (CEs.cons (CE.k (.int 1)) CEs.nil))))) CEs.nil))) (CEs.cons (CE.tup (CEs.cons (CE.v 8) (CEs.cons (CE.tup (CEs.cons (CE.k (.str "b")) (CEs.cons (CE.o1 Op1.neg (CE.k (.int 6))) (CEs.cons (CE.k (.int 5)) (CEs.cons (CE.k (.int 1)) CEs.nil))))) CEs.nil))) (CEs.cons (CE.tup (CEs.cons (CE.sl (CE.v 8) CO.no (CO.so (CE.k (.int 3)))) CEs.nil)) (CEs.cons (CE.tup (CEs.cons (CE.tup (CEs.cons (CE.k (.str "a")) (CEs.cons (CE.k (.int 0)) (CEs.cons (CE.k (.int 0)) (CEs.cons (CE.k (.int 1)) CEs.nil))))) CEs.nil)) (CEs.cons (CE.tup (CEs.cons (CE.tup (CEs.cons (CE.k (.str "a")) (CEs.cons (CE.k (.int 1001)) (CEs.cons (CE.k (.int 5)) (CEs.cons (CE.k (.int 1)) CEs.nil))))) CEs.nil)) CEs.nil)))))))))) (CSs.cons (CS.set (Tg.n 9) (CE.o2 Op2.add (CE.v 9) (CE.lst (CEs.cons (CE.tup (CEs.cons (CE.tup (CEs.cons (CE.k (.str "a")) (CEs.cons (CE.k (.int 0)) (CEs.cons (CE.k (.int 1001)) (CEs.cons (CE.k (.int 1)) CEs.nil))))) CEs.nil)) (CEs.cons (CE.tup (CEs.cons (CE.tup (CEs.cons (CE.k (.str "a")) (CEs.cons (CE.k (.int 0)) (CEs.cons (CE.k (.int 5)) (CEs.cons (CE.k (.int 0)) CEs.nil))))) CEs.nil)) (CEs.cons (CE.tup (CEs.cons (CE.tup (CEs.cons (CE.k (.int 5)) (CEs.cons (CE.k (.int 0)) (CEs.cons (CE.k (.int 5)) (CEs.cons (CE.k (.int 1)) CEs.nil))))) CEs.nil)) (CEs.cons (CE.tup (CEs.cons (CE.tup (CEs.cons (CE.k (.str "a")) (CEs.cons (CE.k (.bool true)) (CEs.cons (CE.k (.int 5)) (CEs.cons (CE.k (.int 1)) CEs.nil))))) CEs.nil)) CEs.nil))))))) (CSs.cons (CS.set (Tg.n 10) (CE.o1 Op1.tuple L_law_7)) (CSs.cons (CS.set (Tg.n 11) (CE.call 30 (CEs.cons (CE.o2 Op2.add (CE.v 9) (CE.lst (CEs.cons (CE.v 10) (CEs.cons (CE.k (.str "tower")) (CEs.cons (CE.tup (CEs.cons (CE.tup (CEs.cons (CE.k (.str "a")) (CEs.cons (CE.k (.int 0)) (CEs.cons (CE.k (.int 5)) (CEs.cons (CE.k (.int 1000001)) CEs.nil))))) CEs.nil)) CEs.nil))))) (CEs.cons (CE.v 1) (CEs.cons (CE.v 2) CEs.nil))))) (CSs.cons (CS.ret (CE.o2 Op2.eq L_law_8 (CE.o2 Op2.mul (CE.lst (CEs.cons (CE.tup (CEs.cons (CE.k (.str "argument")) (CEs.cons (CE.k (.str "tower")) CEs.nil))) CEs.nil)) (CE.k (.int 5))))) CSs.nil)))))))))))))))))
def b_law : Fn := ⟨17, 1, [], B_law⟩
def T : List Fn := [b_is_integer, b_in_range, b_same_value, b_divisor, b_fraction_of, b_whole, b_add, b_negative, b_subtract, b_multiply, b_divide, b_is_less, b_is_fraction, b_are_fractions, b_are_blocks, b_contact, b_demand_tower, b_weight_from, b_moment_from, b_centre_from, b_side_of, b_centres, b_pressure, b_stands, b_accept_stands, b_raised, b_room, b__law_draws, b__law_more, b__law_take, b__law_one, b__law_tower, b__law_contact, b__law_centre, b__law_side, b__law_least_terms, b__law_plus, b__law_times, b__law_below, b__law_same_as, b__law_is_fraction, b__law_forces_reason, b__law_reason, b__law_told, b__law_bent, b_law]
theorem r_is_integer (m : Nat) (d0 : D) : SF.run T sub 100 (m + 1) 0 [d0] = (SF.exs T (SF.run T sub 100 m) sub 100 B_is_integer [.val d0]).bind (endR []) := run_at _ (fn := b_is_integer) rfl rfl
theorem k_is_integer (call : Call) (es : CEs) (ds : List D) (nv : Nv) : callFn T call 0 es ds nv = callA0 (call 0 ds) (lentG [] nv 0 es) nv := callFn_0 (fn := b_is_integer) rfl rfl
theorem r_in_range (m : Nat) (d0 d1 d2 : D) : SF.run T sub 100 (m + 2) 1 [d0, d1, d2] = (SF.exs T (SF.run T sub 100 (m + 1)) sub 100 B_in_range [.val d0, .val d1, .val d2]).bind (endR []) := run_at _ (fn := b_in_range) rfl rfl
theorem k_in_range (call : Call) (es : CEs) (ds : List D) (nv : Nv) : callFn T call 1 es ds nv = callA0 (call 1 ds) (lentG [] nv 0 es) nv := callFn_0 (fn := b_in_range) rfl rfl
theorem r_same_value (m : Nat) (d0 d1 : D) : SF.run T sub 100 (m + 1) 2 [d0, d1] = (SF.exs T (SF.run T sub 100 m) sub 100 B_same_value [.val d0, .val d1, .emp, .emp]).bind (endR []) := run_at _ (fn := b_same_value) rfl rfl
theorem k_same_value (call : Call) (es : CEs) (ds : List D) (nv : Nv) : callFn T call 2 es ds nv = callA0 (call 2 ds) (lentG [] nv 0 es) nv := callFn_0 (fn := b_same_value) rfl rfl
theorem r_divisor (m : Nat) (d0 d1 : D) : SF.run T sub 100 (m + 1) 3 [d0, d1] = (SF.exs T (SF.run T sub 100 m) sub 100 B_divisor [.val d0, .val d1]).bind (endR []) := run_at _ (fn := b_divisor) rfl rfl
theorem k_divisor (call : Call) (es : CEs) (ds : List D) (nv : Nv) : callFn T call 3 es ds nv = callA0 (call 3 ds) (lentG [] nv 0 es) nv := callFn_0 (fn := b_divisor) rfl rfl
theorem r_fraction_of (m : Nat) (d0 d1 : D) : SF.run T sub 100 (m + 2) 4 [d0, d1] = (SF.exs T (SF.run T sub 100 (m + 1)) sub 100 B_fraction_of [.val d0, .val d1, .emp]).bind (endR []) := run_at _ (fn := b_fraction_of) rfl rfl
theorem k_fraction_of (call : Call) (es : CEs) (ds : List D) (nv : Nv) : callFn T call 4 es ds nv = callA0 (call 4 ds) (lentG [] nv 0 es) nv := callFn_0 (fn := b_fraction_of) rfl rfl
theorem r_whole (m : Nat) (d0 : D) : SF.run T sub 100 (m + 1) 5 [d0] = (SF.exs T (SF.run T sub 100 m) sub 100 B_whole [.val d0]).bind (endR []) := run_at _ (fn := b_whole) rfl rfl
theorem k_whole (call : Call) (es : CEs) (ds : List D) (nv : Nv) : callFn T call 5 es ds nv = callA0 (call 5 ds) (lentG [] nv 0 es) nv := callFn_0 (fn := b_whole) rfl rfl
theorem r_add (m : Nat) (d0 d1 : D) : SF.run T sub 100 (m + 3) 6 [d0, d1] = (SF.exs T (SF.run T sub 100 (m + 2)) sub 100 B_add [.val d0, .val d1]).bind (endR []) := run_at _ (fn := b_add) rfl rfl
theorem k_add (call : Call) (es : CEs) (ds : List D) (nv : Nv) : callFn T call 6 es ds nv = callA0 (call 6 ds) (lentG [] nv 0 es) nv := callFn_0 (fn := b_add) rfl rfl
theorem r_negative (m : Nat) (d0 : D) : SF.run T sub 100 (m + 1) 7 [d0] = (SF.exs T (SF.run T sub 100 m) sub 100 B_negative [.val d0]).bind (endR []) := run_at _ (fn := b_negative) rfl rfl
theorem k_negative (call : Call) (es : CEs) (ds : List D) (nv : Nv) : callFn T call 7 es ds nv = callA0 (call 7 ds) (lentG [] nv 0 es) nv := callFn_0 (fn := b_negative) rfl rfl
theorem r_subtract (m : Nat) (d0 d1 : D) : SF.run T sub 100 (m + 4) 8 [d0, d1] = (SF.exs T (SF.run T sub 100 (m + 3)) sub 100 B_subtract [.val d0, .val d1]).bind (endR []) := run_at _ (fn := b_subtract) rfl rfl
theorem k_subtract (call : Call) (es : CEs) (ds : List D) (nv : Nv) : callFn T call 8 es ds nv = callA0 (call 8 ds) (lentG [] nv 0 es) nv := callFn_0 (fn := b_subtract) rfl rfl
theorem r_multiply (m : Nat) (d0 d1 : D) : SF.run T sub 100 (m + 3) 9 [d0, d1] = (SF.exs T (SF.run T sub 100 (m + 2)) sub 100 B_multiply [.val d0, .val d1]).bind (endR []) := run_at _ (fn := b_multiply) rfl rfl
theorem k_multiply (call : Call) (es : CEs) (ds : List D) (nv : Nv) : callFn T call 9 es ds nv = callA0 (call 9 ds) (lentG [] nv 0 es) nv := callFn_0 (fn := b_multiply) rfl rfl
theorem r_divide (m : Nat) (d0 d1 : D) : SF.run T sub 100 (m + 3) 10 [d0, d1] = (SF.exs T (SF.run T sub 100 (m + 2)) sub 100 B_divide [.val d0, .val d1]).bind (endR []) := run_at _ (fn := b_divide) rfl rfl
theorem k_divide (call : Call) (es : CEs) (ds : List D) (nv : Nv) : callFn T call 10 es ds nv = callA0 (call 10 ds) (lentG [] nv 0 es) nv := callFn_0 (fn := b_divide) rfl rfl
theorem r_is_less (m : Nat) (d0 d1 : D) : SF.run T sub 100 (m + 1) 11 [d0, d1] = (SF.exs T (SF.run T sub 100 m) sub 100 B_is_less [.val d0, .val d1]).bind (endR []) := run_at _ (fn := b_is_less) rfl rfl
theorem k_is_less (call : Call) (es : CEs) (ds : List D) (nv : Nv) : callFn T call 11 es ds nv = callA0 (call 11 ds) (lentG [] nv 0 es) nv := callFn_0 (fn := b_is_less) rfl rfl
theorem r_is_fraction (m : Nat) (d0 : D) : SF.run T sub 100 (m + 2) 12 [d0] = (SF.exs T (SF.run T sub 100 (m + 1)) sub 100 B_is_fraction [.val d0]).bind (endR []) := run_at _ (fn := b_is_fraction) rfl rfl
theorem k_is_fraction (call : Call) (es : CEs) (ds : List D) (nv : Nv) : callFn T call 12 es ds nv = callA0 (call 12 ds) (lentG [] nv 0 es) nv := callFn_0 (fn := b_is_fraction) rfl rfl
theorem r_are_fractions (m : Nat) (d0 d1 : D) : SF.run T sub 100 (m + 3) 13 [d0, d1] = (SF.exs T (SF.run T sub 100 (m + 2)) sub 100 B_are_fractions [.val d0, .val d1, .emp]).bind (endR []) := run_at _ (fn := b_are_fractions) rfl rfl
theorem k_are_fractions (call : Call) (es : CEs) (ds : List D) (nv : Nv) : callFn T call 13 es ds nv = callA0 (call 13 ds) (lentG [] nv 0 es) nv := callFn_0 (fn := b_are_fractions) rfl rfl
theorem r_are_blocks (m : Nat) (d0 d1 : D) : SF.run T sub 100 (m + 3) 14 [d0, d1] = (SF.exs T (SF.run T sub 100 (m + 2)) sub 100 B_are_blocks [.val d0, .val d1, .emp, .emp, .emp, .emp]).bind (endR []) := run_at _ (fn := b_are_blocks) rfl rfl
theorem k_are_blocks (call : Call) (es : CEs) (ds : List D) (nv : Nv) : callFn T call 14 es ds nv = callA0 (call 14 ds) (lentG [] nv 0 es) nv := callFn_0 (fn := b_are_blocks) rfl rfl
theorem r_contact (m : Nat) (d0 d1 : D) : SF.run T sub 100 (m + 1) 15 [d0, d1] = (SF.exs T (SF.run T sub 100 m) sub 100 B_contact [.val d0, .val d1, .emp, .emp, .emp]).bind (endR []) := run_at _ (fn := b_contact) rfl rfl
theorem k_contact (call : Call) (es : CEs) (ds : List D) (nv : Nv) : callFn T call 15 es ds nv = callA0 (call 15 ds) (lentG [] nv 0 es) nv := callFn_0 (fn := b_contact) rfl rfl
theorem r_demand_tower (m : Nat) (d0 : D) : SF.run T sub 100 (m + 4) 16 [d0] = (SF.exs T (SF.run T sub 100 (m + 3)) sub 100 B_demand_tower [.val d0, .emp, .emp, .emp]).bind (endR []) := run_at _ (fn := b_demand_tower) rfl rfl
theorem k_demand_tower (call : Call) (es : CEs) (ds : List D) (nv : Nv) : callFn T call 16 es ds nv = callA0 (call 16 ds) (lentG [] nv 0 es) nv := callFn_0 (fn := b_demand_tower) rfl rfl
theorem r_weight_from (m : Nat) (d0 d1 : D) : SF.run T sub 100 (m + 1) 17 [d0, d1] = (SF.exs T (SF.run T sub 100 m) sub 100 B_weight_from [.val d0, .val d1, .emp]).bind (endR []) := run_at _ (fn := b_weight_from) rfl rfl
theorem k_weight_from (call : Call) (es : CEs) (ds : List D) (nv : Nv) : callFn T call 17 es ds nv = callA0 (call 17 ds) (lentG [] nv 0 es) nv := callFn_0 (fn := b_weight_from) rfl rfl
theorem r_moment_from (m : Nat) (d0 d1 : D) : SF.run T sub 100 (m + 1) 18 [d0, d1] = (SF.exs T (SF.run T sub 100 m) sub 100 B_moment_from [.val d0, .val d1, .emp]).bind (endR []) := run_at _ (fn := b_moment_from) rfl rfl
theorem k_moment_from (call : Call) (es : CEs) (ds : List D) (nv : Nv) : callFn T call 18 es ds nv = callA0 (call 18 ds) (lentG [] nv 0 es) nv := callFn_0 (fn := b_moment_from) rfl rfl
theorem r_centre_from (m : Nat) (d0 d1 : D) : SF.run T sub 100 (m + 3) 19 [d0, d1] = (SF.exs T (SF.run T sub 100 (m + 2)) sub 100 B_centre_from [.val d0, .val d1]).bind (endR []) := run_at _ (fn := b_centre_from) rfl rfl
theorem k_centre_from (call : Call) (es : CEs) (ds : List D) (nv : Nv) : callFn T call 19 es ds nv = callA0 (call 19 ds) (lentG [] nv 0 es) nv := callFn_0 (fn := b_centre_from) rfl rfl
theorem r_side_of (m : Nat) (d0 d1 : D) : SF.run T sub 100 (m + 4) 20 [d0, d1] = (SF.exs T (SF.run T sub 100 (m + 3)) sub 100 B_side_of [.val d0, .val d1, .emp, .emp, .emp]).bind (endR []) := run_at _ (fn := b_side_of) rfl rfl
theorem k_side_of (call : Call) (es : CEs) (ds : List D) (nv : Nv) : callFn T call 20 es ds nv = callA0 (call 20 ds) (lentG [] nv 0 es) nv := callFn_0 (fn := b_side_of) rfl rfl
theorem r_centres (m : Nat) (d0 : D) : SF.run T sub 100 (m + 5) 21 [d0] = (SF.exs T (SF.run T sub 100 (m + 4)) sub 100 B_centres [.val d0, .emp]).bind (endR []) := run_at _ (fn := b_centres) rfl rfl
theorem k_centres (call : Call) (es : CEs) (ds : List D) (nv : Nv) : callFn T call 21 es ds nv = callA0 (call 21 ds) (lentG [] nv 0 es) nv := callFn_0 (fn := b_centres) rfl rfl
theorem r_pressure (m : Nat) (d0 d1 : D) : SF.run T sub 100 (m + 5) 22 [d0, d1] = (SF.exs T (SF.run T sub 100 (m + 4)) sub 100 B_pressure [.val d0, .val d1, .emp, .emp, .emp, .emp]).bind (endR []) := run_at _ (fn := b_pressure) rfl rfl
theorem k_pressure (call : Call) (es : CEs) (ds : List D) (nv : Nv) : callFn T call 22 es ds nv = callA0 (call 22 ds) (lentG [] nv 0 es) nv := callFn_0 (fn := b_pressure) rfl rfl
theorem r_stands (m : Nat) (d0 : D) : SF.run T sub 100 (m + 6) 23 [d0] = (SF.exs T (SF.run T sub 100 (m + 5)) sub 100 B_stands [.val d0, .emp, .emp]).bind (endR []) := run_at _ (fn := b_stands) rfl rfl
theorem k_stands (call : Call) (es : CEs) (ds : List D) (nv : Nv) : callFn T call 23 es ds nv = callA0 (call 23 ds) (lentG [] nv 0 es) nv := callFn_0 (fn := b_stands) rfl rfl
theorem r_accept_stands (m : Nat) (d0 d1 : D) : SF.run T sub 100 (m + 5) 24 [d0, d1] = (SF.exs T (SF.run T sub 100 (m + 4)) sub 100 B_accept_stands [.val d0, .val d1, .emp, .emp, .emp, .emp, .emp, .emp]).bind (endR []) := run_at _ (fn := b_accept_stands) rfl rfl
theorem k_accept_stands (call : Call) (es : CEs) (ds : List D) (nv : Nv) : callFn T call 24 es ds nv = callA0 (call 24 ds) (lentG [] nv 0 es) nv := callFn_0 (fn := b_accept_stands) rfl rfl
theorem r_raised (m : Nat) (d0 : D) : SF.run T sub 100 (m + 5) 25 [d0] = (SF.exs T (SF.run T sub 100 (m + 4)) sub 100 B_raised [.val d0, .emp, .emp]).bind (endR []) := run_at _ (fn := b_raised) rfl rfl
theorem k_raised (call : Call) (es : CEs) (ds : List D) (nv : Nv) : callFn T call 25 es ds nv = callA0 (call 25 ds) (lentG [] nv 0 es) nv := callFn_0 (fn := b_raised) rfl rfl
theorem r_room (m : Nat) (d0 d1 : D) : SF.run T sub 100 (m + 5) 26 [d0, d1] = (SF.exs T (SF.run T sub 100 (m + 4)) sub 100 B_room [.val d0, .val d1, .emp, .emp, .emp, .emp, .emp, .emp, .emp, .emp, .emp, .emp]).bind (endR []) := run_at _ (fn := b_room) rfl rfl
theorem k_room (call : Call) (es : CEs) (ds : List D) (nv : Nv) : callFn T call 26 es ds nv = callA0 (call 26 ds) (lentG [] nv 0 es) nv := callFn_0 (fn := b_room) rfl rfl
theorem r__law_draws (m : Nat) (d0 : D) : SF.run T sub 100 (m + 1) 27 [d0] = (SF.exs T (SF.run T sub 100 m) sub 100 B__law_draws [.val d0, .emp, .emp, .emp, .emp, .emp]).bind (endR []) := run_at _ (fn := b__law_draws) rfl rfl
theorem k__law_draws (call : Call) (es : CEs) (ds : List D) (nv : Nv) : callFn T call 27 es ds nv = callA0 (call 27 ds) (lentG [] nv 0 es) nv := callFn_0 (fn := b__law_draws) rfl rfl
theorem r__law_more (m : Nat) (d0 d1 : D) : SF.run T sub 100 (m + 1) 28 [d0, d1] = (SF.exs T (SF.run T sub 100 m) sub 100 B__law_more [.val d0, .val d1, .emp, .emp]).bind (endR []) := run_at _ (fn := b__law_more) rfl rfl
theorem k__law_more (call : Call) (es : CEs) (ds : List D) (nv : Nv) : callFn T call 28 es ds nv = callA0 (call 28 ds) (lentG [] nv 0 es) nv := callFn_0 (fn := b__law_more) rfl rfl
theorem r__law_take (m : Nat) (d0 d1 d2 : D) : SF.run T sub 100 (m + 2) 29 [d0, d1, d2] = (SF.exs T (SF.run T sub 100 (m + 1)) sub 100 B__law_take [.val d0, .io d1, .val d2, .emp]).bind (endR [1]) := run_at _ (fn := b__law_take) rfl rfl
theorem k__law_take (call : Call) (es : CEs) (ds : List D) (nv : Nv) : callFn T call 29 es ds nv = callA1 (call 29 ds) (nameAt es 1) (lentG [1] nv 0 es) nv := callFn_1 (fn := b__law_take) rfl rfl
theorem r__law_one (m : Nat) (d0 d1 d2 : D) : SF.run T sub 100 (m + 3) 30 [d0, d1, d2] = (SF.exs T (SF.run T sub 100 (m + 2)) sub 100 B__law_one [.val d0, .val d1, .io d2]).bind (endR [2]) := run_at _ (fn := b__law_one) rfl rfl
theorem k__law_one (call : Call) (es : CEs) (ds : List D) (nv : Nv) : callFn T call 30 es ds nv = callA1 (call 30 ds) (nameAt es 2) (lentG [2] nv 0 es) nv := callFn_1 (fn := b__law_one) rfl rfl
theorem r__law_tower (m : Nat) (d0 d1 d2 : D) : SF.run T sub 100 (m + 4) 31 [d0, d1, d2] = (SF.exs T (SF.run T sub 100 (m + 3)) sub 100 B__law_tower [.val d0, .val d1, .io d2, .emp, .emp, .emp, .emp, .emp, .emp, .emp, .emp, .emp, .emp]).bind (endR [2]) := run_at _ (fn := b__law_tower) rfl rfl
theorem k__law_tower (call : Call) (es : CEs) (ds : List D) (nv : Nv) : callFn T call 31 es ds nv = callA1 (call 31 ds) (nameAt es 2) (lentG [2] nv 0 es) nv := callFn_1 (fn := b__law_tower) rfl rfl
theorem r__law_contact (m : Nat) (d0 d1 : D) : SF.run T sub 100 (m + 1) 32 [d0, d1] = (SF.exs T (SF.run T sub 100 m) sub 100 B__law_contact [.val d0, .val d1, .emp, .emp, .emp, .emp, .emp]).bind (endR []) := run_at _ (fn := b__law_contact) rfl rfl
theorem k__law_contact (call : Call) (es : CEs) (ds : List D) (nv : Nv) : callFn T call 32 es ds nv = callA0 (call 32 ds) (lentG [] nv 0 es) nv := callFn_0 (fn := b__law_contact) rfl rfl
theorem r__law_centre (m : Nat) (d0 d1 : D) : SF.run T sub 100 (m + 2) 33 [d0, d1] = (SF.exs T (SF.run T sub 100 (m + 1)) sub 100 B__law_centre [.val d0, .val d1, .emp, .emp]).bind (endR []) := run_at _ (fn := b__law_centre) rfl rfl
theorem k__law_centre (call : Call) (es : CEs) (ds : List D) (nv : Nv) : callFn T call 33 es ds nv = callA0 (call 33 ds) (lentG [] nv 0 es) nv := callFn_0 (fn := b__law_centre) rfl rfl
theorem r__law_side (m : Nat) (d0 d1 : D) : SF.run T sub 100 (m + 3) 34 [d0, d1] = (SF.exs T (SF.run T sub 100 (m + 2)) sub 100 B__law_side [.val d0, .val d1, .emp, .emp, .emp]).bind (endR []) := run_at _ (fn := b__law_side) rfl rfl
theorem k__law_side (call : Call) (es : CEs) (ds : List D) (nv : Nv) : callFn T call 34 es ds nv = callA0 (call 34 ds) (lentG [] nv 0 es) nv := callFn_0 (fn := b__law_side) rfl rfl
theorem r__law_least_terms (m : Nat) (d0 d1 : D) : SF.run T sub 100 (m + 1) 35 [d0, d1] = (SF.exs T (SF.run T sub 100 m) sub 100 B__law_least_terms [.val d0, .val d1, .emp, .emp]).bind (endR []) := run_at _ (fn := b__law_least_terms) rfl rfl
theorem k__law_least_terms (call : Call) (es : CEs) (ds : List D) (nv : Nv) : callFn T call 35 es ds nv = callA0 (call 35 ds) (lentG [] nv 0 es) nv := callFn_0 (fn := b__law_least_terms) rfl rfl
theorem r__law_plus (m : Nat) (d0 d1 : D) : SF.run T sub 100 (m + 2) 36 [d0, d1] = (SF.exs T (SF.run T sub 100 (m + 1)) sub 100 B__law_plus [.val d0, .val d1]).bind (endR []) := run_at _ (fn := b__law_plus) rfl rfl
theorem k__law_plus (call : Call) (es : CEs) (ds : List D) (nv : Nv) : callFn T call 36 es ds nv = callA0 (call 36 ds) (lentG [] nv 0 es) nv := callFn_0 (fn := b__law_plus) rfl rfl
theorem r__law_times (m : Nat) (d0 d1 : D) : SF.run T sub 100 (m + 2) 37 [d0, d1] = (SF.exs T (SF.run T sub 100 (m + 1)) sub 100 B__law_times [.val d0, .val d1]).bind (endR []) := run_at _ (fn := b__law_times) rfl rfl
theorem k__law_times (call : Call) (es : CEs) (ds : List D) (nv : Nv) : callFn T call 37 es ds nv = callA0 (call 37 ds) (lentG [] nv 0 es) nv := callFn_0 (fn := b__law_times) rfl rfl
theorem r__law_below (m : Nat) (d0 d1 : D) : SF.run T sub 100 (m + 1) 38 [d0, d1] = (SF.exs T (SF.run T sub 100 m) sub 100 B__law_below [.val d0, .val d1]).bind (endR []) := run_at _ (fn := b__law_below) rfl rfl
theorem k__law_below (call : Call) (es : CEs) (ds : List D) (nv : Nv) : callFn T call 38 es ds nv = callA0 (call 38 ds) (lentG [] nv 0 es) nv := callFn_0 (fn := b__law_below) rfl rfl
theorem r__law_same_as (m : Nat) (d0 d1 : D) : SF.run T sub 100 (m + 1) 39 [d0, d1] = (SF.exs T (SF.run T sub 100 m) sub 100 B__law_same_as [.val d0, .val d1]).bind (endR []) := run_at _ (fn := b__law_same_as) rfl rfl
theorem k__law_same_as (call : Call) (es : CEs) (ds : List D) (nv : Nv) : callFn T call 39 es ds nv = callA0 (call 39 ds) (lentG [] nv 0 es) nv := callFn_0 (fn := b__law_same_as) rfl rfl
theorem r__law_is_fraction (m : Nat) (d0 : D) : SF.run T sub 100 (m + 2) 40 [d0] = (SF.exs T (SF.run T sub 100 (m + 1)) sub 100 B__law_is_fraction [.val d0, .emp]).bind (endR []) := run_at _ (fn := b__law_is_fraction) rfl rfl
theorem k__law_is_fraction (call : Call) (es : CEs) (ds : List D) (nv : Nv) : callFn T call 40 es ds nv = callA0 (call 40 ds) (lentG [] nv 0 es) nv := callFn_0 (fn := b__law_is_fraction) rfl rfl
theorem r__law_forces_reason (m : Nat) (d0 d1 : D) : SF.run T sub 100 (m + 3) 41 [d0, d1] = (SF.exs T (SF.run T sub 100 (m + 2)) sub 100 B__law_forces_reason [.val d0, .val d1, .emp, .emp, .emp, .emp, .emp, .emp, .emp, .emp]).bind (endR []) := run_at _ (fn := b__law_forces_reason) rfl rfl
theorem k__law_forces_reason (call : Call) (es : CEs) (ds : List D) (nv : Nv) : callFn T call 41 es ds nv = callA0 (call 41 ds) (lentG [] nv 0 es) nv := callFn_0 (fn := b__law_forces_reason) rfl rfl
theorem r__law_reason (m : Nat) (d0 d1 : D) : SF.run T sub 100 (m + 4) 42 [d0, d1] = (SF.exs T (SF.run T sub 100 (m + 3)) sub 100 B__law_reason [.val d0, .val d1]).bind (endR []) := run_at _ (fn := b__law_reason) rfl rfl
theorem k__law_reason (call : Call) (es : CEs) (ds : List D) (nv : Nv) : callFn T call 42 es ds nv = callA0 (call 42 ds) (lentG [] nv 0 es) nv := callFn_0 (fn := b__law_reason) rfl rfl
theorem r__law_told (m : Nat) (d0 d1 d2 : D) : SF.run T sub 100 (m + 7) 43 [d0, d1, d2] = (SF.exs T (SF.run T sub 100 (m + 6)) sub 100 B__law_told [.val d0, .val d1, .val d2, .emp]).bind (endR []) := run_at _ (fn := b__law_told) rfl rfl
theorem k__law_told (call : Call) (es : CEs) (ds : List D) (nv : Nv) : callFn T call 43 es ds nv = callA0 (call 43 ds) (lentG [] nv 0 es) nv := callFn_0 (fn := b__law_told) rfl rfl
theorem r__law_bent (m : Nat) (d0 d1 d2 d3 : D) : SF.run T sub 100 (m + 4) 44 [d0, d1, d2, d3] = (SF.exs T (SF.run T sub 100 (m + 3)) sub 100 B__law_bent [.val d0, .val d1, .val d2, .io d3, .emp, .emp, .emp, .emp, .emp, .emp, .emp]).bind (endR [3]) := run_at _ (fn := b__law_bent) rfl rfl
theorem k__law_bent (call : Call) (es : CEs) (ds : List D) (nv : Nv) : callFn T call 44 es ds nv = callA1 (call 44 ds) (nameAt es 3) (lentG [3] nv 0 es) nv := callFn_1 (fn := b__law_bent) rfl rfl
theorem r_law (m : Nat) (d0 : D) : SF.run T sub 100 (m + 8) 45 [d0] = (SF.exs T (SF.run T sub 100 (m + 7)) sub 100 B_law [.val d0, .emp, .emp, .emp, .emp, .emp, .emp, .emp, .emp, .emp, .emp, .emp, .emp, .emp, .emp, .emp, .emp]).bind (endR []) := run_at _ (fn := b_law) rfl rfl
theorem k_law (call : Call) (es : CEs) (ds : List D) (nv : Nv) : callFn T call 45 es ds nv = callA0 (call 45 ds) (lentG [] nv 0 es) nv := callFn_0 (fn := b_law) rfl rfl
def kx0 := And.intro (And.intro (And.intro (And.intro (And.intro (@k_is_integer) (@k_in_range)) (And.intro (@k_same_value) (And.intro (@k_divisor) (@k_fraction_of)))) (And.intro (And.intro (@k_whole) (@k_add)) (And.intro (@k_negative) (And.intro (@k_subtract) (@k_multiply))))) (And.intro (And.intro (And.intro (@k_divide) (@k_is_less)) (And.intro (@k_is_fraction) (And.intro (@k_are_fractions) (@k_are_blocks)))) (And.intro (And.intro (@k_contact) (@k_demand_tower)) (And.intro (@k_weight_from) (And.intro (@k_moment_from) (@k_centre_from)))))) (And.intro (And.intro (And.intro (And.intro (@k_side_of) (@k_centres)) (And.intro (@k_pressure) (And.intro (@k_stands) (@k_accept_stands)))) (And.intro (And.intro (@k_raised) (@k_room)) (And.intro (@k__law_draws) (And.intro (@k__law_more) (@k__law_take))))) (And.intro (And.intro (And.intro (@k__law_one) (@k__law_tower)) (And.intro (@k__law_contact) (And.intro (@k__law_centre) (@k__law_side)))) (And.intro (And.intro (@k__law_least_terms) (@k__law_plus)) (And.intro (@k__law_times) (And.intro (@k__law_below) (@k__law_same_as))))))
def kx1 := And.intro (And.intro (And.intro (And.intro (And.intro (@k__law_is_fraction) (@k__law_forces_reason)) (And.intro (@k__law_reason) (And.intro (@k__law_told) (@k__law_bent)))) (And.intro (And.intro (@k_law) (@O_L_same_value_1)) (And.intro (@F_L_same_value_1) (And.intro (@A_L_same_value_1) (@O_L_are_fractions_1))))) (And.intro (And.intro (And.intro (@F_L_are_fractions_1) (@A_L_are_fractions_1)) (And.intro (@O_L_are_blocks_1) (And.intro (@F_L_are_blocks_1) (@A_L_are_blocks_1)))) (And.intro (And.intro (@O_L_are_blocks_4) (@F_L_are_blocks_4)) (And.intro (@A_L_are_blocks_4) (And.intro (@O_L_weight_from_1) (@F_L_weight_from_1)))))) (And.intro (And.intro (And.intro (And.intro (@A_L_weight_from_1) (@O_L_moment_from_1)) (And.intro (@F_L_moment_from_1) (And.intro (@A_L_moment_from_1) (@O_L_centres_1)))) (And.intro (And.intro (@F_L_centres_1) (@A_L_centres_1)) (And.intro (@O_L_stands_3) (And.intro (@F_L_stands_3) (@A_L_stands_3))))) (And.intro (And.intro (And.intro (@O_L_accept_stands_1) (@F_L_accept_stands_1)) (And.intro (@A_L_accept_stands_1) (And.intro (@O_L_raised_1) (@F_L_raised_1)))) (And.intro (And.intro (@A_L_raised_1) (@O_L_room_1)) (And.intro (@F_L_room_1) (And.intro (@A_L_room_1) (@O_L__law_centre_1))))))
def kx2 := And.intro (And.intro (And.intro (And.intro (@F_L__law_centre_1) (And.intro (@A_L__law_centre_1) (@O_L__law_centre_2))) (And.intro (And.intro (@F_L__law_centre_2) (@A_L__law_centre_2)) (And.intro (@O_L__law_is_fraction_1) (@F_L__law_is_fraction_1)))) (And.intro (And.intro (@A_L__law_is_fraction_1) (And.intro (@O_L__law_forces_reason_3) (@F_L__law_forces_reason_3))) (And.intro (And.intro (@A_L__law_forces_reason_3) (@O_L_law_1)) (And.intro (@F_L_law_1) (@A_L_law_1))))) (And.intro (And.intro (And.intro (@O_L_law_2) (And.intro (@F_L_law_2) (@A_L_law_2))) (And.intro (And.intro (@O_L_law_3) (@F_L_law_3)) (And.intro (@A_L_law_3) (@O_L_law_4)))) (And.intro (And.intro (And.intro (@F_L_law_4) (@A_L_law_4)) (And.intro (@O_L_law_7) (@F_L_law_7))) (And.intro (And.intro (@A_L_law_7) (@O_L_law_8)) (And.intro (@F_L_law_8) (@A_L_law_8)))))
theorem hT : L.all = some T := by kernel_rfl
theorem is_integer_ok (m : Nat) (d : D) : SF.run T sub 100 (m + 1) 0 [d] = .ok ⟨.bool (isTy .int d && !isTy .bool d), false, []⟩ := by
  rw [r_is_integer]; simp only [B_is_integer, sx0, sx1, sx2, sx3, sx4, sx5, sx6, sx7, nm1, List.contains_nil, List.contains_cons, List.all_nil, List.all_cons, List.isEmpty_nil, List.isEmpty_cons, List.map_cons, List.map_nil, Bool.decide_eq_true, Bool.and_true, Bool.true_and, Bool.and_false, Bool.false_and, Bool.or_true, Bool.true_or, Bool.or_false, Bool.false_or, Bool.not_true, Bool.not_false, Bool.false_eq_true, Bool.not_eq_true', decide_true, decide_false, if_true, if_false, decide_eq_true_eq, decide_eq_false_iff_not, Int.cast_ofNat_Int, true_and, false_and, and_true, and_false, not_true_eq_false, not_false_eq_true, Int.reduceAdd, Int.reduceSub, Int.reduceMul, Int.reduceLT, Int.reduceLE, Int.reduceEq, Int.reduceNe, List.length_cons, List.length_nil, ↓reduceIte, Nat.reduceAdd, Nat.reduceBEq, Nat.reduceEqDiff, Nat.reduceLeDiff, Int.reduceNeg, reduceCtorEq]
theorem in_range_i (m : Nat) (x a b : Int) : SF.run T sub 100 (m + 2) 1 [.int x, .int a, .int b] = .ok ⟨.bool (decide (a ≤ x) && decide (x ≤ b)), false, []⟩ := by
  rw [r_in_range]; simp only [B_in_range, is_integer_ok, kx0, kx1, kx2, sx0, sx1, sx2, sx3, sx4, sx5, sx6, sx7, nm1, List.contains_nil, List.contains_cons, List.all_nil, List.all_cons, List.isEmpty_nil, List.isEmpty_cons, List.map_cons, List.map_nil, Bool.decide_eq_true, Bool.and_true, Bool.true_and, Bool.and_false, Bool.false_and, Bool.or_true, Bool.true_or, Bool.or_false, Bool.false_or, Bool.not_true, Bool.not_false, Bool.false_eq_true, Bool.not_eq_true', decide_true, decide_false, if_true, if_false, decide_eq_true_eq, decide_eq_false_iff_not, Int.cast_ofNat_Int, true_and, false_and, and_true, and_false, not_true_eq_false, not_false_eq_true, Int.reduceAdd, Int.reduceSub, Int.reduceMul, Int.reduceLT, Int.reduceLE, Int.reduceEq, Int.reduceNe, List.length_cons, List.length_nil, ↓reduceIte, Nat.reduceAdd, Nat.reduceBEq, Nat.reduceEqDiff, Nat.reduceLeDiff, Int.reduceNeg, reduceCtorEq]
theorem in_range_n (m : Nat) (d : D) (a b : Int) (h : (isTy .int d && !isTy .bool d) = false) : SF.run T sub 100 (m + 2) 1 [d, .int a, .int b] = .ok ⟨.bool false, false, []⟩ := by
  rw [r_in_range]; simp only [B_in_range, is_integer_ok, h, kx0, kx1, kx2, sx0, sx1, sx2, sx3, sx4, sx5, sx6, sx7, nm1, List.contains_nil, List.contains_cons, List.all_nil, List.all_cons, List.isEmpty_nil, List.isEmpty_cons, List.map_cons, List.map_nil, Bool.decide_eq_true, Bool.and_true, Bool.true_and, Bool.and_false, Bool.false_and, Bool.or_true, Bool.true_or, Bool.or_false, Bool.false_or, Bool.not_true, Bool.not_false, Bool.false_eq_true, Bool.not_eq_true', decide_true, decide_false, if_true, if_false, decide_eq_true_eq, decide_eq_false_iff_not, Int.cast_ofNat_Int, true_and, false_and, and_true, and_false, not_true_eq_false, not_false_eq_true, Int.reduceAdd, Int.reduceSub, Int.reduceMul, Int.reduceLT, Int.reduceLE, Int.reduceEq, Int.reduceNe, List.length_cons, List.length_nil, ↓reduceIte, Nat.reduceAdd, Nat.reduceBEq, Nat.reduceEqDiff, Nat.reduceLeDiff, Int.reduceNeg, reduceCtorEq]

theorem divisor_loop (m : Nat) (x y : Int) (hx : 0 ≤ x) (hy : 0 ≤ y) : SF.exS T (SF.run T sub 100 m) sub 100 L_divisor_2 [.val (.int x), .val (.int y)] = .ok (.nx, [.val (.int (Int.gcd x y)), .val (.int 0)]) := by
  unfold L_divisor_2
  rw [zs_whl]
  refine whR_gcd _ _ (fun x y => ?_) (fun x y h => ?_) _ x y hx hy ?_
  · simp only [sx0, sx1, sx2, sx3, sx4, sx5, sx6, sx7, nm1, List.contains_nil, List.contains_cons, List.all_nil, List.all_cons, List.isEmpty_nil, List.isEmpty_cons, List.map_cons, List.map_nil, Bool.decide_eq_true, Bool.and_true, Bool.true_and, Bool.and_false, Bool.false_and, Bool.or_true, Bool.true_or, Bool.or_false, Bool.false_or, Bool.not_true, Bool.not_false, Bool.false_eq_true, Bool.not_eq_true', decide_true, decide_false, if_true, if_false, decide_eq_true_eq, decide_eq_false_iff_not, Int.cast_ofNat_Int, true_and, false_and, and_true, and_false, not_true_eq_false, not_false_eq_true, Int.reduceAdd, Int.reduceSub, Int.reduceMul, Int.reduceLT, Int.reduceLE, Int.reduceEq, Int.reduceNe, List.length_cons, List.length_nil, ↓reduceIte, Nat.reduceAdd, Nat.reduceBEq, Nat.reduceEqDiff, Nat.reduceLeDiff, Int.reduceNeg, reduceCtorEq]
  · simp only [L_divisor_1, x_mod _ _ h, sx0, sx1, sx2, sx3, sx4, sx5, sx6, sx7, nm1, List.contains_nil, List.contains_cons, List.all_nil, List.all_cons, List.isEmpty_nil, List.isEmpty_cons, List.map_cons, List.map_nil, Bool.decide_eq_true, Bool.and_true, Bool.true_and, Bool.and_false, Bool.false_and, Bool.or_true, Bool.true_or, Bool.or_false, Bool.false_or, Bool.not_true, Bool.not_false, Bool.false_eq_true, Bool.not_eq_true', decide_true, decide_false, if_true, if_false, decide_eq_true_eq, decide_eq_false_iff_not, Int.cast_ofNat_Int, true_and, false_and, and_true, and_false, not_true_eq_false, not_false_eq_true, Int.reduceAdd, Int.reduceSub, Int.reduceMul, Int.reduceLT, Int.reduceLE, Int.reduceEq, Int.reduceNe, List.length_cons, List.length_nil, ↓reduceIte, Nat.reduceAdd, Nat.reduceBEq, Nat.reduceEqDiff, Nat.reduceLeDiff, Int.reduceNeg, reduceCtorEq]
  · simp only [fuel, Slot.d]; omega
theorem divisor_ok (m : Nat) (a b : Int) : SF.run T sub 100 (m + 1) 3 [.int a, .int b] = .ok ⟨.int (Int.gcd a b), false, []⟩ := by
  rw [r_divisor]
  have hw := divisor_loop m a.natAbs b.natAbs (by omega) (by omega)
  simp only [B_divisor, hw, sx0, sx1, sx2, sx3, sx4, sx5, sx6, sx7, nm1, List.contains_nil, List.contains_cons, List.all_nil, List.all_cons, List.isEmpty_nil, List.isEmpty_cons, List.map_cons, List.map_nil, Bool.decide_eq_true, Bool.and_true, Bool.true_and, Bool.and_false, Bool.false_and, Bool.or_true, Bool.true_or, Bool.or_false, Bool.false_or, Bool.not_true, Bool.not_false, Bool.false_eq_true, Bool.not_eq_true', decide_true, decide_false, if_true, if_false, decide_eq_true_eq, decide_eq_false_iff_not, Int.cast_ofNat_Int, true_and, false_and, and_true, and_false, not_true_eq_false, not_false_eq_true, Int.reduceAdd, Int.reduceSub, Int.reduceMul, Int.reduceLT, Int.reduceLE, Int.reduceEq, Int.reduceNe, List.length_cons, List.length_nil, ↓reduceIte, Nat.reduceAdd, Nat.reduceBEq, Nat.reduceEqDiff, Nat.reduceLeDiff, Int.reduceNeg, reduceCtorEq]
  simp [Int.gcd]
theorem fraction_of_ok (m : Nat) (a : Int) (b : Nat) (h : b ≠ 0) (h2 : b < 2 ^ 8900) : SF.run T sub 100 (m + 2) 4 [.int a, .int b] = .ok ⟨encR (mkRat a b), false, []⟩ := by
  rw [r_fraction_of]
  have hg : (0 : Int) < (Int.gcd a b : Int) := by
    have : Int.gcd a b ≠ 0 := by intro e; have := (Int.gcd_eq_zero_iff.mp e).2; omega
    omega
  have hl : ((Int.gcd a b : Int)).natAbs.log2 < 9000 := by
    rw [Int.natAbs_natCast]
    have : Int.gcd a b ≤ b := by
      have := Int.gcd_le_right a (show (0 : Int) < (b : Int) by omega)
      omega
    have := log2_le (Nat.lt_of_le_of_lt this h2); omega
  have hb : ¬ ((b : Int) < 0) := by omega
  obtain ⟨e1, e2⟩ := fr_pos a b h
  simp only [B_fraction_of, divisor_ok, hb, x_fdiv _ _ hg hl, kx0, kx1, kx2, sx0, sx1, sx2, sx3, sx4, sx5, sx6, sx7, nm1, List.contains_nil, List.contains_cons, List.all_nil, List.all_cons, List.isEmpty_nil, List.isEmpty_cons, List.map_cons, List.map_nil, Bool.decide_eq_true, Bool.and_true, Bool.true_and, Bool.and_false, Bool.false_and, Bool.or_true, Bool.true_or, Bool.or_false, Bool.false_or, Bool.not_true, Bool.not_false, Bool.false_eq_true, Bool.not_eq_true', decide_true, decide_false, if_true, if_false, decide_eq_true_eq, decide_eq_false_iff_not, Int.cast_ofNat_Int, true_and, false_and, and_true, and_false, not_true_eq_false, not_false_eq_true, Int.reduceAdd, Int.reduceSub, Int.reduceMul, Int.reduceLT, Int.reduceLE, Int.reduceEq, Int.reduceNe, List.length_cons, List.length_nil, ↓reduceIte, Nat.reduceAdd, Nat.reduceBEq, Nat.reduceEqDiff, Nat.reduceLeDiff, Int.reduceNeg, reduceCtorEq, e1, e2, encR]
theorem whole_ok (m : Nat) (a : Int) : SF.run T sub 100 (m + 1) 5 [.int a] = .ok ⟨encR a, false, []⟩ := by
  rw [r_whole]; simp only [B_whole, sx0, sx1, sx2, sx3, sx4, sx5, sx6, sx7, nm1, List.contains_nil, List.contains_cons, List.all_nil, List.all_cons, List.isEmpty_nil, List.isEmpty_cons, List.map_cons, List.map_nil, Bool.decide_eq_true, Bool.and_true, Bool.true_and, Bool.and_false, Bool.false_and, Bool.or_true, Bool.true_or, Bool.or_false, Bool.false_or, Bool.not_true, Bool.not_false, Bool.false_eq_true, Bool.not_eq_true', decide_true, decide_false, if_true, if_false, decide_eq_true_eq, decide_eq_false_iff_not, Int.cast_ofNat_Int, true_and, false_and, and_true, and_false, not_true_eq_false, not_false_eq_true, Int.reduceAdd, Int.reduceSub, Int.reduceMul, Int.reduceLT, Int.reduceLE, Int.reduceEq, Int.reduceNe, List.length_cons, List.length_nil, ↓reduceIte, Nat.reduceAdd, Nat.reduceBEq, Nat.reduceEqDiff, Nat.reduceLeDiff, Int.reduceNeg, reduceCtorEq, encR]; rfl
theorem add_ok (m : Nat) (p q : Rat) (hp : Bd p) (hq : Bd q) : SF.run T sub 100 (m + 3) 6 [encR p, encR q] = .ok ⟨encR (p + q), false, []⟩ := by
  rw [r_add]
  obtain ⟨h1, h2⟩ := hp.dens hq
  by_cases h : p.den = q.den ∧ q.den = 1
  · have e := (rat_ints (h.1.trans h.2) h.2).1
    rw [e]
    simp only [B_add, encR, h.1, h.2, sx0, sx1, sx2, sx3, sx4, sx5, sx6, sx7, nm1, List.contains_nil, List.contains_cons, List.all_nil, List.all_cons, List.isEmpty_nil, List.isEmpty_cons, List.map_cons, List.map_nil, Bool.decide_eq_true, Bool.and_true, Bool.true_and, Bool.and_false, Bool.false_and, Bool.or_true, Bool.true_or, Bool.or_false, Bool.false_or, Bool.not_true, Bool.not_false, Bool.false_eq_true, Bool.not_eq_true', decide_true, decide_false, if_true, if_false, decide_eq_true_eq, decide_eq_false_iff_not, Int.cast_ofNat_Int, true_and, false_and, and_true, and_false, not_true_eq_false, not_false_eq_true, Int.reduceAdd, Int.reduceSub, Int.reduceMul, Int.reduceLT, Int.reduceLE, Int.reduceEq, Int.reduceNe, List.length_cons, List.length_nil, ↓reduceIte, Nat.reduceAdd, Nat.reduceBEq, Nat.reduceEqDiff, Nat.reduceLeDiff, Int.reduceNeg, reduceCtorEq]
  · have hf := fun m => fraction_of_ok m (p.num * q.den + q.num * p.den) (p.den * q.den) h1 h2
    rw [rat_add]
    simp only [Int.natCast_mul] at hf
    have hd : ¬ ((p.den : Int) = q.den ∧ (q.den : Int) = 1) := fun c => h ⟨by omega, by omega⟩
    by_cases c1 : (p.den : Int) = q.den
    · have c2 : ¬ (q.den : Int) = 1 := fun c => hd ⟨c1, c⟩
      rw [c1] at hf ⊢
      have g3 := hq.guard3 hq
      have g1 := hp.guard1 hq
      have g2 := hq.guard1 hq
      simp only [B_add, encR, c1, c2, x_mul _ _ g1, x_mul _ _ g2, x_mul _ _ g3, hf, kx0, kx1, kx2, sx0, sx1, sx2, sx3, sx4, sx5, sx6, sx7, nm1, List.contains_nil, List.contains_cons, List.all_nil, List.all_cons, List.isEmpty_nil, List.isEmpty_cons, List.map_cons, List.map_nil, Bool.decide_eq_true, Bool.and_true, Bool.true_and, Bool.and_false, Bool.false_and, Bool.or_true, Bool.true_or, Bool.or_false, Bool.false_or, Bool.not_true, Bool.not_false, Bool.false_eq_true, Bool.not_eq_true', decide_true, decide_false, if_true, if_false, decide_eq_true_eq, decide_eq_false_iff_not, Int.cast_ofNat_Int, true_and, false_and, and_true, and_false, not_true_eq_false, not_false_eq_true, Int.reduceAdd, Int.reduceSub, Int.reduceMul, Int.reduceLT, Int.reduceLE, Int.reduceEq, Int.reduceNe, List.length_cons, List.length_nil, ↓reduceIte, Nat.reduceAdd, Nat.reduceBEq, Nat.reduceEqDiff, Nat.reduceLeDiff, Int.reduceNeg, reduceCtorEq]
    · have g1 := hp.guard1 hq
      have g2 := hq.guard1 hp
      have g3 := hp.guard3 hq
      simp only [B_add, encR, c1, x_mul _ _ g1, x_mul _ _ g2, x_mul _ _ g3, hf, kx0, kx1, kx2, sx0, sx1, sx2, sx3, sx4, sx5, sx6, sx7, nm1, List.contains_nil, List.contains_cons, List.all_nil, List.all_cons, List.isEmpty_nil, List.isEmpty_cons, List.map_cons, List.map_nil, Bool.decide_eq_true, Bool.and_true, Bool.true_and, Bool.and_false, Bool.false_and, Bool.or_true, Bool.true_or, Bool.or_false, Bool.false_or, Bool.not_true, Bool.not_false, Bool.false_eq_true, Bool.not_eq_true', decide_true, decide_false, if_true, if_false, decide_eq_true_eq, decide_eq_false_iff_not, Int.cast_ofNat_Int, true_and, false_and, and_true, and_false, not_true_eq_false, not_false_eq_true, Int.reduceAdd, Int.reduceSub, Int.reduceMul, Int.reduceLT, Int.reduceLE, Int.reduceEq, Int.reduceNe, List.length_cons, List.length_nil, ↓reduceIte, Nat.reduceAdd, Nat.reduceBEq, Nat.reduceEqDiff, Nat.reduceLeDiff, Int.reduceNeg, reduceCtorEq]
theorem negative_ok (m : Nat) (p : Rat) : SF.run T sub 100 (m + 1) 7 [encR p] = .ok ⟨encR (-p), false, []⟩ := by
  rw [r_negative]; simp only [B_negative, sx0, sx1, sx2, sx3, sx4, sx5, sx6, sx7, nm1, List.contains_nil, List.contains_cons, List.all_nil, List.all_cons, List.isEmpty_nil, List.isEmpty_cons, List.map_cons, List.map_nil, Bool.decide_eq_true, Bool.and_true, Bool.true_and, Bool.and_false, Bool.false_and, Bool.or_true, Bool.true_or, Bool.or_false, Bool.false_or, Bool.not_true, Bool.not_false, Bool.false_eq_true, Bool.not_eq_true', decide_true, decide_false, if_true, if_false, decide_eq_true_eq, decide_eq_false_iff_not, Int.cast_ofNat_Int, true_and, false_and, and_true, and_false, not_true_eq_false, not_false_eq_true, Int.reduceAdd, Int.reduceSub, Int.reduceMul, Int.reduceLT, Int.reduceLE, Int.reduceEq, Int.reduceNe, List.length_cons, List.length_nil, ↓reduceIte, Nat.reduceAdd, Nat.reduceBEq, Nat.reduceEqDiff, Nat.reduceLeDiff, Int.reduceNeg, reduceCtorEq, encR]; rfl
theorem subtract_ok (m : Nat) (p q : Rat) (hp : Bd p) (hq : Bd q) : SF.run T sub 100 (m + 4) 8 [encR p, encR q] = .ok ⟨encR (p - q), false, []⟩ := by
  rw [r_subtract, Rat.sub_eq_add_neg]; simp only [B_subtract, negative_ok, add_ok _ p (-q) hp hq.neg, kx0, kx1, kx2, sx0, sx1, sx2, sx3, sx4, sx5, sx6, sx7, nm1, List.contains_nil, List.contains_cons, List.all_nil, List.all_cons, List.isEmpty_nil, List.isEmpty_cons, List.map_cons, List.map_nil, Bool.decide_eq_true, Bool.and_true, Bool.true_and, Bool.and_false, Bool.false_and, Bool.or_true, Bool.true_or, Bool.or_false, Bool.false_or, Bool.not_true, Bool.not_false, Bool.false_eq_true, Bool.not_eq_true', decide_true, decide_false, if_true, if_false, decide_eq_true_eq, decide_eq_false_iff_not, Int.cast_ofNat_Int, true_and, false_and, and_true, and_false, not_true_eq_false, not_false_eq_true, Int.reduceAdd, Int.reduceSub, Int.reduceMul, Int.reduceLT, Int.reduceLE, Int.reduceEq, Int.reduceNe, List.length_cons, List.length_nil, ↓reduceIte, Nat.reduceAdd, Nat.reduceBEq, Nat.reduceEqDiff, Nat.reduceLeDiff, Int.reduceNeg, reduceCtorEq]
theorem multiply_ok (m : Nat) (p q : Rat) (hp : Bd p) (hq : Bd q) : SF.run T sub 100 (m + 3) 9 [encR p, encR q] = .ok ⟨encR (p * q), false, []⟩ := by
  rw [r_multiply]
  obtain ⟨h1, h2⟩ := hp.dens hq
  have g0 := hp.guard2 hq
  by_cases h : p.den = q.den ∧ q.den = 1
  · have e := (rat_ints (h.1.trans h.2) h.2).2
    rw [e]
    simp only [B_multiply, encR, h.1, h.2, x_mul _ _ g0, sx0, sx1, sx2, sx3, sx4, sx5, sx6, sx7, nm1, List.contains_nil, List.contains_cons, List.all_nil, List.all_cons, List.isEmpty_nil, List.isEmpty_cons, List.map_cons, List.map_nil, Bool.decide_eq_true, Bool.and_true, Bool.true_and, Bool.and_false, Bool.false_and, Bool.or_true, Bool.true_or, Bool.or_false, Bool.false_or, Bool.not_true, Bool.not_false, Bool.false_eq_true, Bool.not_eq_true', decide_true, decide_false, if_true, if_false, decide_eq_true_eq, decide_eq_false_iff_not, Int.cast_ofNat_Int, true_and, false_and, and_true, and_false, not_true_eq_false, not_false_eq_true, Int.reduceAdd, Int.reduceSub, Int.reduceMul, Int.reduceLT, Int.reduceLE, Int.reduceEq, Int.reduceNe, List.length_cons, List.length_nil, ↓reduceIte, Nat.reduceAdd, Nat.reduceBEq, Nat.reduceEqDiff, Nat.reduceLeDiff, Int.reduceNeg, reduceCtorEq]
  · have hf := fun m => fraction_of_ok m (p.num * q.num) (p.den * q.den) h1 h2
    rw [Rat.mul_def']
    simp only [Int.natCast_mul] at hf
    have g3 := hp.guard3 hq
    have hd : ¬ ((p.den : Int) = q.den ∧ (q.den : Int) = 1) := fun c => h ⟨by omega, by omega⟩
    by_cases c1 : (p.den : Int) = q.den
    · have c2 : ¬ (q.den : Int) = 1 := fun c => hd ⟨c1, c⟩
      rw [c1] at hf g3
      simp only [B_multiply, encR, c1, c2, x_mul _ _ g0, x_mul _ _ g3, hf, kx0, kx1, kx2, sx0, sx1, sx2, sx3, sx4, sx5, sx6, sx7, nm1, List.contains_nil, List.contains_cons, List.all_nil, List.all_cons, List.isEmpty_nil, List.isEmpty_cons, List.map_cons, List.map_nil, Bool.decide_eq_true, Bool.and_true, Bool.true_and, Bool.and_false, Bool.false_and, Bool.or_true, Bool.true_or, Bool.or_false, Bool.false_or, Bool.not_true, Bool.not_false, Bool.false_eq_true, Bool.not_eq_true', decide_true, decide_false, if_true, if_false, decide_eq_true_eq, decide_eq_false_iff_not, Int.cast_ofNat_Int, true_and, false_and, and_true, and_false, not_true_eq_false, not_false_eq_true, Int.reduceAdd, Int.reduceSub, Int.reduceMul, Int.reduceLT, Int.reduceLE, Int.reduceEq, Int.reduceNe, List.length_cons, List.length_nil, ↓reduceIte, Nat.reduceAdd, Nat.reduceBEq, Nat.reduceEqDiff, Nat.reduceLeDiff, Int.reduceNeg, reduceCtorEq]
    · simp only [B_multiply, encR, c1, x_mul _ _ g0, x_mul _ _ g3, hf, kx0, kx1, kx2, sx0, sx1, sx2, sx3, sx4, sx5, sx6, sx7, nm1, List.contains_nil, List.contains_cons, List.all_nil, List.all_cons, List.isEmpty_nil, List.isEmpty_cons, List.map_cons, List.map_nil, Bool.decide_eq_true, Bool.and_true, Bool.true_and, Bool.and_false, Bool.false_and, Bool.or_true, Bool.true_or, Bool.or_false, Bool.false_or, Bool.not_true, Bool.not_false, Bool.false_eq_true, Bool.not_eq_true', decide_true, decide_false, if_true, if_false, decide_eq_true_eq, decide_eq_false_iff_not, Int.cast_ofNat_Int, true_and, false_and, and_true, and_false, not_true_eq_false, not_false_eq_true, Int.reduceAdd, Int.reduceSub, Int.reduceMul, Int.reduceLT, Int.reduceLE, Int.reduceEq, Int.reduceNe, List.length_cons, List.length_nil, ↓reduceIte, Nat.reduceAdd, Nat.reduceBEq, Nat.reduceEqDiff, Nat.reduceLeDiff, Int.reduceNeg, reduceCtorEq]
theorem divide_ok (m : Nat) (p q : Rat) (hp : Bd p) (hq : Bd q) (h0 : 0 < q.num) : SF.run T sub 100 (m + 3) 10 [encR p, encR q] = .ok ⟨encR (p / q), false, []⟩ := by
  rw [r_divide]
  obtain ⟨n, hn⟩ := Int.eq_ofNat_of_zero_le (Int.le_of_lt h0)
  have hz : p.den * n ≠ 0 := Nat.mul_ne_zero p.den_nz (by omega)
  have hs : p.den * n < 2 ^ 8900 := by
    have hb : n < 2 ^ 4000 := by have := hq.1; rw [hn] at this; exact this
    exact Nat.lt_of_lt_of_le (show p.den * n < 2 ^ (4000 + 4000) by rw [Nat.pow_add]; exact Nat.mul_lt_mul'' hp.2 hb) (Nat.pow_le_pow_right (by decide) (by decide))
  have hf := fun m => fraction_of_ok m (p.num * q.den) (p.den * n) hz hs
  simp only [Int.natCast_mul] at hf
  rw [← hn] at hf
  have g1 := hp.guard1 hq
  have g4 := hp.guard4 hq
  have e : p / q = mkRat (p.num * q.den) (p.den * n) := by
    conv => lhs; rw [← Rat.num_divInt_den p, ← Rat.num_divInt_den q, Rat.div_def, Rat.inv_divInt, Rat.divInt_mul_divInt, hn]
    rw [← Int.natCast_mul, Rat.divInt_ofNat]
  rw [e]
  simp only [B_divide, encR, x_mul _ _ g1, x_mul _ _ g4, hf, kx0, kx1, kx2, sx0, sx1, sx2, sx3, sx4, sx5, sx6, sx7, nm1, List.contains_nil, List.contains_cons, List.all_nil, List.all_cons, List.isEmpty_nil, List.isEmpty_cons, List.map_cons, List.map_nil, Bool.decide_eq_true, Bool.and_true, Bool.true_and, Bool.and_false, Bool.false_and, Bool.or_true, Bool.true_or, Bool.or_false, Bool.false_or, Bool.not_true, Bool.not_false, Bool.false_eq_true, Bool.not_eq_true', decide_true, decide_false, if_true, if_false, decide_eq_true_eq, decide_eq_false_iff_not, Int.cast_ofNat_Int, true_and, false_and, and_true, and_false, not_true_eq_false, not_false_eq_true, Int.reduceAdd, Int.reduceSub, Int.reduceMul, Int.reduceLT, Int.reduceLE, Int.reduceEq, Int.reduceNe, List.length_cons, List.length_nil, ↓reduceIte, Nat.reduceAdd, Nat.reduceBEq, Nat.reduceEqDiff, Nat.reduceLeDiff, Int.reduceNeg, reduceCtorEq]
theorem is_less_ok (m : Nat) (p q : Rat) (hp : Bd p) (hq : Bd q) : SF.run T sub 100 (m + 1) 11 [encR p, encR q] = .ok ⟨.bool (decide (p < q)), false, []⟩ := by
  rw [r_is_less]
  have g1 := hp.guard1 hq
  have g2 := hq.guard1 hp
  have e : decide (p < q) = decide (p.num * q.den < q.num * p.den) := by simp only [Rat.lt_iff]
  rw [e]
  simp only [B_is_less, encR, x_mul _ _ g1, x_mul _ _ g2, sx0, sx1, sx2, sx3, sx4, sx5, sx6, sx7, nm1, List.contains_nil, List.contains_cons, List.all_nil, List.all_cons, List.isEmpty_nil, List.isEmpty_cons, List.map_cons, List.map_nil, Bool.decide_eq_true, Bool.and_true, Bool.true_and, Bool.and_false, Bool.false_and, Bool.or_true, Bool.true_or, Bool.or_false, Bool.false_or, Bool.not_true, Bool.not_false, Bool.false_eq_true, Bool.not_eq_true', decide_true, decide_false, if_true, if_false, decide_eq_true_eq, decide_eq_false_iff_not, Int.cast_ofNat_Int, true_and, false_and, and_true, and_false, not_true_eq_false, not_false_eq_true, Int.reduceAdd, Int.reduceSub, Int.reduceMul, Int.reduceLT, Int.reduceLE, Int.reduceEq, Int.reduceNe, List.length_cons, List.length_nil, ↓reduceIte, Nat.reduceAdd, Nat.reduceBEq, Nat.reduceEqDiff, Nat.reduceLeDiff, Int.reduceNeg, reduceCtorEq]

theorem more_turn (m : Nat) (ds : List Int) (p : Nat) (k mixed : Int) (s : Option D) (hd : DrOk ds) (hp : PlOk p) (hk : 0 ≤ k ∧ k < 8) (hm : 0 ≤ mixed ∧ mixed < 2147483647) :
    foT T (SF.run T sub 100 m) sub 100 (Tg.n 3) L__law_more_1 (.int k) [.val (encI ds), .val (.int p), .val (.int mixed), .opt s] = .ok (.nx, [.val (encI ds), .val (.int p), .val (.int (stepM ds p k mixed)), .val (.int k)]) := by
  have hp' : (p : Int).natAbs < 2 ^ 60 := by rw [Int.natAbs_natCast]; exact hp
  have g1 := mul_guard (b := k + 5) (j := 5) hp' (natAbs_lt_of (by omega) (by omega)) (by decide)
  have g3 := mul_guard (a := 69621) (b := k) (i := 20) (j := 5) (by decide) (natAbs_lt_of (by omega) (by omega)) (by decide)
  by_cases h0 : ds = []
  · subst h0
    have g2 := mul_guard (a := mixed) (b := 16807) (i := 40) (j := 20) (natAbs_lt_of (by omega) (by omega)) (by decide) (by decide)
    simp only [foT, L__law_more_1, encI, stepM, x_mul _ _ g2, x_mul _ _ g3, x_mod _ 2147483629 (by decide), sx0, sx1, sx2, sx3, sx4, sx5, sx6, sx7, nm1, List.contains_nil, List.contains_cons, List.all_nil, List.all_cons, List.isEmpty_nil, List.isEmpty_cons, List.map_cons, List.map_nil, Bool.decide_eq_true, Bool.and_true, Bool.true_and, Bool.and_false, Bool.false_and, Bool.or_true, Bool.true_or, Bool.or_false, Bool.false_or, Bool.not_true, Bool.not_false, Bool.false_eq_true, Bool.not_eq_true', decide_true, decide_false, if_true, if_false, decide_eq_true_eq, decide_eq_false_iff_not, Int.cast_ofNat_Int, true_and, false_and, and_true, and_false, not_true_eq_false, not_false_eq_true, Int.reduceAdd, Int.reduceSub, Int.reduceMul, Int.reduceLT, Int.reduceLE, Int.reduceEq, Int.reduceNe, List.length_cons, List.length_nil, ↓reduceIte, Nat.reduceAdd, Nat.reduceBEq, Nat.reduceEqDiff, Nat.reduceLeDiff, Int.reduceNeg, reduceCtorEq]
  · have hl : (0 : Int) < (ds.length : Int) := by
      have : ds.length ≠ 0 := fun e => h0 (List.eq_nil_of_length_eq_zero e)
      omega
    have hi0 := Int.emod_nonneg ((p : Int) * (k + 5) + k) (show (ds.length : Int) ≠ 0 by omega)
    have hi1 := Int.emod_lt_of_pos ((p : Int) * (k + 5) + k) hl
    obtain ⟨j, hj⟩ := Int.eq_ofNat_of_zero_le hi0
    have hj' : j < ds.length := by omega
    have hx : (List.map PyData.int ds)[j]? = some (.int (ds.getD j 0)) := by
      rw [List.getElem?_map, List.getElem?_eq_getElem hj']; simp [List.getD, hj']
    have gb := getD_dr hd j
    have g2 := mul_guard (a := mixed + ds.getD j 0) (b := 16807) (i := 40) (j := 20) (natAbs_lt_of (by omega) (by omega)) (by decide) (by decide)
    have he : (!(List.map PyData.int ds).isEmpty) = true := by cases ds with | nil => exact absurd rfl h0 | cons _ _ => rfl
    simp only [foT, L__law_more_1, encI, stepM, h0, he, x_mul _ _ g1, x_mul _ _ g3, x_mod _ _ hl, List.length_map, hj, at_n, hx, Int.toNat_natCast, x_mul _ _ g2, x_mod _ 2147483629 (by decide), sx0, sx1, sx2, sx3, sx4, sx5, sx6, sx7, nm1, List.contains_nil, List.contains_cons, List.all_nil, List.all_cons, List.isEmpty_nil, List.isEmpty_cons, List.map_cons, List.map_nil, Bool.decide_eq_true, Bool.and_true, Bool.true_and, Bool.and_false, Bool.false_and, Bool.or_true, Bool.true_or, Bool.or_false, Bool.false_or, Bool.not_true, Bool.not_false, Bool.false_eq_true, Bool.not_eq_true', decide_true, decide_false, if_true, if_false, decide_eq_true_eq, decide_eq_false_iff_not, Int.cast_ofNat_Int, true_and, false_and, and_true, and_false, not_true_eq_false, not_false_eq_true, Int.reduceAdd, Int.reduceSub, Int.reduceMul, Int.reduceLT, Int.reduceLE, Int.reduceEq, Int.reduceNe, List.length_cons, List.length_nil, ↓reduceIte, Nat.reduceAdd, Nat.reduceBEq, Nat.reduceEqDiff, Nat.reduceLeDiff, Int.reduceNeg, reduceCtorEq]
theorem more_ok (m : Nat) (ds : List Int) (p : Nat) (hd : DrOk ds) (hp : PlOk p) : SF.run T sub 100 (m + 1) 28 [encI ds, .int p] = .ok ⟨.int (rawMore ds p), false, []⟩ := by
  have hp' : (p : Int).natAbs < 2 ^ 60 := by rw [Int.natAbs_natCast]; exact hp
  have g1 := mul_guard (b := 48271) (j := 20) hp' (by decide) (by decide)
  have e0 : ∀ x : Int, 0 ≤ x % 2147483629 ∧ x % 2147483629 < 2147483647 := fun x => by omega
  have b0 := stepM_bound ds p 0
  have b1 := stepM_bound ds p 1
  have t0 := more_turn m ds p 0 (((p : Int) * 48271 + (ds.length : Int) + 11) % 2147483629) none hd hp (by decide) (e0 _)
  have t1 := more_turn m ds p 1 (stepM ds p 0 (((p : Int) * 48271 + (ds.length : Int) + 11) % 2147483629)) (some (.int 0)) hd hp (by decide) ⟨(b0 _).1, by have := (b0 (((p : Int) * 48271 + (ds.length : Int) + 11) % 2147483629)).2; omega⟩
  have t2 := more_turn m ds p 2 (stepM ds p 1 (stepM ds p 0 (((p : Int) * 48271 + (ds.length : Int) + 11) % 2147483629))) (some (.int 1)) hd hp (by decide) ⟨(b1 _).1, by have := (b1 (stepM ds p 0 (((p : Int) * 48271 + (ds.length : Int) + 11) % 2147483629))).2; omega⟩
  simp only [opt_none, opt_some] at t0 t1 t2
  rw [r__law_more]
  unfold rawMore
  generalize stepM ds p 2 (stepM ds p 1 (stepM ds p 0 (((p : Int) * 48271 + (ds.length : Int) + 11) % 2147483629))) = r2 at t2
  generalize stepM ds p 1 (stepM ds p 0 (((p : Int) * 48271 + (ds.length : Int) + 11) % 2147483629)) = r1 at t1 t2
  generalize stepM ds p 0 (((p : Int) * 48271 + (ds.length : Int) + 11) % 2147483629) = r0 at t0 t1
  simp only [encI] at t0 t1 t2
  have hs : smallI 3 = true := by decide
  simp only [B__law_more, L__law_more_2, zs_for, encI, x_mul _ _ g1, x_mod _ 2147483629 (by decide), List.length_map, hs, rangeL_3, foR_cons, foR_nil, foN_nx, t0, t1, t2, x_fdiv _ 1009 (by decide) (by decide), sx0, sx1, sx2, sx3, sx4, sx5, sx6, sx7, nm1, List.contains_nil, List.contains_cons, List.all_nil, List.all_cons, List.isEmpty_nil, List.isEmpty_cons, List.map_cons, List.map_nil, Bool.decide_eq_true, Bool.and_true, Bool.true_and, Bool.and_false, Bool.false_and, Bool.or_true, Bool.true_or, Bool.or_false, Bool.false_or, Bool.not_true, Bool.not_false, Bool.false_eq_true, Bool.not_eq_true', decide_true, decide_false, if_true, if_false, decide_eq_true_eq, decide_eq_false_iff_not, Int.cast_ofNat_Int, true_and, false_and, and_true, and_false, not_true_eq_false, not_false_eq_true, Int.reduceAdd, Int.reduceSub, Int.reduceMul, Int.reduceLT, Int.reduceLE, Int.reduceEq, Int.reduceNe, List.length_cons, List.length_nil, ↓reduceIte, Nat.reduceAdd, Nat.reduceBEq, Nat.reduceEqDiff, Nat.reduceLeDiff, Int.reduceNeg, reduceCtorEq]
theorem take_ok (m : Nat) (ds : List Int) (p : Nat) (n : Int) (hd : DrOk ds) (hp : PlOk p) (hn : 0 < n) :
    SF.run T sub 100 (m + 2) 29 [encI ds, .list [.int p], .int n] = .ok ⟨.int (tk ds p n), false, [.list [.int ((p + 1 : Nat) : Int)]]⟩ := by
  have ix : L2.ixN 1 0 = some 0 := by decide
  rw [r__law_take]
  unfold tk raw
  rw [Int.natCast_add]
  by_cases h : p < ds.length
  · have h' : (p : Int) < (ds.length : Int) := by omega
    have hx : (List.map PyData.int ds)[p]? = some (.int (ds.getD p 0)) := by
      rw [List.getElem?_map, List.getElem?_eq_getElem h]; simp [List.getD, h]
    simp only [B__law_take, encI, h, h', at_n, hx, x_mod _ _ hn, ix, List.length_singleton, List.set_cons_zero, List.length_map, Int.cast_ofNat_Int, kx0, kx1, kx2, sx0, sx1, sx2, sx3, sx4, sx5, sx6, sx7, nm1, List.contains_nil, List.contains_cons, List.all_nil, List.all_cons, List.isEmpty_nil, List.isEmpty_cons, List.map_cons, List.map_nil, Bool.decide_eq_true, Bool.and_true, Bool.true_and, Bool.and_false, Bool.false_and, Bool.or_true, Bool.true_or, Bool.or_false, Bool.false_or, Bool.not_true, Bool.not_false, Bool.false_eq_true, Bool.not_eq_true', decide_true, decide_false, if_true, if_false, decide_eq_true_eq, decide_eq_false_iff_not, Int.cast_ofNat_Int, true_and, false_and, and_true, and_false, not_true_eq_false, not_false_eq_true, Int.reduceAdd, Int.reduceSub, Int.reduceMul, Int.reduceLT, Int.reduceLE, Int.reduceEq, Int.reduceNe, List.length_cons, List.length_nil, ↓reduceIte, Nat.reduceAdd, Nat.reduceBEq, Nat.reduceEqDiff, Nat.reduceLeDiff, Int.reduceNeg, reduceCtorEq]
  · have h' : ¬ (p : Int) < (ds.length : Int) := by omega
    have hm := fun m => more_ok m ds p hd hp
    simp only [encI] at hm
    simp only [B__law_take, encI, h, h', hm, x_mod _ _ hn, ix, List.length_singleton, List.set_cons_zero, List.length_map, Int.cast_ofNat_Int, kx0, kx1, kx2, sx0, sx1, sx2, sx3, sx4, sx5, sx6, sx7, nm1, List.contains_nil, List.contains_cons, List.all_nil, List.all_cons, List.isEmpty_nil, List.isEmpty_cons, List.map_cons, List.map_nil, Bool.decide_eq_true, Bool.and_true, Bool.true_and, Bool.and_false, Bool.false_and, Bool.or_true, Bool.true_or, Bool.or_false, Bool.false_or, Bool.not_true, Bool.not_false, Bool.false_eq_true, Bool.not_eq_true', decide_true, decide_false, if_true, if_false, decide_eq_true_eq, decide_eq_false_iff_not, Int.cast_ofNat_Int, true_and, false_and, and_true, and_false, not_true_eq_false, not_false_eq_true, Int.reduceAdd, Int.reduceSub, Int.reduceMul, Int.reduceLT, Int.reduceLE, Int.reduceEq, Int.reduceNe, List.length_cons, List.length_nil, ↓reduceIte, Nat.reduceAdd, Nat.reduceBEq, Nat.reduceEqDiff, Nat.reduceLeDiff, Int.reduceNeg, reduceCtorEq]

theorem one_l (ds : List Int) (p : Nat) (rows : List D) (hd : DrOk ds) (hp : PlOk p) (hn : rows ≠ []) :
    ∃ d ∈ rows, ∀ m, SF.run T sub 100 (m + 3) 30 [.list rows, encI ds, .list [.int p]] = .ok ⟨d, false, [.list [.int ((p + 1 : Nat) : Int)]]⟩ := by
  have hl : (0 : Int) < (rows.length : Int) := by
    have : rows.length ≠ 0 := fun e => hn (List.eq_nil_of_length_eq_zero e)
    omega
  have h0 := tk_nonneg ds p hl
  have h1 := tk_lt ds p hl
  obtain ⟨j, hj⟩ := Int.eq_ofNat_of_zero_le h0
  have hj' : j < rows.length := by omega
  refine ⟨rows[j], List.getElem_mem hj', fun m => ?_⟩
  have ht := fun m => take_ok m ds p rows.length hd hp hl
  rw [hj] at ht
  have hx : rows[j]? = some rows[j] := List.getElem?_eq_getElem hj'
  rw [r__law_one]
  simp only [B__law_one, ht, at_n, hx, kx0, kx1, kx2, sx0, sx1, sx2, sx3, sx4, sx5, sx6, sx7, nm1, List.contains_nil, List.contains_cons, List.all_nil, List.all_cons, List.isEmpty_nil, List.isEmpty_cons, List.map_cons, List.map_nil, Bool.decide_eq_true, Bool.and_true, Bool.true_and, Bool.and_false, Bool.false_and, Bool.or_true, Bool.true_or, Bool.or_false, Bool.false_or, Bool.not_true, Bool.not_false, Bool.false_eq_true, Bool.not_eq_true', decide_true, decide_false, if_true, if_false, decide_eq_true_eq, decide_eq_false_iff_not, Int.cast_ofNat_Int, true_and, false_and, and_true, and_false, not_true_eq_false, not_false_eq_true, Int.reduceAdd, Int.reduceSub, Int.reduceMul, Int.reduceLT, Int.reduceLE, Int.reduceEq, Int.reduceNe, List.length_cons, List.length_nil, ↓reduceIte, Nat.reduceAdd, Nat.reduceBEq, Nat.reduceEqDiff, Nat.reduceLeDiff, Int.reduceNeg, reduceCtorEq]
theorem one_t (ds : List Int) (p : Nat) (rows : List D) (hd : DrOk ds) (hp : PlOk p) (hn : rows ≠ []) :
    ∃ d ∈ rows, ∀ m, SF.run T sub 100 (m + 3) 30 [.tuple rows, encI ds, .list [.int p]] = .ok ⟨d, false, [.list [.int ((p + 1 : Nat) : Int)]]⟩ := by
  have hl : (0 : Int) < (rows.length : Int) := by
    have : rows.length ≠ 0 := fun e => hn (List.eq_nil_of_length_eq_zero e)
    omega
  have h0 := tk_nonneg ds p hl
  have h1 := tk_lt ds p hl
  obtain ⟨j, hj⟩ := Int.eq_ofNat_of_zero_le h0
  have hj' : j < rows.length := by omega
  refine ⟨rows[j], List.getElem_mem hj', fun m => ?_⟩
  have ht := fun m => take_ok m ds p rows.length hd hp hl
  rw [hj] at ht
  have hx : rows[j]? = some rows[j] := List.getElem?_eq_getElem hj'
  rw [r__law_one]
  simp only [B__law_one, ht, at_n, hx, kx0, kx1, kx2, sx0, sx1, sx2, sx3, sx4, sx5, sx6, sx7, nm1, List.contains_nil, List.contains_cons, List.all_nil, List.all_cons, List.isEmpty_nil, List.isEmpty_cons, List.map_cons, List.map_nil, Bool.decide_eq_true, Bool.and_true, Bool.true_and, Bool.and_false, Bool.false_and, Bool.or_true, Bool.true_or, Bool.or_false, Bool.false_or, Bool.not_true, Bool.not_false, Bool.false_eq_true, Bool.not_eq_true', decide_true, decide_false, if_true, if_false, decide_eq_true_eq, decide_eq_false_iff_not, Int.cast_ofNat_Int, true_and, false_and, and_true, and_false, not_true_eq_false, not_false_eq_true, Int.reduceAdd, Int.reduceSub, Int.reduceMul, Int.reduceLT, Int.reduceLE, Int.reduceEq, Int.reduceNe, List.length_cons, List.length_nil, ↓reduceIte, Nat.reduceAdd, Nat.reduceBEq, Nat.reduceEqDiff, Nat.reduceLeDiff, Int.reduceNeg, reduceCtorEq]
theorem take_ex (ds : List Int) (p : Nat) (n : Int) (hd : DrOk ds) (hp : PlOk p) (hn : 0 < n) :
    ∃ v, (0 ≤ v ∧ v < n) ∧ ∀ m, SF.run T sub 100 (m + 2) 29 [encI ds, .list [.int p], .int n] = .ok ⟨.int v, false, [.list [.int ((p + 1 : Nat) : Int)]]⟩ :=
  ⟨tk ds p n, ⟨tk_nonneg ds p hn, tk_lt ds p hn⟩, fun m => take_ok m ds p n hd hp hn⟩
theorem one_int (ds : List Int) (p : Nat) (l : List Int) (hd : DrOk ds) (hp : PlOk p) (hn : l ≠ []) :
    ∃ v ∈ l, ∀ m, SF.run T sub 100 (m + 3) 30 [.list (l.map .int), encI ds, .list [.int p]] = .ok ⟨.int v, false, [.list [.int ((p + 1 : Nat) : Int)]]⟩ := by
  obtain ⟨d, h1, h2⟩ := one_l ds p (l.map .int) hd hp (by simpa using hn)
  obtain ⟨v, hv, rfl⟩ := List.mem_map.mp h1
  exact ⟨v, hv, h2⟩
def DrI (n : Nat) (ds : List Int) : Prop := (∀ d ∈ ds, 0 ≤ d ∧ d < 2147483647) ∧ ds.length ≤ n
theorem DrI.app {n : Nat} {ds : List Int} {d : Int} (h : DrI n ds) (h0 : 0 ≤ d ∧ d < 2147483647) : DrI (n + 1) (ds ++ [d]) :=
  ⟨fun x hx => by rcases List.mem_append.mp hx with h1 | h1; exact h.1 x h1; cases List.mem_singleton.mp h1; exact h0, by rw [List.length_append, List.length_singleton]; have := h.2; omega⟩
theorem draws_great (m : Nat) (sc cell : D) (ds : List Int) (r : Int) (s4 s5 : Option D) (n : Nat) (hd : DrI n ds) (hn : n ≤ 3720) (hr : 0 ≤ r) :
    ∃ ds' r' s4', SF.exS T (SF.run T sub 100 m) sub 100 L__law_draws_2 [.val sc, .own (encI ds), .val cell, .val (.int r), .opt s4, .opt s5] = .ok (.nx, [.val sc, .own (encI ds'), .val cell, .val (.int r'), .opt s4', .opt s5]) ∧ DrI (n + 60) ds' := by
  have hs : smallI 60 = true := by decide
  have he : rangeL 0 60 = (List.range 60).map fun (i : Nat) => PyData.int (i : Int) := rangeL_0 60
  unfold L__law_draws_2
  simp only [zs_for, hs, he, sx0, sx1, sx2, sx3, sx4, sx5, sx6, sx7, nm1, List.contains_nil, List.contains_cons, List.all_nil, List.all_cons, List.isEmpty_nil, List.isEmpty_cons, List.map_cons, List.map_nil, Bool.decide_eq_true, Bool.and_true, Bool.true_and, Bool.and_false, Bool.false_and, Bool.or_true, Bool.true_or, Bool.or_false, Bool.false_or, Bool.not_true, Bool.not_false, Bool.false_eq_true, Bool.not_eq_true', decide_true, decide_false, if_true, if_false, decide_eq_true_eq, decide_eq_false_iff_not, Int.cast_ofNat_Int, true_and, false_and, and_true, and_false, not_true_eq_false, not_false_eq_true, Int.reduceAdd, Int.reduceSub, Int.reduceMul, Int.reduceLT, Int.reduceLE, Int.reduceEq, Int.reduceNe, List.length_cons, List.length_nil, ↓reduceIte, Nat.reduceAdd, Nat.reduceBEq, Nat.reduceEqDiff, Nat.reduceLeDiff, Int.reduceNeg, reduceCtorEq]
  obtain ⟨nv', h1, ds', r', s', h2, h3, h4⟩ := for_all (b := foT T (SF.run T sub 100 m) sub 100 (Tg.n 4) L__law_draws_1) (fun (i : Nat) => PyData.int (i : Int))
    (fun rest nv => ∃ ds r s, nv = [.val sc, .own (encI ds), .val cell, .val (.int r), .opt s, .opt s5] ∧ (∃ k, k + rest.length = n + 60 ∧ DrI k ds) ∧ 0 ≤ r) (List.range 60) _ ⟨ds, r, s4, rfl, ⟨n, by simp, hd⟩, hr⟩ (by
      rintro x rest nv ⟨ds, r, s, rfl, ⟨k, hk, hd⟩, hr⟩
      have hll : ds.length < lim := by have := hd.2; simp only [List.length_cons] at hk; unfold lim; omega
      by_cases h0 : 0 < r
      · refine ⟨_, ?_, ds ++ [r % 1009], r / 1009, some (.int x), rfl, ⟨k + 1, by simp only [List.length_cons] at hk; omega, hd.app ⟨Int.emod_nonneg _ (by decide), by have := Int.emod_lt_of_pos r (show (0 : Int) < 1009 by decide); omega⟩⟩, Int.ediv_nonneg hr (by decide)⟩
        simp only [foT, L__law_draws_1, encI, h0, x_mod _ 1009 (by decide), x_fdiv _ 1009 (by decide) (by decide), List.length_map, hll, List.map_append, opt_some, sx0, sx1, sx2, sx3, sx4, sx5, sx6, sx7, nm1, List.contains_nil, List.contains_cons, List.all_nil, List.all_cons, List.isEmpty_nil, List.isEmpty_cons, List.map_cons, List.map_nil, Bool.decide_eq_true, Bool.and_true, Bool.true_and, Bool.and_false, Bool.false_and, Bool.or_true, Bool.true_or, Bool.or_false, Bool.false_or, Bool.not_true, Bool.not_false, Bool.false_eq_true, Bool.not_eq_true', decide_true, decide_false, if_true, if_false, decide_eq_true_eq, decide_eq_false_iff_not, Int.cast_ofNat_Int, true_and, false_and, and_true, and_false, not_true_eq_false, not_false_eq_true, Int.reduceAdd, Int.reduceSub, Int.reduceMul, Int.reduceLT, Int.reduceLE, Int.reduceEq, Int.reduceNe, List.length_cons, List.length_nil, ↓reduceIte, Nat.reduceAdd, Nat.reduceBEq, Nat.reduceEqDiff, Nat.reduceLeDiff, Int.reduceNeg, reduceCtorEq]
      · refine ⟨_, ?_, ds, r, some (.int x), rfl, ⟨k + 1, by simp only [List.length_cons] at hk; omega, ⟨hd.1, by have := hd.2; omega⟩⟩, hr⟩
        simp only [foT, L__law_draws_1, encI, h0, opt_some, sx0, sx1, sx2, sx3, sx4, sx5, sx6, sx7, nm1, List.contains_nil, List.contains_cons, List.all_nil, List.all_cons, List.isEmpty_nil, List.isEmpty_cons, List.map_cons, List.map_nil, Bool.decide_eq_true, Bool.and_true, Bool.true_and, Bool.and_false, Bool.false_and, Bool.or_true, Bool.true_or, Bool.or_false, Bool.false_or, Bool.not_true, Bool.not_false, Bool.false_eq_true, Bool.not_eq_true', decide_true, decide_false, if_true, if_false, decide_eq_true_eq, decide_eq_false_iff_not, Int.cast_ofNat_Int, true_and, false_and, and_true, and_false, not_true_eq_false, not_false_eq_true, Int.reduceAdd, Int.reduceSub, Int.reduceMul, Int.reduceLT, Int.reduceLE, Int.reduceEq, Int.reduceNe, List.length_cons, List.length_nil, ↓reduceIte, Nat.reduceAdd, Nat.reduceBEq, Nat.reduceEqDiff, Nat.reduceLeDiff, Int.reduceNeg, reduceCtorEq])
  obtain ⟨k, hk, hd'⟩ := h3
  rw [h1, h2]
  exact ⟨ds', r', s', rfl, by have : k = n + 60 := hk; rw [← this]; exact hd'⟩
theorem draws_small (m : Nat) (sc cell : D) (ds : List Int) (r : D) (x : Int) (s4 : Option D) (n : Nat) (hd : DrI n ds) (hn : n ≤ 3720) (hx : 0 ≤ x ∧ x < 2147483647) :
    ∃ ds' x' s4', SF.exS T (SF.run T sub 100 m) sub 100 L__law_draws_4 [.val sc, .own (encI ds), .val cell, .val r, .opt s4, .val (.int x)] = .ok (.nx, [.val sc, .own (encI ds'), .val cell, .val r, .opt s4', .val (.int x')]) ∧ DrI (n + 60) ds' := by
  have hs : smallI 12 = true := by decide
  have he : rangeL 0 12 = (List.range 12).map fun (i : Nat) => PyData.int (i : Int) := rangeL_0 12
  unfold L__law_draws_4
  simp only [zs_for, hs, he, sx0, sx1, sx2, sx3, sx4, sx5, sx6, sx7, nm1, List.contains_nil, List.contains_cons, List.all_nil, List.all_cons, List.isEmpty_nil, List.isEmpty_cons, List.map_cons, List.map_nil, Bool.decide_eq_true, Bool.and_true, Bool.true_and, Bool.and_false, Bool.false_and, Bool.or_true, Bool.true_or, Bool.or_false, Bool.false_or, Bool.not_true, Bool.not_false, Bool.false_eq_true, Bool.not_eq_true', decide_true, decide_false, if_true, if_false, decide_eq_true_eq, decide_eq_false_iff_not, Int.cast_ofNat_Int, true_and, false_and, and_true, and_false, not_true_eq_false, not_false_eq_true, Int.reduceAdd, Int.reduceSub, Int.reduceMul, Int.reduceLT, Int.reduceLE, Int.reduceEq, Int.reduceNe, List.length_cons, List.length_nil, ↓reduceIte, Nat.reduceAdd, Nat.reduceBEq, Nat.reduceEqDiff, Nat.reduceLeDiff, Int.reduceNeg, reduceCtorEq]
  obtain ⟨nv', h1, ds', x', s', h2, h3, h4⟩ := for_all (b := foT T (SF.run T sub 100 m) sub 100 (Tg.n 4) L__law_draws_3) (fun (i : Nat) => PyData.int (i : Int))
    (fun rest nv => ∃ ds x s, nv = [.val sc, .own (encI ds), .val cell, .val r, .opt s, .val (.int x)] ∧ (∃ k, k + rest.length = n + 12 ∧ DrI k ds ∧ ∀ i ∈ rest, i < 12) ∧ (0 ≤ x ∧ x < 2147483647)) (List.range 12) _ ⟨ds, x, s4, rfl, ⟨n, by simp, hd, fun i hi => List.mem_range.mp hi⟩, hx⟩ (by
      rintro i rest nv ⟨ds, x, s, rfl, ⟨k, hk, hd, hi⟩, hr⟩
      have hll : ds.length < lim := by have := hd.2; simp only [List.length_cons] at hk; unfold lim; omega
      have hi0 := hi i (List.mem_cons_self ..)
      have g1 := mul_guard (a := x) (b := 16807) (i := 40) (j := 20) (natAbs_lt_of (by omega) (by omega)) (by decide) (by decide)
      have g2 := mul_guard (a := 69621) (b := (i : Int)) (i := 20) (j := 5) (by decide) (natAbs_lt_of (by omega) (by omega)) (by decide)
      have e0 := Int.emod_nonneg (x * 16807 + 69621 * (i : Int) + 5) (show (2147483629 : Int) ≠ 0 by decide)
      have e1 := Int.emod_lt_of_pos (x * 16807 + 69621 * (i : Int) + 5) (show (0 : Int) < 2147483629 by decide)
      refine ⟨_, ?_, ds ++ [(x * 16807 + 69621 * (i : Int) + 5) % 2147483629 / 1009], (x * 16807 + 69621 * (i : Int) + 5) % 2147483629, some (.int i), rfl, ⟨k + 1, by simp only [List.length_cons] at hk; omega, hd.app ⟨Int.ediv_nonneg e0 (by decide), by omega⟩, fun j hj => hi j (List.mem_cons_of_mem _ hj)⟩, ⟨e0, by omega⟩⟩
      simp only [foT, L__law_draws_3, encI, x_mul _ _ g1, x_mul _ _ g2, x_mod _ 2147483629 (by decide), x_fdiv _ 1009 (by decide) (by decide), List.length_map, hll, List.map_append, opt_some, sx0, sx1, sx2, sx3, sx4, sx5, sx6, sx7, nm1, List.contains_nil, List.contains_cons, List.all_nil, List.all_cons, List.isEmpty_nil, List.isEmpty_cons, List.map_cons, List.map_nil, Bool.decide_eq_true, Bool.and_true, Bool.true_and, Bool.and_false, Bool.false_and, Bool.or_true, Bool.true_or, Bool.or_false, Bool.false_or, Bool.not_true, Bool.not_false, Bool.false_eq_true, Bool.not_eq_true', decide_true, decide_false, if_true, if_false, decide_eq_true_eq, decide_eq_false_iff_not, Int.cast_ofNat_Int, true_and, false_and, and_true, and_false, not_true_eq_false, not_false_eq_true, Int.reduceAdd, Int.reduceSub, Int.reduceMul, Int.reduceLT, Int.reduceLE, Int.reduceEq, Int.reduceNe, List.length_cons, List.length_nil, ↓reduceIte, Nat.reduceAdd, Nat.reduceBEq, Nat.reduceEqDiff, Nat.reduceLeDiff, Int.reduceNeg, reduceCtorEq])
  obtain ⟨k, hk, hd', _⟩ := h3
  rw [h1, h2]
  exact ⟨ds', x', s', rfl, hd'.1, by have := hd'.2; have : k = n + 12 := hk; omega⟩
theorem opt_val (d : D) : Slot.opt (some d) = .val d := rfl
theorem draws_ok (m : Nat) (ns : List Int) (hl : ns.length ≤ 63) : ∃ ds, DrOk ds ∧ SF.run T sub 100 (m + 1) 27 [.list (ns.map .int)] = .ok ⟨encI ds, true, []⟩ := by
  rw [r__law_draws]
  have hp : (1000000000000000000 : Int) = 10 ^ (18 : Int).toNat := by decide
  have hcut : cutD (.list (ns.map PyData.int)) none (some (63 : Int)) = .ok (.list (ns.map .int), true) := by
    have := cutD_lt (ns.map PyData.int) 63
    rw [List.take_of_length_le (by simpa using hl)] at this
    exact this
  have L6 : ∃ ds s2 s3 s4 s5, DrOk ds ∧ SF.exS T (SF.run T sub 100 m) sub 100 L__law_draws_6 [.val (.list (ns.map .int)), .own (.list []), .emp, .emp, .emp, .emp] = .ok (.nx, [.val (.list (ns.map .int)), .own (encI ds), .opt s2, .opt s3, .opt s4, .opt s5]) := by
    unfold L__law_draws_6
    simp only [zs_for, hcut, sx0, sx1, sx2, sx3, sx4, sx5, sx6, sx7, nm1, List.contains_nil, List.contains_cons, List.all_nil, List.all_cons, List.isEmpty_nil, List.isEmpty_cons, List.map_cons, List.map_nil, Bool.decide_eq_true, Bool.and_true, Bool.true_and, Bool.and_false, Bool.false_and, Bool.or_true, Bool.true_or, Bool.or_false, Bool.false_or, Bool.not_true, Bool.not_false, Bool.false_eq_true, Bool.not_eq_true', decide_true, decide_false, if_true, if_false, decide_eq_true_eq, decide_eq_false_iff_not, Int.cast_ofNat_Int, true_and, false_and, and_true, and_false, not_true_eq_false, not_false_eq_true, Int.reduceAdd, Int.reduceSub, Int.reduceMul, Int.reduceLT, Int.reduceLE, Int.reduceEq, Int.reduceNe, List.length_cons, List.length_nil, ↓reduceIte, Nat.reduceAdd, Nat.reduceBEq, Nat.reduceEqDiff, Nat.reduceLeDiff, Int.reduceNeg, reduceCtorEq]
    obtain ⟨nv', h1, ds', s2, s3, s4, s5, h2, k, hk, h3⟩ := for_all (b := foT T (SF.run T sub 100 m) sub 100 (Tg.n 2) L__law_draws_5) PyData.int
      (fun rest nv => ∃ ds s2 s3 s4 s5, nv = [.val (.list (ns.map .int)), .own (encI ds), .opt s2, .opt s3, .opt s4, .opt s5] ∧ ∃ k, k + 60 * rest.length ≤ 3780 ∧ DrI k ds) ns
      [.val (.list (ns.map .int)), .own (.list []), .emp, .emp, .emp, .emp] ⟨[], none, none, none, none, rfl, 0, by omega, fun _ h => (by cases h), Nat.le_refl _⟩ (by
        rintro c rest nv ⟨ds, s2, s3, s4, s5, rfl, k, hk, hd⟩
        simp only [List.length_cons] at hk
        by_cases hc : (1000000000000000000 : Int) ≤ (c.natAbs : Int)
        · obtain ⟨ds', r', s4', e, hd'⟩ := draws_great m (.list (ns.map .int)) (.int c) ds c.natAbs s4 s5 k hd (by omega) (by omega)
          refine ⟨_, ?_, ds', some (.int c), some (.int r'), s4', s5, rfl, k + 60, by omega, hd'⟩
          rw [hp] at hc
          simp only [foT, L__law_draws_5, x_pow 10 18 (by decide), hc, e, opt_some, sx0, sx1, sx2, sx3, sx4, sx5, sx6, sx7, nm1, List.contains_nil, List.contains_cons, List.all_nil, List.all_cons, List.isEmpty_nil, List.isEmpty_cons, List.map_cons, List.map_nil, Bool.decide_eq_true, Bool.and_true, Bool.true_and, Bool.and_false, Bool.false_and, Bool.or_true, Bool.true_or, Bool.or_false, Bool.false_or, Bool.not_true, Bool.not_false, Bool.false_eq_true, Bool.not_eq_true', decide_true, decide_false, if_true, if_false, decide_eq_true_eq, decide_eq_false_iff_not, Int.cast_ofNat_Int, true_and, false_and, and_true, and_false, not_true_eq_false, not_false_eq_true, Int.reduceAdd, Int.reduceSub, Int.reduceMul, Int.reduceLT, Int.reduceLE, Int.reduceEq, Int.reduceNe, List.length_cons, List.length_nil, ↓reduceIte, Nat.reduceAdd, Nat.reduceBEq, Nat.reduceEqDiff, Nat.reduceLeDiff, Int.reduceNeg, reduceCtorEq]
        · have e0 := Int.emod_nonneg ((c.natAbs : Int) * 48271 + 11) (show (2147483647 : Int) ≠ 0 by decide)
          have e1 := Int.emod_lt_of_pos ((c.natAbs : Int) * 48271 + 11) (show (0 : Int) < 2147483647 by decide)
          obtain ⟨ds', x', s4', e, hd'⟩ := draws_small m (.list (ns.map .int)) (.int c) ds (.int c.natAbs) (((c.natAbs : Int) * 48271 + 11) % 2147483647) s4 k hd (by omega) ⟨e0, e1⟩
          have g1 := mul_guard (a := (c.natAbs : Int)) (b := 48271) (i := 70) (j := 20) (natAbs_lt_of (by omega) (by omega)) (by decide) (by decide)
          refine ⟨_, ?_, ds', some (.int c), some (.int c.natAbs), s4', some (.int x'), rfl, k + 60, by omega, hd'⟩
          rw [hp] at hc
          simp only [foT, L__law_draws_5, x_pow 10 18 (by decide), hc, x_mul _ _ g1, x_mod _ 2147483647 (by decide), e, opt_some, sx0, sx1, sx2, sx3, sx4, sx5, sx6, sx7, nm1, List.contains_nil, List.contains_cons, List.all_nil, List.all_cons, List.isEmpty_nil, List.isEmpty_cons, List.map_cons, List.map_nil, Bool.decide_eq_true, Bool.and_true, Bool.true_and, Bool.and_false, Bool.false_and, Bool.or_true, Bool.true_or, Bool.or_false, Bool.false_or, Bool.not_true, Bool.not_false, Bool.false_eq_true, Bool.not_eq_true', decide_true, decide_false, if_true, if_false, decide_eq_true_eq, decide_eq_false_iff_not, Int.cast_ofNat_Int, true_and, false_and, and_true, and_false, not_true_eq_false, not_false_eq_true, Int.reduceAdd, Int.reduceSub, Int.reduceMul, Int.reduceLT, Int.reduceLE, Int.reduceEq, Int.reduceNe, List.length_cons, List.length_nil, ↓reduceIte, Nat.reduceAdd, Nat.reduceBEq, Nat.reduceEqDiff, Nat.reduceLeDiff, Int.reduceNeg, reduceCtorEq])
    rw [h1, h2]
    exact ⟨ds', s2, s3, s4, s5, ⟨h3.1, by have := h3.2; omega⟩, rfl⟩
  obtain ⟨ds, s2, s3, s4, s5, hd, e⟩ := L6
  refine ⟨ds, hd, ?_⟩
  simp only [B__law_draws, e, encI, sx0, sx1, sx2, sx3, sx4, sx5, sx6, sx7, nm1, List.contains_nil, List.contains_cons, List.all_nil, List.all_cons, List.isEmpty_nil, List.isEmpty_cons, List.map_cons, List.map_nil, Bool.decide_eq_true, Bool.and_true, Bool.true_and, Bool.and_false, Bool.false_and, Bool.or_true, Bool.true_or, Bool.or_false, Bool.false_or, Bool.not_true, Bool.not_false, Bool.false_eq_true, Bool.not_eq_true', decide_true, decide_false, if_true, if_false, decide_eq_true_eq, decide_eq_false_iff_not, Int.cast_ofNat_Int, true_and, false_and, and_true, and_false, not_true_eq_false, not_false_eq_true, Int.reduceAdd, Int.reduceSub, Int.reduceMul, Int.reduceLT, Int.reduceLE, Int.reduceEq, Int.reduceNe, List.length_cons, List.length_nil, ↓reduceIte, Nat.reduceAdd, Nat.reduceBEq, Nat.reduceEqDiff, Nat.reduceLeDiff, Int.reduceNeg, reduceCtorEq]

theorem same_as_ok (m k n : Nat) (d : D) (h : Nice k n d) (hk : k ≤ 64) (hn : n ≤ 8000) : SF.run T sub 100 (m + 1) 39 [d, d] = .ok ⟨.bool true, false, []⟩ := by
  have e := x_eq_shaped d d (h.shaped hk) (h.shaped hk)
  rw [h.eqv] at e
  rw [r__law_same_as]; simp only [B__law_same_as, e, h.repr hk hn, sx0, sx1, sx2, sx3, sx4, sx5, sx6, sx7, nm1, List.contains_nil, List.contains_cons, List.all_nil, List.all_cons, List.isEmpty_nil, List.isEmpty_cons, List.map_cons, List.map_nil, Bool.decide_eq_true, Bool.and_true, Bool.true_and, Bool.and_false, Bool.false_and, Bool.or_true, Bool.true_or, Bool.or_false, Bool.false_or, Bool.not_true, Bool.not_false, Bool.false_eq_true, Bool.not_eq_true', decide_true, decide_false, if_true, if_false, decide_eq_true_eq, decide_eq_false_iff_not, Int.cast_ofNat_Int, true_and, false_and, and_true, and_false, not_true_eq_false, not_false_eq_true, Int.reduceAdd, Int.reduceSub, Int.reduceMul, Int.reduceLT, Int.reduceLE, Int.reduceEq, Int.reduceNe, List.length_cons, List.length_nil, ↓reduceIte, Nat.reduceAdd, Nat.reduceBEq, Nat.reduceEqDiff, Nat.reduceLeDiff, Int.reduceNeg, reduceCtorEq]

theorem lim_ge : 3800 ≤ lim := by decide
theorem lim_12 {n : Nat} (h : n ≤ 12) : n ≤ lim := by have := lim_ge; omega
theorem atT {t : List Blk} {k : Nat} {b : Blk} (h : t[k]? = some b) : L2.atI (t.map encB) (k : Int) = some (encB b) := by rw [at_n, List.getElem?_map, h]; rfl
theorem contact_ok (m : Nat) (t : List Blk) (k : Nat) (hk : k < t.length) : SF.run T sub 100 (m + 1) 15 [encT t, .int k] = .ok ⟨.tuple [.int (ctc t k).1, .int (ctc t k).2], false, []⟩ := by
  rw [r_contact]
  have hb : t[k]? = some t[k] := List.getElem?_eq_getElem hk
  unfold ctc
  rw [hb]
  by_cases h0 : k = 0
  · subst h0
    have hx := atT hb
    simp only [Int.cast_ofNat_Int] at hx
    simp only [B_contact, encT, encB, hx, sx0, sx1, sx2, sx3, sx4, sx5, sx6, sx7, nm1, List.contains_nil, List.contains_cons, List.all_nil, List.all_cons, List.isEmpty_nil, List.isEmpty_cons, List.map_cons, List.map_nil, Bool.decide_eq_true, Bool.and_true, Bool.true_and, Bool.and_false, Bool.false_and, Bool.or_true, Bool.true_or, Bool.or_false, Bool.false_or, Bool.not_true, Bool.not_false, Bool.false_eq_true, Bool.not_eq_true', decide_true, decide_false, if_true, if_false, decide_eq_true_eq, decide_eq_false_iff_not, Int.cast_ofNat_Int, true_and, false_and, and_true, and_false, not_true_eq_false, not_false_eq_true, Int.reduceAdd, Int.reduceSub, Int.reduceMul, Int.reduceLT, Int.reduceLE, Int.reduceEq, Int.reduceNe, List.length_cons, List.length_nil, ↓reduceIte, Nat.reduceAdd, Nat.reduceBEq, Nat.reduceEqDiff, Nat.reduceLeDiff, Int.reduceNeg, reduceCtorEq]
  · have h0' : ¬ (k : Int) = 0 := by omega
    have hk1 : k - 1 < t.length := by omega
    have hc : t[k - 1]? = some t[k - 1] := List.getElem?_eq_getElem hk1
    have e : (k : Int) - 1 = ((k - 1 : Nat) : Int) := by omega
    simp only [B_contact, encT, encB, h0, h0', atT hb, e, hc, atT hc, sx0, sx1, sx2, sx3, sx4, sx5, sx6, sx7, nm1, List.contains_nil, List.contains_cons, List.all_nil, List.all_cons, List.isEmpty_nil, List.isEmpty_cons, List.map_cons, List.map_nil, Bool.decide_eq_true, Bool.and_true, Bool.true_and, Bool.and_false, Bool.false_and, Bool.or_true, Bool.true_or, Bool.or_false, Bool.false_or, Bool.not_true, Bool.not_false, Bool.false_eq_true, Bool.not_eq_true', decide_true, decide_false, if_true, if_false, decide_eq_true_eq, decide_eq_false_iff_not, Int.cast_ofNat_Int, true_and, false_and, and_true, and_false, not_true_eq_false, not_false_eq_true, Int.reduceAdd, Int.reduceSub, Int.reduceMul, Int.reduceLT, Int.reduceLE, Int.reduceEq, Int.reduceNe, List.length_cons, List.length_nil, ↓reduceIte, Nat.reduceAdd, Nat.reduceBEq, Nat.reduceEqDiff, Nat.reduceLeDiff, Int.reduceNeg, reduceCtorEq]
theorem weight_from_ok (m : Nat) (t : List Blk) (ht : BT t) (k : Nat) : SF.run T sub 100 (m + 1) 17 [encT t, .int k] = .ok ⟨.int (wt t k), false, []⟩ := by
  rw [r_weight_from]
  have hc := lc_map (T := T) (call := SF.run T sub 100 m) (own := [2]) (tg := Tg.n 2) (it := CI.seq (CE.sl (CE.v 0) (CO.so (CE.v 1)) CO.no)) (cond := CE.k (.bool true)) (elt := CE.o2 Op2.at (CE.v 2) (CE.k (.int 3))) (nv := [.val (encT t), .val (.int k), .emp]) (nv1 := [.val (encT t), .val (.int k), .emp])
    (t.drop k) encB (fun b => .int b.g) (by simp only [encT, List.map_drop, sx0, sx1, sx2, sx3, sx4, sx5, sx6, sx7, nm1, List.contains_nil, List.contains_cons, List.all_nil, List.all_cons, List.isEmpty_nil, List.isEmpty_cons, List.map_cons, List.map_nil, Bool.decide_eq_true, Bool.and_true, Bool.true_and, Bool.and_false, Bool.false_and, Bool.or_true, Bool.true_or, Bool.or_false, Bool.false_or, Bool.not_true, Bool.not_false, Bool.false_eq_true, Bool.not_eq_true', decide_true, decide_false, if_true, if_false, decide_eq_true_eq, decide_eq_false_iff_not, Int.cast_ofNat_Int, true_and, false_and, and_true, and_false, not_true_eq_false, not_false_eq_true, Int.reduceAdd, Int.reduceSub, Int.reduceMul, Int.reduceLT, Int.reduceLE, Int.reduceEq, Int.reduceNe, List.length_cons, List.length_nil, ↓reduceIte, Nat.reduceAdd, Nat.reduceBEq, Nat.reduceEqDiff, Nat.reduceLeDiff, Int.reduceNeg, reduceCtorEq]) rfl (lim_12 (ht.drop k).2) (fun b _ => ⟨[.val (encT t), .val (.int k), .val (encB b)], by simp only [lcT, blank, blankOk, List.set_cons_zero, List.set_cons_succ, encB, sx0, sx1, sx2, sx3, sx4, sx5, sx6, sx7, nm1, List.contains_nil, List.contains_cons, List.all_nil, List.all_cons, List.isEmpty_nil, List.isEmpty_cons, List.map_cons, List.map_nil, Bool.decide_eq_true, Bool.and_true, Bool.true_and, Bool.and_false, Bool.false_and, Bool.or_true, Bool.true_or, Bool.or_false, Bool.false_or, Bool.not_true, Bool.not_false, Bool.false_eq_true, Bool.not_eq_true', decide_true, decide_false, if_true, if_false, decide_eq_true_eq, decide_eq_false_iff_not, Int.cast_ofNat_Int, true_and, false_and, and_true, and_false, not_true_eq_false, not_false_eq_true, Int.reduceAdd, Int.reduceSub, Int.reduceMul, Int.reduceLT, Int.reduceLE, Int.reduceEq, Int.reduceNe, List.length_cons, List.length_nil, ↓reduceIte, Nat.reduceAdd, Nat.reduceBEq, Nat.reduceEqDiff, Nat.reduceLeDiff, Int.reduceNeg, reduceCtorEq], rfl⟩)
  simp only [B_weight_from, L_weight_from_1, hc, y_sum, sx0, sx1, sx2, sx3, sx4, sx5, sx6, sx7, nm1, List.contains_nil, List.contains_cons, List.all_nil, List.all_cons, List.isEmpty_nil, List.isEmpty_cons, List.map_cons, List.map_nil, Bool.decide_eq_true, Bool.and_true, Bool.true_and, Bool.and_false, Bool.false_and, Bool.or_true, Bool.true_or, Bool.or_false, Bool.false_or, Bool.not_true, Bool.not_false, Bool.false_eq_true, Bool.not_eq_true', decide_true, decide_false, if_true, if_false, decide_eq_true_eq, decide_eq_false_iff_not, Int.cast_ofNat_Int, true_and, false_and, and_true, and_false, not_true_eq_false, not_false_eq_true, Int.reduceAdd, Int.reduceSub, Int.reduceMul, Int.reduceLT, Int.reduceLE, Int.reduceEq, Int.reduceNe, List.length_cons, List.length_nil, ↓reduceIte, Nat.reduceAdd, Nat.reduceBEq, Nat.reduceEqDiff, Nat.reduceLeDiff, Int.reduceNeg, reduceCtorEq]
  rfl
theorem moment_from_ok (m : Nat) (t : List Blk) (ht : BT t) (k : Nat) : SF.run T sub 100 (m + 1) 18 [encT t, .int k] = .ok ⟨.int (mo t k), false, []⟩ := by
  rw [r_moment_from]
  have hc : (evB T (SF.run T sub 100 m) L_moment_from_1).v [.val (encT t), .val (.int k), .emp] = .ok (.list ((t.drop k).map fun b => .int (b.g * (2 * b.l + b.w))), true, [.val (encT t), .val (.int k), .emp]) := by
    refine lc_map (t.drop k) encB (fun b => .int (b.g * (2 * b.l + b.w))) (by simp only [encT, List.map_drop, sx0, sx1, sx2, sx3, sx4, sx5, sx6, sx7, nm1, List.contains_nil, List.contains_cons, List.all_nil, List.all_cons, List.isEmpty_nil, List.isEmpty_cons, List.map_cons, List.map_nil, Bool.decide_eq_true, Bool.and_true, Bool.true_and, Bool.and_false, Bool.false_and, Bool.or_true, Bool.true_or, Bool.or_false, Bool.false_or, Bool.not_true, Bool.not_false, Bool.false_eq_true, Bool.not_eq_true', decide_true, decide_false, if_true, if_false, decide_eq_true_eq, decide_eq_false_iff_not, Int.cast_ofNat_Int, true_and, false_and, and_true, and_false, not_true_eq_false, not_false_eq_true, Int.reduceAdd, Int.reduceSub, Int.reduceMul, Int.reduceLT, Int.reduceLE, Int.reduceEq, Int.reduceNe, List.length_cons, List.length_nil, ↓reduceIte, Nat.reduceAdd, Nat.reduceBEq, Nat.reduceEqDiff, Nat.reduceLeDiff, Int.reduceNeg, reduceCtorEq]) rfl (lim_12 (ht.drop k).2) (fun b hb => ⟨[.val (encT t), .val (.int k), .val (encB b)], ?_, rfl⟩)
    obtain ⟨a1, a2, a3, _⟩ := (ht.drop k).1 b hb
    have g1 := mul_guard (a := 2) (b := b.l) (i := 5) (j := 20) (by decide) (natAbs_lt_of (by omega) (by omega)) (by decide)
    have g2 := mul_guard (a := b.g) (b := 2 * b.l + b.w) (i := 25) (j := 20) (natAbs_lt_of (by omega) (by omega)) (natAbs_lt_of (by omega) (by omega)) (by decide)
    simp only [lcT, blank, blankOk, List.set_cons_zero, List.set_cons_succ, encB, x_mul _ _ g1, x_mul _ _ g2, sx0, sx1, sx2, sx3, sx4, sx5, sx6, sx7, nm1, List.contains_nil, List.contains_cons, List.all_nil, List.all_cons, List.isEmpty_nil, List.isEmpty_cons, List.map_cons, List.map_nil, Bool.decide_eq_true, Bool.and_true, Bool.true_and, Bool.and_false, Bool.false_and, Bool.or_true, Bool.true_or, Bool.or_false, Bool.false_or, Bool.not_true, Bool.not_false, Bool.false_eq_true, Bool.not_eq_true', decide_true, decide_false, if_true, if_false, decide_eq_true_eq, decide_eq_false_iff_not, Int.cast_ofNat_Int, true_and, false_and, and_true, and_false, not_true_eq_false, not_false_eq_true, Int.reduceAdd, Int.reduceSub, Int.reduceMul, Int.reduceLT, Int.reduceLE, Int.reduceEq, Int.reduceNe, List.length_cons, List.length_nil, ↓reduceIte, Nat.reduceAdd, Nat.reduceBEq, Nat.reduceEqDiff, Nat.reduceLeDiff, Int.reduceNeg, reduceCtorEq]
  simp only [B_moment_from, hc, y_sum, kx0, kx1, kx2, sx0, sx1, sx2, sx3, sx4, sx5, sx6, sx7, nm1, List.contains_nil, List.contains_cons, List.all_nil, List.all_cons, List.isEmpty_nil, List.isEmpty_cons, List.map_cons, List.map_nil, Bool.decide_eq_true, Bool.and_true, Bool.true_and, Bool.and_false, Bool.false_and, Bool.or_true, Bool.true_or, Bool.or_false, Bool.false_or, Bool.not_true, Bool.not_false, Bool.false_eq_true, Bool.not_eq_true', decide_true, decide_false, if_true, if_false, decide_eq_true_eq, decide_eq_false_iff_not, Int.cast_ofNat_Int, true_and, false_and, and_true, and_false, not_true_eq_false, not_false_eq_true, Int.reduceAdd, Int.reduceSub, Int.reduceMul, Int.reduceLT, Int.reduceLE, Int.reduceEq, Int.reduceNe, List.length_cons, List.length_nil, ↓reduceIte, Nat.reduceAdd, Nat.reduceBEq, Nat.reduceEqDiff, Nat.reduceLeDiff, Int.reduceNeg, reduceCtorEq]
  rfl
theorem centre_from_ok (m : Nat) (t : List Blk) (ht : BT t) (k : Nat) (hk : k < t.length) : SF.run T sub 100 (m + 3) 19 [encT t, .int k] = .ok ⟨encR (ctr t k), false, []⟩ := by
  rw [r_centre_from]
  have hw := wt_bound ht k
  have hp := wt_pos ht hk
  have g1 := mul_guard (a := 2) (b := wt t k) (i := 5) (j := 30) (by decide) (natAbs_lt_of (by omega) (by omega)) (by decide)
  have hf := fun m => fraction_of_ok m (mo t k) (2 * wt t k).toNat (by omega) (Nat.lt_of_lt_of_le (show (2 * wt t k).toNat < 2 ^ 40 by omega) (Nat.pow_le_pow_right (by decide) (by decide)))
  rw [Int.toNat_of_nonneg (by omega)] at hf
  simp only [B_centre_from, moment_from_ok _ t ht, weight_from_ok _ t ht, x_mul _ _ g1, hf, kx0, kx1, kx2, sx0, sx1, sx2, sx3, sx4, sx5, sx6, sx7, nm1, List.contains_nil, List.contains_cons, List.all_nil, List.all_cons, List.isEmpty_nil, List.isEmpty_cons, List.map_cons, List.map_nil, Bool.decide_eq_true, Bool.and_true, Bool.true_and, Bool.and_false, Bool.false_and, Bool.or_true, Bool.true_or, Bool.or_false, Bool.false_or, Bool.not_true, Bool.not_false, Bool.false_eq_true, Bool.not_eq_true', decide_true, decide_false, if_true, if_false, decide_eq_true_eq, decide_eq_false_iff_not, Int.cast_ofNat_Int, true_and, false_and, and_true, and_false, not_true_eq_false, not_false_eq_true, Int.reduceAdd, Int.reduceSub, Int.reduceMul, Int.reduceLT, Int.reduceLE, Int.reduceEq, Int.reduceNe, List.length_cons, List.length_nil, ↓reduceIte, Nat.reduceAdd, Nat.reduceBEq, Nat.reduceEqDiff, Nat.reduceLeDiff, Int.reduceNeg, reduceCtorEq]
  rfl
theorem side_of_ok (m : Nat) (t : List Blk) (ht : BT t) (k : Nat) (hk : k < t.length) : SF.run T sub 100 (m + 4) 20 [encT t, .int k] = .ok ⟨sideD t k, false, []⟩ := by
  rw [r_side_of]
  have hc := ctr_sm ht hk
  have hl := ctc_sm ht k
  have l1 := fun m => is_less_ok m (ctr t k) ((ctc t k).1 : Rat) (Bd.of hc (by decide)) (Bd.of hl.1 (by decide))
  have l2 := fun m => is_less_ok m ((ctc t k).2 : Rat) (ctr t k) (Bd.of hl.2 (by decide)) (Bd.of hc (by decide))
  simp only [B_side_of, centre_from_ok _ t ht k hk, contact_ok _ t k hk, whole_ok, l1, l2, kx0, kx1, kx2, sx0, sx1, sx2, sx3, sx4, sx5, sx6, sx7, nm1, List.contains_nil, List.contains_cons, List.all_nil, List.all_cons, List.isEmpty_nil, List.isEmpty_cons, List.map_cons, List.map_nil, Bool.decide_eq_true, Bool.and_true, Bool.true_and, Bool.and_false, Bool.false_and, Bool.or_true, Bool.true_or, Bool.or_false, Bool.false_or, Bool.not_true, Bool.not_false, Bool.false_eq_true, Bool.not_eq_true', decide_true, decide_false, if_true, if_false, decide_eq_true_eq, decide_eq_false_iff_not, Int.cast_ofNat_Int, true_and, false_and, and_true, and_false, not_true_eq_false, not_false_eq_true, Int.reduceAdd, Int.reduceSub, Int.reduceMul, Int.reduceLT, Int.reduceLE, Int.reduceEq, Int.reduceNe, List.length_cons, List.length_nil, ↓reduceIte, Nat.reduceAdd, Nat.reduceBEq, Nat.reduceEqDiff, Nat.reduceLeDiff, Int.reduceNeg, reduceCtorEq]
  unfold sideD
  split
  · rfl
  · split <;> rfl
theorem pressure_ok (m : Nat) (t : List Blk) (ht : TV t) (k : Nat) (hk : k < t.length) : SF.run T sub 100 (m + 5) 22 [encT t, .int k] = .ok ⟨enc2 (prs t k), false, []⟩ := by
  rw [r_pressure]
  have hb := ht.bt
  have hc := ctr_sm hb hk
  have hl := ctc_sm hb k
  have hw := wt_sm hb k
  have hlt := ht.ct k hk
  have hcb := ctc_bound hb k
  unfold prs
  by_cases h : (ctc t k).1 = (ctc t k).2
  · simp only [B_pressure, weight_from_ok _ t hb, contact_ok _ t k hk, whole_ok, h, kx0, kx1, kx2, sx0, sx1, sx2, sx3, sx4, sx5, sx6, sx7, nm1, List.contains_nil, List.contains_cons, List.all_nil, List.all_cons, List.isEmpty_nil, List.isEmpty_cons, List.map_cons, List.map_nil, Bool.decide_eq_true, Bool.and_true, Bool.true_and, Bool.and_false, Bool.false_and, Bool.or_true, Bool.true_or, Bool.or_false, Bool.false_or, Bool.not_true, Bool.not_false, Bool.false_eq_true, Bool.not_eq_true', decide_true, decide_false, if_true, if_false, decide_eq_true_eq, decide_eq_false_iff_not, Int.cast_ofNat_Int, true_and, false_and, and_true, and_false, not_true_eq_false, not_false_eq_true, Int.reduceAdd, Int.reduceSub, Int.reduceMul, Int.reduceLT, Int.reduceLE, Int.reduceEq, Int.reduceNe, List.length_cons, List.length_nil, ↓reduceIte, Nat.reduceAdd, Nat.reduceBEq, Nat.reduceEqDiff, Nat.reduceLeDiff, Int.reduceNeg, reduceCtorEq]
    rfl
  · have s1 := fun m => subtract_ok m (ctr t k) ((ctc t k).1 : Rat) (Bd.of hc (by decide)) (Bd.of hl.1 (by decide))
    have b1 := hc.sub hl.1
    have s2 := fun m => multiply_ok m (wt t k : Rat) (ctr t k - ((ctc t k).1 : Rat)) (Bd.of hw (by decide)) (Bd.of b1 (by decide))
    have b2 := hw.mul b1
    have b3 : Sm 14 (((ctc t k).2 - (ctc t k).1 : Int) : Rat) := int_sm (by omega) (by decide)
    have s3 := fun m => divide_ok m ((wt t k : Rat) * (ctr t k - ((ctc t k).1 : Rat))) (((ctc t k).2 - (ctc t k).1 : Int) : Rat) (Bd.of b2 (by decide)) (Bd.of b3 (by decide)) (by show 0 < (ctc t k).2 - (ctc t k).1; omega)
    have b4 : Sm 200 ((wt t k : Rat) * (ctr t k - ((ctc t k).1 : Rat)) / (((ctc t k).2 - (ctc t k).1 : Int) : Rat)) := by
      rw [Rat.div_def]
      have : Sm 14 ((((ctc t k).2 - (ctc t k).1 : Int) : Rat)⁻¹) := by
        constructor
        · rw [Rat.num_inv]
          have : (((ctc t k).2 - (ctc t k).1 : Int) : Rat).num.sign = 1 := Int.sign_eq_one_of_pos (by show 0 < (ctc t k).2 - (ctc t k).1; omega)
          rw [this]; show (1 * ((1 : Nat) : Int)).natAbs < 2 ^ 14; decide
        · rw [Rat.den_inv]
          split
          · decide
          · exact b3.1
      exact (b2.mul this).mono (by decide)
    have s4 := fun m => subtract_ok m (wt t k : Rat) ((wt t k : Rat) * (ctr t k - ((ctc t k).1 : Rat)) / (((ctc t k).2 - (ctc t k).1 : Int) : Rat)) (Bd.of hw (by decide)) (Bd.of b4 (by decide))
    simp only [B_pressure, weight_from_ok _ t hb, centre_from_ok _ t hb k hk, contact_ok _ t k hk, whole_ok, h, s1, s2, s3, s4, enc2, kx0, kx1, kx2, sx0, sx1, sx2, sx3, sx4, sx5, sx6, sx7, nm1, List.contains_nil, List.contains_cons, List.all_nil, List.all_cons, List.isEmpty_nil, List.isEmpty_cons, List.map_cons, List.map_nil, Bool.decide_eq_true, Bool.and_true, Bool.true_and, Bool.and_false, Bool.false_and, Bool.or_true, Bool.true_or, Bool.or_false, Bool.false_or, Bool.not_true, Bool.not_false, Bool.false_eq_true, Bool.not_eq_true', decide_true, decide_false, if_true, if_false, decide_eq_true_eq, decide_eq_false_iff_not, Int.cast_ofNat_Int, true_and, false_and, and_true, and_false, not_true_eq_false, not_false_eq_true, Int.reduceAdd, Int.reduceSub, Int.reduceMul, Int.reduceLT, Int.reduceLE, Int.reduceEq, Int.reduceNe, List.length_cons, List.length_nil, ↓reduceIte, Nat.reduceAdd, Nat.reduceBEq, Nat.reduceEqDiff, Nat.reduceLeDiff, Int.reduceNeg, reduceCtorEq]

def rngs : D := .tuple [.tuple [.int (-1000), .int 1000], .tuple [.int 1, .int 1000], .tuple [.int 1, .int 1000000]]
theorem blocks_comp (m : Nat) (a : D) (b : Blk) (hb : BOk b) : (evB T (SF.run T sub 100 (m + 2)) L_are_blocks_1).v [.val a, .val rngs, .val (encB b), .emp, .emp, .emp] = .ok (.list [.bool true, .bool true, .bool true], true, [.val a, .val rngs, .val (encB b), .emp, .emp, .emp]) := by
  obtain ⟨a1, a2, a3, _⟩ := hb
  have h := lc_map (T := T) (call := SF.run T sub 100 (m + 2)) (own := [3, 4, 5]) (tg := (Tg.t (Tgs.cons (Tg.n 3) (Tgs.cons (Tg.t (Tgs.cons (Tg.n 4) (Tgs.cons (Tg.n 5) Tgs.nil))) Tgs.nil)))) (it := (CI.zip2 (CE.sl (CE.v 2) (CO.so (CE.k (.int 1))) CO.no) (CE.v 1))) (cond := (CE.k (.bool true))) (elt := (CE.call 1 (CEs.cons (CE.v 3) (CEs.cons (CE.v 4) (CEs.cons (CE.v 5) CEs.nil)))))
    (nv := [.val a, .val rngs, .val (encB b), .emp, .emp, .emp]) (nv1 := [.val a, .val rngs, .val (encB b), .emp, .emp, .emp])
    [(b.l, (-1000 : Int), (1000 : Int)), (b.w, 1, 1000), (b.g, 1, 1000000)] (fun p => .tuple [.int p.1, .tuple [.int p.2.1, .int p.2.2]]) (fun p => .bool (decide (p.2.1 ≤ p.1) && decide (p.1 ≤ p.2.2)))
    (by simp only [encB, rngs, sx0, sx1, sx2, sx3, sx4, sx5, sx6, sx7, nm1, List.contains_nil, List.contains_cons, List.all_nil, List.all_cons, List.isEmpty_nil, List.isEmpty_cons, List.map_cons, List.map_nil, Bool.decide_eq_true, Bool.and_true, Bool.true_and, Bool.and_false, Bool.false_and, Bool.or_true, Bool.true_or, Bool.or_false, Bool.false_or, Bool.not_true, Bool.not_false, Bool.false_eq_true, Bool.not_eq_true', decide_true, decide_false, if_true, if_false, decide_eq_true_eq, decide_eq_false_iff_not, Int.cast_ofNat_Int, true_and, false_and, and_true, and_false, not_true_eq_false, not_false_eq_true, Int.reduceAdd, Int.reduceSub, Int.reduceMul, Int.reduceLT, Int.reduceLE, Int.reduceEq, Int.reduceNe, List.length_cons, List.length_nil, ↓reduceIte, Nat.reduceAdd, Nat.reduceBEq, Nat.reduceEqDiff, Nat.reduceLeDiff, Int.reduceNeg, reduceCtorEq]; rfl) rfl (lim_12 (n := 3) (by decide)) (fun p hp => ⟨[.val a, .val rngs, .val (encB b), .val (.int p.1), .val (.int p.2.1), .val (.int p.2.2)], by simp only [lcT, blank, blankOk, List.set_cons_zero, List.set_cons_succ, in_range_i, kx0, kx1, kx2, sx0, sx1, sx2, sx3, sx4, sx5, sx6, sx7, nm1, List.contains_nil, List.contains_cons, List.all_nil, List.all_cons, List.isEmpty_nil, List.isEmpty_cons, List.map_cons, List.map_nil, Bool.decide_eq_true, Bool.and_true, Bool.true_and, Bool.and_false, Bool.false_and, Bool.or_true, Bool.true_or, Bool.or_false, Bool.false_or, Bool.not_true, Bool.not_false, Bool.false_eq_true, Bool.not_eq_true', decide_true, decide_false, if_true, if_false, decide_eq_true_eq, decide_eq_false_iff_not, Int.cast_ofNat_Int, true_and, false_and, and_true, and_false, not_true_eq_false, not_false_eq_true, Int.reduceAdd, Int.reduceSub, Int.reduceMul, Int.reduceLT, Int.reduceLE, Int.reduceEq, Int.reduceNe, List.length_cons, List.length_nil, ↓reduceIte, Nat.reduceAdd, Nat.reduceBEq, Nat.reduceEqDiff, Nat.reduceLeDiff, Int.reduceNeg, reduceCtorEq], rfl⟩)
  unfold L_are_blocks_1
  rw [h]
  simp only [List.map_cons, List.map_nil, decide_eq_true a1.1, decide_eq_true a1.2, decide_eq_true a2.1, decide_eq_true a2.2, decide_eq_true a3.1, decide_eq_true a3.2, Bool.and_true]
theorem are_blocks_ok (m : Nat) (t : List Blk) (ht : BT t) (hd : (t.map (·.nm)).Nodup) : SF.run T sub 100 (m + 3) 14 [encT t, rngs] = .ok ⟨.bool true, false, []⟩ := by
  rw [r_are_blocks]
  have y3 : op1 .all (.list [.bool true, .bool true, .bool true]) = .ok (.bool true, false) := rfl
  have hlen : ¬ (12 : Int) < (t.length : Int) := by have := ht.2; omega
  have hloop : ∃ s, SF.exS T (SF.run T sub 100 (m + 2)) sub 100 L_are_blocks_3 [.val (encT t), .val rngs, .emp, .emp, .emp, .emp] = .ok (.nx, [.val (encT t), .val rngs, .opt s, .emp, .emp, .emp]) := by
    unfold L_are_blocks_3
    simp only [zs_for, encT, sx0, sx1, sx2, sx3, sx4, sx5, sx6, sx7, nm1, List.contains_nil, List.contains_cons, List.all_nil, List.all_cons, List.isEmpty_nil, List.isEmpty_cons, List.map_cons, List.map_nil, Bool.decide_eq_true, Bool.and_true, Bool.true_and, Bool.and_false, Bool.false_and, Bool.or_true, Bool.true_or, Bool.or_false, Bool.false_or, Bool.not_true, Bool.not_false, Bool.false_eq_true, Bool.not_eq_true', decide_true, decide_false, if_true, if_false, decide_eq_true_eq, decide_eq_false_iff_not, Int.cast_ofNat_Int, true_and, false_and, and_true, and_false, not_true_eq_false, not_false_eq_true, Int.reduceAdd, Int.reduceSub, Int.reduceMul, Int.reduceLT, Int.reduceLE, Int.reduceEq, Int.reduceNe, List.length_cons, List.length_nil, ↓reduceIte, Nat.reduceAdd, Nat.reduceBEq, Nat.reduceEqDiff, Nat.reduceLeDiff, Int.reduceNeg, reduceCtorEq]
    obtain ⟨nv', h1, ⟨s, h2⟩, _⟩ := for_all (b := foT T (SF.run T sub 100 (m + 2)) sub 100 (Tg.n 2) L_are_blocks_2) encB
      (fun rest nv => (∃ s, nv = [.val (encT t), .val rngs, .opt s, .emp, .emp, .emp]) ∧ ∀ b ∈ rest, BOk b) t [.val (encT t), .val rngs, .emp, .emp, .emp, .emp] ⟨⟨none, rfl⟩, ht.1⟩ (by
        rintro b rest nv ⟨⟨s, rfl⟩, hb⟩
        refine ⟨_, ?_, ⟨some (encB b), rfl⟩, fun x hx => hb x (List.mem_cons_of_mem _ hx)⟩
        have hc := fun a => blocks_comp m a b (hb b (List.mem_cons_self ..))
        simp only [encB, rngs] at hc
        simp only [foT, L_are_blocks_2, encB, rngs, hc, y3, List.length_cons, List.length_nil, opt_some, kx0, kx1, kx2, sx0, sx1, sx2, sx3, sx4, sx5, sx6, sx7, nm1, List.contains_nil, List.contains_cons, List.all_nil, List.all_cons, List.isEmpty_nil, List.isEmpty_cons, List.map_cons, List.map_nil, Bool.decide_eq_true, Bool.and_true, Bool.true_and, Bool.and_false, Bool.false_and, Bool.or_true, Bool.true_or, Bool.or_false, Bool.false_or, Bool.not_true, Bool.not_false, Bool.false_eq_true, Bool.not_eq_true', decide_true, decide_false, if_true, if_false, decide_eq_true_eq, decide_eq_false_iff_not, Int.cast_ofNat_Int, true_and, false_and, and_true, and_false, not_true_eq_false, not_false_eq_true, Int.reduceAdd, Int.reduceSub, Int.reduceMul, Int.reduceLT, Int.reduceLE, Int.reduceEq, Int.reduceNe, List.length_cons, List.length_nil, ↓reduceIte, Nat.reduceAdd, Nat.reduceBEq, Nat.reduceEqDiff, Nat.reduceLeDiff, Int.reduceNeg, reduceCtorEq])
    rw [show (encT t) = PyData.tuple (t.map encB) from rfl] at h1 h2
    rw [h1, h2]; exact ⟨s, rfl⟩
  obtain ⟨s, hloop⟩ := hloop
  have hdict : (evB T (SF.run T sub 100 (m + 2)) L_are_blocks_4).v [.val (encT t), .val rngs, .opt s, .emp, .emp, .emp] = .ok (.dict (t.map fun b => (.str b.nm, .bool true)), true, [.val (encT t), .val rngs, .opt s, .emp, .emp, .emp]) := by
    have h := dc_map (T := T) (call := SF.run T sub 100 (m + 2)) (own := [2]) (tg := (Tg.n 2)) (it := (CI.seq (CE.v 0))) (cond := (CE.k (.bool true))) (key := (CE.o2 Op2.at (CE.v 2) (CE.k (.int 0)))) (elt := (CE.k (.bool true)))
      (nv := [.val (encT t), .val rngs, .opt s, .emp, .emp, .emp]) (nv1 := [.val (encT t), .val rngs, .opt s, .emp, .emp, .emp]) t encB (fun b => .str b.nm) (fun _ => .bool true)
      (by simp only [encT, sx0, sx1, sx2, sx3, sx4, sx5, sx6, sx7, nm1, List.contains_nil, List.contains_cons, List.all_nil, List.all_cons, List.isEmpty_nil, List.isEmpty_cons, List.map_cons, List.map_nil, Bool.decide_eq_true, Bool.and_true, Bool.true_and, Bool.and_false, Bool.false_and, Bool.or_true, Bool.true_or, Bool.or_false, Bool.false_or, Bool.not_true, Bool.not_false, Bool.false_eq_true, Bool.not_eq_true', decide_true, decide_false, if_true, if_false, decide_eq_true_eq, decide_eq_false_iff_not, Int.cast_ofNat_Int, true_and, false_and, and_true, and_false, not_true_eq_false, not_false_eq_true, Int.reduceAdd, Int.reduceSub, Int.reduceMul, Int.reduceLT, Int.reduceLE, Int.reduceEq, Int.reduceNe, List.length_cons, List.length_nil, ↓reduceIte, Nat.reduceAdd, Nat.reduceBEq, Nat.reduceEqDiff, Nat.reduceLeDiff, Int.reduceNeg, reduceCtorEq]) (by cases s <;> rfl) (lim_12 ht.2) (fun _ _ => rfl) (fun b _ => ⟨[.val (encT t), .val rngs, .val (encB b), .emp, .emp, .emp], by simp only [dcT, blank, blankOk, List.set_cons_zero, List.set_cons_succ, encB, sx0, sx1, sx2, sx3, sx4, sx5, sx6, sx7, nm1, List.contains_nil, List.contains_cons, List.all_nil, List.all_cons, List.isEmpty_nil, List.isEmpty_cons, List.map_cons, List.map_nil, Bool.decide_eq_true, Bool.and_true, Bool.true_and, Bool.and_false, Bool.false_and, Bool.or_true, Bool.true_or, Bool.or_false, Bool.false_or, Bool.not_true, Bool.not_false, Bool.false_eq_true, Bool.not_eq_true', decide_true, decide_false, if_true, if_false, decide_eq_true_eq, decide_eq_false_iff_not, Int.cast_ofNat_Int, true_and, false_and, and_true, and_false, not_true_eq_false, not_false_eq_true, Int.reduceAdd, Int.reduceSub, Int.reduceMul, Int.reduceLT, Int.reduceLE, Int.reduceEq, Int.reduceNe, List.length_cons, List.length_nil, ↓reduceIte, Nat.reduceAdd, Nat.reduceBEq, Nat.reduceEqDiff, Nat.reduceLeDiff, Int.reduceNeg, reduceCtorEq], rfl⟩)
    unfold L_are_blocks_4
    rw [h, dPuts_nodup _ _ (by
      rw [List.nil_append, List.pairwise_map]
      rw [List.nodup_iff_pairwise_ne, List.pairwise_map] at hd
      exact hd.imp fun {a b} h => by rw [keyEq_s]; exact beq_false_of_ne (Ne.symm h))]
    rfl
  simp only [encT] at hloop hdict
  simp only [B_are_blocks, encT, hloop, hdict, List.length_map, hlen, kx0, kx1, kx2, sx0, sx1, sx2, sx3, sx4, sx5, sx6, sx7, nm1, List.contains_nil, List.contains_cons, List.all_nil, List.all_cons, List.isEmpty_nil, List.isEmpty_cons, List.map_cons, List.map_nil, Bool.decide_eq_true, Bool.and_true, Bool.true_and, Bool.and_false, Bool.false_and, Bool.or_true, Bool.true_or, Bool.or_false, Bool.false_or, Bool.not_true, Bool.not_false, Bool.false_eq_true, Bool.not_eq_true', decide_true, decide_false, if_true, if_false, decide_eq_true_eq, decide_eq_false_iff_not, Int.cast_ofNat_Int, true_and, false_and, and_true, and_false, not_true_eq_false, not_false_eq_true, Int.reduceAdd, Int.reduceSub, Int.reduceMul, Int.reduceLT, Int.reduceLE, Int.reduceEq, Int.reduceNe, List.length_cons, List.length_nil, ↓reduceIte, Nat.reduceAdd, Nat.reduceBEq, Nat.reduceEqDiff, Nat.reduceLeDiff, Int.reduceNeg, reduceCtorEq]
theorem demand_ok (m : Nat) (t : List Blk) (ht : TV t) : SF.run T sub 100 (m + 4) 16 [encT t] = .ok ⟨.none, false, []⟩ := by
  rw [r_demand_tower]
  have hb := ht.bt
  have e1 := x_eq_shaped (encT t) (.tuple []) (encT_shaped hb) rfl
  have e2 : PyData.eqv (encT t) (.tuple []) = false := by
    cases hc : t with
    | nil => exact absurd hc ht.ne
    | cons b l => rfl
  rw [e2] at e1
  have hloop : ∃ s1 s2 s3, SF.exS T (SF.run T sub 100 (m + 3)) sub 100 L_demand_tower_2 [.val (encT t), .emp, .emp, .emp] = .ok (.nx, [.val (encT t), .opt s1, .opt s2, .opt s3]) := by
    unfold L_demand_tower_2
    have hr := rangeL_0 t.length
    simp only [zs_for, encT, List.length_map, smallI_nat (show t.length < 2 ^ 40 by have := hb.2; omega), hr, sx0, sx1, sx2, sx3, sx4, sx5, sx6, sx7, nm1, List.contains_nil, List.contains_cons, List.all_nil, List.all_cons, List.isEmpty_nil, List.isEmpty_cons, List.map_cons, List.map_nil, Bool.decide_eq_true, Bool.and_true, Bool.true_and, Bool.and_false, Bool.false_and, Bool.or_true, Bool.true_or, Bool.or_false, Bool.false_or, Bool.not_true, Bool.not_false, Bool.false_eq_true, Bool.not_eq_true', decide_true, decide_false, if_true, if_false, decide_eq_true_eq, decide_eq_false_iff_not, Int.cast_ofNat_Int, true_and, false_and, and_true, and_false, not_true_eq_false, not_false_eq_true, Int.reduceAdd, Int.reduceSub, Int.reduceMul, Int.reduceLT, Int.reduceLE, Int.reduceEq, Int.reduceNe, List.length_cons, List.length_nil, ↓reduceIte, Nat.reduceAdd, Nat.reduceBEq, Nat.reduceEqDiff, Nat.reduceLeDiff, Int.reduceNeg, reduceCtorEq]
    obtain ⟨nv', h1, ⟨s1, s2, s3, h2⟩, _⟩ := for_all (b := foT T (SF.run T sub 100 (m + 3)) sub 100 (Tg.n 1) L_demand_tower_1) (fun (i : Nat) => PyData.int (i : Int))
      (fun rest nv => (∃ s1 s2 s3, nv = [.val (encT t), .opt s1, .opt s2, .opt s3]) ∧ ∀ i ∈ rest, i < t.length) (List.range t.length) [.val (encT t), .emp, .emp, .emp] ⟨⟨none, none, none, rfl⟩, fun i hi => List.mem_range.mp hi⟩ (by
        rintro i rest nv ⟨⟨s1, s2, s3, rfl⟩, hi⟩
        have hk := hi i (List.mem_cons_self ..)
        have hc : ¬ (ctc t i).2 < (ctc t i).1 := by have := ht.ct i hk; omega
        refine ⟨_, ?_, ⟨some (.int i), some (.int (ctc t i).1), some (.int (ctc t i).2), rfl⟩, fun x hx => hi x (List.mem_cons_of_mem _ hx)⟩
        simp only [foT, L_demand_tower_1, contact_ok _ t i hk, hc, opt_some, kx0, kx1, kx2, sx0, sx1, sx2, sx3, sx4, sx5, sx6, sx7, nm1, List.contains_nil, List.contains_cons, List.all_nil, List.all_cons, List.isEmpty_nil, List.isEmpty_cons, List.map_cons, List.map_nil, Bool.decide_eq_true, Bool.and_true, Bool.true_and, Bool.and_false, Bool.false_and, Bool.or_true, Bool.true_or, Bool.or_false, Bool.false_or, Bool.not_true, Bool.not_false, Bool.false_eq_true, Bool.not_eq_true', decide_true, decide_false, if_true, if_false, decide_eq_true_eq, decide_eq_false_iff_not, Int.cast_ofNat_Int, true_and, false_and, and_true, and_false, not_true_eq_false, not_false_eq_true, Int.reduceAdd, Int.reduceSub, Int.reduceMul, Int.reduceLT, Int.reduceLE, Int.reduceEq, Int.reduceNe, List.length_cons, List.length_nil, ↓reduceIte, Nat.reduceAdd, Nat.reduceBEq, Nat.reduceEqDiff, Nat.reduceLeDiff, Int.reduceNeg, reduceCtorEq])
    rw [show (encT t) = PyData.tuple (t.map encB) from rfl] at h1 h2
    rw [h1, h2]; exact ⟨s1, s2, s3, rfl⟩
  obtain ⟨s1, s2, s3, hloop⟩ := hloop
  have ha := fun m => are_blocks_ok m t hb ht.nd
  simp only [rngs] at ha
  simp only [B_demand_tower, ha, e1, hloop, kx0, kx1, kx2, sx0, sx1, sx2, sx3, sx4, sx5, sx6, sx7, nm1, List.contains_nil, List.contains_cons, List.all_nil, List.all_cons, List.isEmpty_nil, List.isEmpty_cons, List.map_cons, List.map_nil, Bool.decide_eq_true, Bool.and_true, Bool.true_and, Bool.and_false, Bool.false_and, Bool.or_true, Bool.true_or, Bool.or_false, Bool.false_or, Bool.not_true, Bool.not_false, Bool.false_eq_true, Bool.not_eq_true', decide_true, decide_false, if_true, if_false, decide_eq_true_eq, decide_eq_false_iff_not, Int.cast_ofNat_Int, true_and, false_and, and_true, and_false, not_true_eq_false, not_false_eq_true, Int.reduceAdd, Int.reduceSub, Int.reduceMul, Int.reduceLT, Int.reduceLE, Int.reduceEq, Int.reduceNe, List.length_cons, List.length_nil, ↓reduceIte, Nat.reduceAdd, Nat.reduceBEq, Nat.reduceEqDiff, Nat.reduceLeDiff, Int.reduceNeg, reduceCtorEq]
theorem centres_ok (m : Nat) (t : List Blk) (ht : TV t) : SF.run T sub 100 (m + 5) 21 [encT t] = .ok ⟨.tuple ((List.range t.length).map fun k => encR (ctr t k)), false, []⟩ := by
  rw [r_centres]
  have hr := rangeL_0 t.length
  have hc : (evB T (SF.run T sub 100 (m + 4)) L_centres_1).v [.val (encT t), .emp] = .ok (.list ((List.range t.length).map fun k => encR (ctr t k)), true, [.val (encT t), .emp]) := by
    refine lc_map (List.range t.length) (fun (i : Nat) => PyData.int (i : Int)) (fun k => encR (ctr t k)) (by simp only [encT, List.length_map, smallI_nat (show t.length < 2 ^ 40 by have := ht.bt.2; omega), hr, sx0, sx1, sx2, sx3, sx4, sx5, sx6, sx7, nm1, List.contains_nil, List.contains_cons, List.all_nil, List.all_cons, List.isEmpty_nil, List.isEmpty_cons, List.map_cons, List.map_nil, Bool.decide_eq_true, Bool.and_true, Bool.true_and, Bool.and_false, Bool.false_and, Bool.or_true, Bool.true_or, Bool.or_false, Bool.false_or, Bool.not_true, Bool.not_false, Bool.false_eq_true, Bool.not_eq_true', decide_true, decide_false, if_true, if_false, decide_eq_true_eq, decide_eq_false_iff_not, Int.cast_ofNat_Int, true_and, false_and, and_true, and_false, not_true_eq_false, not_false_eq_true, Int.reduceAdd, Int.reduceSub, Int.reduceMul, Int.reduceLT, Int.reduceLE, Int.reduceEq, Int.reduceNe, List.length_cons, List.length_nil, ↓reduceIte, Nat.reduceAdd, Nat.reduceBEq, Nat.reduceEqDiff, Nat.reduceLeDiff, Int.reduceNeg, reduceCtorEq]) rfl (by rw [List.length_range]; exact lim_12 ht.bt.2)
      (fun k hk => ⟨[.val (encT t), .val (.int k)], by simp only [lcT, blank, blankOk, List.set_cons_zero, List.set_cons_succ, centre_from_ok _ t ht.bt k (List.mem_range.mp hk), kx0, kx1, kx2, sx0, sx1, sx2, sx3, sx4, sx5, sx6, sx7, nm1, List.contains_nil, List.contains_cons, List.all_nil, List.all_cons, List.isEmpty_nil, List.isEmpty_cons, List.map_cons, List.map_nil, Bool.decide_eq_true, Bool.and_true, Bool.true_and, Bool.and_false, Bool.false_and, Bool.or_true, Bool.true_or, Bool.or_false, Bool.false_or, Bool.not_true, Bool.not_false, Bool.false_eq_true, Bool.not_eq_true', decide_true, decide_false, if_true, if_false, decide_eq_true_eq, decide_eq_false_iff_not, Int.cast_ofNat_Int, true_and, false_and, and_true, and_false, not_true_eq_false, not_false_eq_true, Int.reduceAdd, Int.reduceSub, Int.reduceMul, Int.reduceLT, Int.reduceLE, Int.reduceEq, Int.reduceNe, List.length_cons, List.length_nil, ↓reduceIte, Nat.reduceAdd, Nat.reduceBEq, Nat.reduceEqDiff, Nat.reduceLeDiff, Int.reduceNeg, reduceCtorEq], rfl⟩)
  simp only [B_centres, demand_ok _ t ht, hc, kx0, kx1, kx2, sx0, sx1, sx2, sx3, sx4, sx5, sx6, sx7, nm1, List.contains_nil, List.contains_cons, List.all_nil, List.all_cons, List.isEmpty_nil, List.isEmpty_cons, List.map_cons, List.map_nil, Bool.decide_eq_true, Bool.and_true, Bool.true_and, Bool.and_false, Bool.false_and, Bool.or_true, Bool.true_or, Bool.or_false, Bool.false_or, Bool.not_true, Bool.not_false, Bool.false_eq_true, Bool.not_eq_true', decide_true, decide_false, if_true, if_false, decide_eq_true_eq, decide_eq_false_iff_not, Int.cast_ofNat_Int, true_and, false_and, and_true, and_false, not_true_eq_false, not_false_eq_true, Int.reduceAdd, Int.reduceSub, Int.reduceMul, Int.reduceLT, Int.reduceLE, Int.reduceEq, Int.reduceNe, List.length_cons, List.length_nil, ↓reduceIte, Nat.reduceAdd, Nat.reduceBEq, Nat.reduceEqDiff, Nat.reduceLeDiff, Int.reduceNeg, reduceCtorEq]

/-! stands, raised -/
def tipsD (t : List Blk) (k : Nat) : D := .tuple [.str "tips", .int k, sideD t k]
def tip? (t : List Blk) (k : Nat) : Bool := !isNone (sideD t k)
def firstTip (t : List Blk) : Option Nat := (List.range t.length).find? (tip? t)
def forcesD (t : List Blk) : D := .tuple ((List.range t.length).map fun k => enc2 (prs t k))
def standsD (t : List Blk) : D := match firstTip t with
  | some k => tipsD t k
  | none => .tuple [.str "stands", forcesD t]
theorem evI_len (call : Call) (t : List Blk) (ht : BT t) (r : Nv) : evI T call (CI.rng (CEs.cons (CE.o1 Op1.len (CE.v 0)) CEs.nil)) (.val (encT t) :: r) = .ok ((List.range t.length).map (fun (i : Nat) => PyData.int (i : Int)), .val (encT t) :: r) := by
  have hr := rangeL_0 t.length
  simp only [encT, List.length_map, smallI_nat (show t.length < 2 ^ 40 by have := ht.2; omega), hr, sx0, sx1, sx2, sx3, sx4, sx5, sx6, sx7, nm1, List.contains_nil, List.contains_cons, List.all_nil, List.all_cons, List.isEmpty_nil, List.isEmpty_cons, List.map_cons, List.map_nil, Bool.decide_eq_true, Bool.and_true, Bool.true_and, Bool.and_false, Bool.false_and, Bool.or_true, Bool.true_or, Bool.or_false, Bool.false_or, Bool.not_true, Bool.not_false, Bool.false_eq_true, Bool.not_eq_true', decide_true, decide_false, if_true, if_false, decide_eq_true_eq, decide_eq_false_iff_not, Int.cast_ofNat_Int, true_and, false_and, and_true, and_false, not_true_eq_false, not_false_eq_true, Int.reduceAdd, Int.reduceSub, Int.reduceMul, Int.reduceLT, Int.reduceLE, Int.reduceEq, Int.reduceNe, List.length_cons, List.length_nil, ↓reduceIte, Nat.reduceAdd, Nat.reduceBEq, Nat.reduceEqDiff, Nat.reduceLeDiff, Int.reduceNeg, reduceCtorEq]
theorem stands_loop (m : Nat) (t : List Blk) (ht : TV t) :
    (∃ k nv', firstTip t = some k ∧ SF.exS T (SF.run T sub 100 (m + 5)) sub 100 L_stands_2 [.val (encT t), .emp, .emp] = .ok (.rt (tipsD t k) false, nv')) ∨
    (∃ s1 s2, firstTip t = none ∧ SF.exS T (SF.run T sub 100 (m + 5)) sub 100 L_stands_2 [.val (encT t), .emp, .emp] = .ok (.nx, [.val (encT t), .opt s1, .opt s2])) := by
  unfold L_stands_2
  simp only [zs_for, evI_len _ t ht.bt, sx0, sx1, sx2, sx3, sx4, sx5, sx6, sx7, nm1, List.contains_nil, List.contains_cons, List.all_nil, List.all_cons, List.isEmpty_nil, List.isEmpty_cons, List.map_cons, List.map_nil, Bool.decide_eq_true, Bool.and_true, Bool.true_and, Bool.and_false, Bool.false_and, Bool.or_true, Bool.true_or, Bool.or_false, Bool.false_or, Bool.not_true, Bool.not_false, Bool.false_eq_true, Bool.not_eq_true', decide_true, decide_false, if_true, if_false, decide_eq_true_eq, decide_eq_false_iff_not, Int.cast_ofNat_Int, true_and, false_and, and_true, and_false, not_true_eq_false, not_false_eq_true, Int.reduceAdd, Int.reduceSub, Int.reduceMul, Int.reduceLT, Int.reduceLE, Int.reduceEq, Int.reduceNe, List.length_cons, List.length_nil, ↓reduceIte, Nat.reduceAdd, Nat.reduceBEq, Nat.reduceEqDiff, Nat.reduceLeDiff, Int.reduceNeg, reduceCtorEq]
  refine for_turn (b := foT T (SF.run T sub 100 (m + 5)) sub 100 (Tg.n 1) L_stands_1) (fun (i : Nat) => PyData.int (i : Int))
    (fun rest nv => (∃ s1 s2, nv = [.val (encT t), .opt s1, .opt s2]) ∧ firstTip t = rest.find? (tip? t) ∧ ∀ i ∈ rest, i < t.length)
    (fun r => (∃ k nv', firstTip t = some k ∧ r = .ok (.rt (tipsD t k) false, nv')) ∨ (∃ s1 s2, firstTip t = none ∧ r = .ok (.nx, [.val (encT t), .opt s1, .opt s2])))
    (List.range t.length) _ ⟨⟨none, none, rfl⟩, rfl, fun i hi => List.mem_range.mp hi⟩ ?_ ?_
  · rintro i rest nv ⟨⟨s1, s2, rfl⟩, hf, hi⟩
    have hs := fun m => side_of_ok m t ht.bt i (hi i (List.mem_cons_self ..))
    by_cases h : tip? t i = true
    · rw [List.find?_cons_of_pos h] at hf
      have h' : (!isNone (sideD t i)) = true := h
      have e : foT T (SF.run T sub 100 (m + 5)) sub 100 (Tg.n 1) L_stands_1 (.int i) [.val (encT t), .opt s1, .opt s2] = .ok (.rt (tipsD t i) false, [.val (encT t), .val (.int i), .val (sideD t i)]) := by
        simp only [foT, L_stands_1, hs, h', tipsD, kx0, kx1, kx2, sx0, sx1, sx2, sx3, sx4, sx5, sx6, sx7, nm1, List.contains_nil, List.contains_cons, List.all_nil, List.all_cons, List.isEmpty_nil, List.isEmpty_cons, List.map_cons, List.map_nil, Bool.decide_eq_true, Bool.and_true, Bool.true_and, Bool.and_false, Bool.false_and, Bool.or_true, Bool.true_or, Bool.or_false, Bool.false_or, Bool.not_true, Bool.not_false, Bool.false_eq_true, Bool.not_eq_true', decide_true, decide_false, if_true, if_false, decide_eq_true_eq, decide_eq_false_iff_not, Int.cast_ofNat_Int, true_and, false_and, and_true, and_false, not_true_eq_false, not_false_eq_true, Int.reduceAdd, Int.reduceSub, Int.reduceMul, Int.reduceLT, Int.reduceLE, Int.reduceEq, Int.reduceNe, List.length_cons, List.length_nil, ↓reduceIte, Nat.reduceAdd, Nat.reduceBEq, Nat.reduceEqDiff, Nat.reduceLeDiff, Int.reduceNeg, reduceCtorEq]
      rw [e]
      exact .inl ⟨i, _, hf, rfl⟩
    · rw [List.find?_cons_of_neg h] at hf
      have h' : (!isNone (sideD t i)) = false := by unfold tip? at h; simpa using h
      have e : foT T (SF.run T sub 100 (m + 5)) sub 100 (Tg.n 1) L_stands_1 (.int i) [.val (encT t), .opt s1, .opt s2] = .ok (.nx, [.val (encT t), .val (.int i), .val (sideD t i)]) := by
        simp only [foT, L_stands_1, hs, h', kx0, kx1, kx2, sx0, sx1, sx2, sx3, sx4, sx5, sx6, sx7, nm1, List.contains_nil, List.contains_cons, List.all_nil, List.all_cons, List.isEmpty_nil, List.isEmpty_cons, List.map_cons, List.map_nil, Bool.decide_eq_true, Bool.and_true, Bool.true_and, Bool.and_false, Bool.false_and, Bool.or_true, Bool.true_or, Bool.or_false, Bool.false_or, Bool.not_true, Bool.not_false, Bool.false_eq_true, Bool.not_eq_true', decide_true, decide_false, if_true, if_false, decide_eq_true_eq, decide_eq_false_iff_not, Int.cast_ofNat_Int, true_and, false_and, and_true, and_false, not_true_eq_false, not_false_eq_true, Int.reduceAdd, Int.reduceSub, Int.reduceMul, Int.reduceLT, Int.reduceLE, Int.reduceEq, Int.reduceNe, List.length_cons, List.length_nil, ↓reduceIte, Nat.reduceAdd, Nat.reduceBEq, Nat.reduceEqDiff, Nat.reduceLeDiff, Int.reduceNeg, reduceCtorEq]
      rw [e]
      exact ⟨⟨some (.int i), some (sideD t i), rfl⟩, hf, fun x hx => hi x (List.mem_cons_of_mem _ hx)⟩
  · rintro nv ⟨⟨s1, s2, rfl⟩, hf, _⟩
    exact .inr ⟨s1, s2, hf, rfl⟩
theorem stands_ok (m : Nat) (t : List Blk) (ht : TV t) : SF.run T sub 100 (m + 6) 23 [encT t] = .ok ⟨standsD t, false, []⟩ := by
  rw [r_stands]
  rcases stands_loop m t ht with ⟨k, nv', hf, e⟩ | ⟨s1, s2, hf, e⟩
  · simp only [B_stands, demand_ok _ t ht, e, standsD, hf, kx0, kx1, kx2, sx0, sx1, sx2, sx3, sx4, sx5, sx6, sx7, nm1, List.contains_nil, List.contains_cons, List.all_nil, List.all_cons, List.isEmpty_nil, List.isEmpty_cons, List.map_cons, List.map_nil, Bool.decide_eq_true, Bool.and_true, Bool.true_and, Bool.and_false, Bool.false_and, Bool.or_true, Bool.true_or, Bool.or_false, Bool.false_or, Bool.not_true, Bool.not_false, Bool.false_eq_true, Bool.not_eq_true', decide_true, decide_false, if_true, if_false, decide_eq_true_eq, decide_eq_false_iff_not, Int.cast_ofNat_Int, true_and, false_and, and_true, and_false, not_true_eq_false, not_false_eq_true, Int.reduceAdd, Int.reduceSub, Int.reduceMul, Int.reduceLT, Int.reduceLE, Int.reduceEq, Int.reduceNe, List.length_cons, List.length_nil, ↓reduceIte, Nat.reduceAdd, Nat.reduceBEq, Nat.reduceEqDiff, Nat.reduceLeDiff, Int.reduceNeg, reduceCtorEq]
  · have hc : (evB T (SF.run T sub 100 (m + 5)) L_stands_3).v [.val (encT t), .opt s1, .opt s2] = .ok (.list ((List.range t.length).map fun k => enc2 (prs t k)), true, [.val (encT t), .opt s1, .opt s2]) := by
      refine lc_map (List.range t.length) (fun (i : Nat) => PyData.int (i : Int)) (fun k => enc2 (prs t k)) (evI_len _ t ht.bt _) (by cases s1 <;> rfl) (by rw [List.length_range]; exact lim_12 ht.bt.2)
        (fun k hk => ⟨[.val (encT t), .val (.int k), .opt s2], by simp only [lcT, blank, blankOk, List.set_cons_zero, List.set_cons_succ, pressure_ok _ t ht k (List.mem_range.mp hk), kx0, kx1, kx2, sx0, sx1, sx2, sx3, sx4, sx5, sx6, sx7, nm1, List.contains_nil, List.contains_cons, List.all_nil, List.all_cons, List.isEmpty_nil, List.isEmpty_cons, List.map_cons, List.map_nil, Bool.decide_eq_true, Bool.and_true, Bool.true_and, Bool.and_false, Bool.false_and, Bool.or_true, Bool.true_or, Bool.or_false, Bool.false_or, Bool.not_true, Bool.not_false, Bool.false_eq_true, Bool.not_eq_true', decide_true, decide_false, if_true, if_false, decide_eq_true_eq, decide_eq_false_iff_not, Int.cast_ofNat_Int, true_and, false_and, and_true, and_false, not_true_eq_false, not_false_eq_true, Int.reduceAdd, Int.reduceSub, Int.reduceMul, Int.reduceLT, Int.reduceLE, Int.reduceEq, Int.reduceNe, List.length_cons, List.length_nil, ↓reduceIte, Nat.reduceAdd, Nat.reduceBEq, Nat.reduceEqDiff, Nat.reduceLeDiff, Int.reduceNeg, reduceCtorEq], rfl⟩)
    simp only [B_stands, demand_ok _ t ht, e, hc, standsD, hf, forcesD, kx0, kx1, kx2, sx0, sx1, sx2, sx3, sx4, sx5, sx6, sx7, nm1, List.contains_nil, List.contains_cons, List.all_nil, List.all_cons, List.isEmpty_nil, List.isEmpty_cons, List.map_cons, List.map_nil, Bool.decide_eq_true, Bool.and_true, Bool.true_and, Bool.and_false, Bool.false_and, Bool.or_true, Bool.true_or, Bool.or_false, Bool.false_or, Bool.not_true, Bool.not_false, Bool.false_eq_true, Bool.not_eq_true', decide_true, decide_false, if_true, if_false, decide_eq_true_eq, decide_eq_false_iff_not, Int.cast_ofNat_Int, true_and, false_and, and_true, and_false, not_true_eq_false, not_false_eq_true, Int.reduceAdd, Int.reduceSub, Int.reduceMul, Int.reduceLT, Int.reduceLE, Int.reduceEq, Int.reduceNe, List.length_cons, List.length_nil, ↓reduceIte, Nat.reduceAdd, Nat.reduceBEq, Nat.reduceEqDiff, Nat.reduceLeDiff, Int.reduceNeg, reduceCtorEq]
def falls (t : List Blk) (c : Nat) : Bool := (List.range c).any fun k => tip? (t.take c) k
def raisedD (t : List Blk) : D := match (List.range' 1 t.length).find? (falls t) with
  | some c => .int c
  | none => .none
theorem len_take_le {t : List Blk} {c : Nat} (h : c ≤ t.length) : (t.take c).length = c := by rw [List.length_take]; omega
theorem raised_comp (m : Nat) (t : List Blk) (ht : BT t) (c : Nat) (hc : c ≤ t.length) (s : Option D) : (evB T (SF.run T sub 100 (m + 4)) L_raised_1).v [.val (encT t), .val (.int c), .opt s] = .ok (.list ((List.range c).map fun k => .bool (tip? (t.take c) k)), true, [.val (encT t), .val (.int c), .opt s]) := by
  have hr := rangeL_0 c
  have hl : c ≤ 12 := Nat.le_trans hc ht.2
  refine lc_map (List.range c) (fun (i : Nat) => PyData.int (i : Int)) (fun k => .bool (tip? (t.take c) k)) (by simp only [smallI_nat (show c < 2 ^ 40 by omega), hr, sx0, sx1, sx2, sx3, sx4, sx5, sx6, sx7, nm1, List.contains_nil, List.contains_cons, List.all_nil, List.all_cons, List.isEmpty_nil, List.isEmpty_cons, List.map_cons, List.map_nil, Bool.decide_eq_true, Bool.and_true, Bool.true_and, Bool.and_false, Bool.false_and, Bool.or_true, Bool.true_or, Bool.or_false, Bool.false_or, Bool.not_true, Bool.not_false, Bool.false_eq_true, Bool.not_eq_true', decide_true, decide_false, if_true, if_false, decide_eq_true_eq, decide_eq_false_iff_not, Int.cast_ofNat_Int, true_and, false_and, and_true, and_false, not_true_eq_false, not_false_eq_true, Int.reduceAdd, Int.reduceSub, Int.reduceMul, Int.reduceLT, Int.reduceLE, Int.reduceEq, Int.reduceNe, List.length_cons, List.length_nil, ↓reduceIte, Nat.reduceAdd, Nat.reduceBEq, Nat.reduceEqDiff, Nat.reduceLeDiff, Int.reduceNeg, reduceCtorEq]) (by cases s <;> rfl) (by rw [List.length_range]; exact lim_12 hl)
    (fun k hk => ⟨[.val (encT t), .val (.int c), .val (.int k)], ?_, rfl⟩)
  have hs := fun m => side_of_ok m (t.take c) (ht.take c) k (by rw [len_take_le hc]; exact List.mem_range.mp hk)
  simp only [encT, List.map_take] at hs
  simp only [lcT, blank, blankOk, List.set_cons_zero, List.set_cons_succ, encT, hs, tip?, kx0, kx1, kx2, sx0, sx1, sx2, sx3, sx4, sx5, sx6, sx7, nm1, List.contains_nil, List.contains_cons, List.all_nil, List.all_cons, List.isEmpty_nil, List.isEmpty_cons, List.map_cons, List.map_nil, Bool.decide_eq_true, Bool.and_true, Bool.true_and, Bool.and_false, Bool.false_and, Bool.or_true, Bool.true_or, Bool.or_false, Bool.false_or, Bool.not_true, Bool.not_false, Bool.false_eq_true, Bool.not_eq_true', decide_true, decide_false, if_true, if_false, decide_eq_true_eq, decide_eq_false_iff_not, Int.cast_ofNat_Int, true_and, false_and, and_true, and_false, not_true_eq_false, not_false_eq_true, Int.reduceAdd, Int.reduceSub, Int.reduceMul, Int.reduceLT, Int.reduceLE, Int.reduceEq, Int.reduceNe, List.length_cons, List.length_nil, ↓reduceIte, Nat.reduceAdd, Nat.reduceBEq, Nat.reduceEqDiff, Nat.reduceLeDiff, Int.reduceNeg, reduceCtorEq]
theorem raised_ok (m : Nat) (t : List Blk) (ht : TV t) : SF.run T sub 100 (m + 5) 25 [encT t] = .ok ⟨raisedD t, false, []⟩ := by
  have hb := ht.bt
  have hr : rangeL 1 ((t.length : Int) + 1) = (List.range' 1 t.length).map (fun (i : Nat) => PyData.int (i : Int)) := by
    have := rangeL_n 1 (t.length + 1)
    rw [show t.length + 1 - 1 = t.length by omega] at this
    exact this
  have hs1 : smallI ((t.length : Int) + 1) = true := smallI_nat (n := t.length + 1) (by have := hb.2; omega)
  have hs0 : smallI 1 = true := by decide
  have hloop : (∃ c nv', (List.range' 1 t.length).find? (falls t) = some c ∧ SF.exS T (SF.run T sub 100 (m + 4)) sub 100 L_raised_3 [.val (encT t), .emp, .emp] = .ok (.rt (.int c) false, nv')) ∨
      (∃ s1 s2, (List.range' 1 t.length).find? (falls t) = none ∧ SF.exS T (SF.run T sub 100 (m + 4)) sub 100 L_raised_3 [.val (encT t), .emp, .emp] = .ok (.nx, [.val (encT t), .opt s1, .opt s2])) := by
    unfold L_raised_3
    simp only [zs_for, encT, List.length_map, hs0, hs1, hr, sx0, sx1, sx2, sx3, sx4, sx5, sx6, sx7, nm1, List.contains_nil, List.contains_cons, List.all_nil, List.all_cons, List.isEmpty_nil, List.isEmpty_cons, List.map_cons, List.map_nil, Bool.decide_eq_true, Bool.and_true, Bool.true_and, Bool.and_false, Bool.false_and, Bool.or_true, Bool.true_or, Bool.or_false, Bool.false_or, Bool.not_true, Bool.not_false, Bool.false_eq_true, Bool.not_eq_true', decide_true, decide_false, if_true, if_false, decide_eq_true_eq, decide_eq_false_iff_not, Int.cast_ofNat_Int, true_and, false_and, and_true, and_false, not_true_eq_false, not_false_eq_true, Int.reduceAdd, Int.reduceSub, Int.reduceMul, Int.reduceLT, Int.reduceLE, Int.reduceEq, Int.reduceNe, List.length_cons, List.length_nil, ↓reduceIte, Nat.reduceAdd, Nat.reduceBEq, Nat.reduceEqDiff, Nat.reduceLeDiff, Int.reduceNeg, reduceCtorEq]
    refine for_turn (b := foT T (SF.run T sub 100 (m + 4)) sub 100 (Tg.n 1) L_raised_2) (fun (i : Nat) => PyData.int (i : Int))
      (fun rest nv => (∃ s1 s2, nv = [.val (encT t), .opt s1, .opt s2]) ∧ (List.range' 1 t.length).find? (falls t) = rest.find? (falls t) ∧ ∀ i ∈ rest, i ≤ t.length)
      (fun r => (∃ c nv', (List.range' 1 t.length).find? (falls t) = some c ∧ r = .ok (.rt (.int c) false, nv')) ∨ (∃ s1 s2, (List.range' 1 t.length).find? (falls t) = none ∧ r = .ok (.nx, [.val (encT t), .opt s1, .opt s2])))
      (List.range' 1 t.length) _ ⟨⟨none, none, rfl⟩, rfl, fun i hi => by have := List.mem_range'_1.mp hi; omega⟩ ?_ ?_
    · rintro c rest nv ⟨⟨s1, s2, rfl⟩, hf, hi⟩
      have hc := raised_comp m t hb c (hi c (List.mem_cons_self ..)) s2
      by_cases h : falls t c = true
      · rw [List.find?_cons_of_pos h] at hf
        have h' : (List.range c).any (fun k => tip? (t.take c) k) = true := h
        have e : foT T (SF.run T sub 100 (m + 4)) sub 100 (Tg.n 1) L_raised_2 (.int c) [.val (encT t), .opt s1, .opt s2] = .ok (.rt (.int c) false, [.val (encT t), .val (.int c), .opt s2]) := by
          simp only [foT, L_raised_2, hc, y_any, h', kx0, kx1, kx2, sx0, sx1, sx2, sx3, sx4, sx5, sx6, sx7, nm1, List.contains_nil, List.contains_cons, List.all_nil, List.all_cons, List.isEmpty_nil, List.isEmpty_cons, List.map_cons, List.map_nil, Bool.decide_eq_true, Bool.and_true, Bool.true_and, Bool.and_false, Bool.false_and, Bool.or_true, Bool.true_or, Bool.or_false, Bool.false_or, Bool.not_true, Bool.not_false, Bool.false_eq_true, Bool.not_eq_true', decide_true, decide_false, if_true, if_false, decide_eq_true_eq, decide_eq_false_iff_not, Int.cast_ofNat_Int, true_and, false_and, and_true, and_false, not_true_eq_false, not_false_eq_true, Int.reduceAdd, Int.reduceSub, Int.reduceMul, Int.reduceLT, Int.reduceLE, Int.reduceEq, Int.reduceNe, List.length_cons, List.length_nil, ↓reduceIte, Nat.reduceAdd, Nat.reduceBEq, Nat.reduceEqDiff, Nat.reduceLeDiff, Int.reduceNeg, reduceCtorEq]
        rw [e]
        exact .inl ⟨c, _, hf, rfl⟩
      · rw [List.find?_cons_of_neg h] at hf
        have h' : (List.range c).any (fun k => tip? (t.take c) k) = false := by unfold falls at h; simpa using h
        have e : foT T (SF.run T sub 100 (m + 4)) sub 100 (Tg.n 1) L_raised_2 (.int c) [.val (encT t), .opt s1, .opt s2] = .ok (.nx, [.val (encT t), .val (.int c), .opt s2]) := by
          simp only [foT, L_raised_2, hc, y_any, h', kx0, kx1, kx2, sx0, sx1, sx2, sx3, sx4, sx5, sx6, sx7, nm1, List.contains_nil, List.contains_cons, List.all_nil, List.all_cons, List.isEmpty_nil, List.isEmpty_cons, List.map_cons, List.map_nil, Bool.decide_eq_true, Bool.and_true, Bool.true_and, Bool.and_false, Bool.false_and, Bool.or_true, Bool.true_or, Bool.or_false, Bool.false_or, Bool.not_true, Bool.not_false, Bool.false_eq_true, Bool.not_eq_true', decide_true, decide_false, if_true, if_false, decide_eq_true_eq, decide_eq_false_iff_not, Int.cast_ofNat_Int, true_and, false_and, and_true, and_false, not_true_eq_false, not_false_eq_true, Int.reduceAdd, Int.reduceSub, Int.reduceMul, Int.reduceLT, Int.reduceLE, Int.reduceEq, Int.reduceNe, List.length_cons, List.length_nil, ↓reduceIte, Nat.reduceAdd, Nat.reduceBEq, Nat.reduceEqDiff, Nat.reduceLeDiff, Int.reduceNeg, reduceCtorEq]
        rw [e]
        exact ⟨⟨some (.int c), s2, rfl⟩, hf, fun x hx => hi x (List.mem_cons_of_mem _ hx)⟩
    · rintro nv ⟨⟨s1, s2, rfl⟩, hf, _⟩
      exact .inr ⟨s1, s2, hf, rfl⟩
  rw [r_raised]
  unfold raisedD
  rcases hloop with ⟨k, nv', hf, e⟩ | ⟨s1, s2, hf, e⟩
  · simp only [B_raised, demand_ok _ t ht, e, hf, kx0, kx1, kx2, sx0, sx1, sx2, sx3, sx4, sx5, sx6, sx7, nm1, List.contains_nil, List.contains_cons, List.all_nil, List.all_cons, List.isEmpty_nil, List.isEmpty_cons, List.map_cons, List.map_nil, Bool.decide_eq_true, Bool.and_true, Bool.true_and, Bool.and_false, Bool.false_and, Bool.or_true, Bool.true_or, Bool.or_false, Bool.false_or, Bool.not_true, Bool.not_false, Bool.false_eq_true, Bool.not_eq_true', decide_true, decide_false, if_true, if_false, decide_eq_true_eq, decide_eq_false_iff_not, Int.cast_ofNat_Int, true_and, false_and, and_true, and_false, not_true_eq_false, not_false_eq_true, Int.reduceAdd, Int.reduceSub, Int.reduceMul, Int.reduceLT, Int.reduceLE, Int.reduceEq, Int.reduceNe, List.length_cons, List.length_nil, ↓reduceIte, Nat.reduceAdd, Nat.reduceBEq, Nat.reduceEqDiff, Nat.reduceLeDiff, Int.reduceNeg, reduceCtorEq]
  · simp only [B_raised, demand_ok _ t ht, e, hf, kx0, kx1, kx2, sx0, sx1, sx2, sx3, sx4, sx5, sx6, sx7, nm1, List.contains_nil, List.contains_cons, List.all_nil, List.all_cons, List.isEmpty_nil, List.isEmpty_cons, List.map_cons, List.map_nil, Bool.decide_eq_true, Bool.and_true, Bool.true_and, Bool.and_false, Bool.false_and, Bool.or_true, Bool.true_or, Bool.or_false, Bool.false_or, Bool.not_true, Bool.not_false, Bool.false_eq_true, Bool.not_eq_true', decide_true, decide_false, if_true, if_false, decide_eq_true_eq, decide_eq_false_iff_not, Int.cast_ofNat_Int, true_and, false_and, and_true, and_false, not_true_eq_false, not_false_eq_true, Int.reduceAdd, Int.reduceSub, Int.reduceMul, Int.reduceLT, Int.reduceLE, Int.reduceEq, Int.reduceNe, List.length_cons, List.length_nil, ↓reduceIte, Nat.reduceAdd, Nat.reduceBEq, Nat.reduceEqDiff, Nat.reduceLeDiff, Int.reduceNeg, reduceCtorEq]
/-! the law's own functions -/
theorem least_terms_loop (m : Nat) (d0 d1 : D) (x y : Int) (hx : 0 ≤ x) (hy : 0 ≤ y) : SF.exS T (SF.run T sub 100 m) sub 100 L__law_least_terms_2 [.val d0, .val d1, .val (.int x), .val (.int y)] = .ok (.nx, [.val d0, .val d1, .val (.int (Int.gcd x y)), .val (.int 0)]) := by
  unfold L__law_least_terms_2
  rw [zs_whl]
  refine whR_gcd4 d0 d1 _ _ (fun x y => ?_) (fun x y h => ?_) _ x y hx hy ?_
  · simp only [sx0, sx1, sx2, sx3, sx4, sx5, sx6, sx7, nm1, List.contains_nil, List.contains_cons, List.all_nil, List.all_cons, List.isEmpty_nil, List.isEmpty_cons, List.map_cons, List.map_nil, Bool.decide_eq_true, Bool.and_true, Bool.true_and, Bool.and_false, Bool.false_and, Bool.or_true, Bool.true_or, Bool.or_false, Bool.false_or, Bool.not_true, Bool.not_false, Bool.false_eq_true, Bool.not_eq_true', decide_true, decide_false, if_true, if_false, decide_eq_true_eq, decide_eq_false_iff_not, Int.cast_ofNat_Int, true_and, false_and, and_true, and_false, not_true_eq_false, not_false_eq_true, Int.reduceAdd, Int.reduceSub, Int.reduceMul, Int.reduceLT, Int.reduceLE, Int.reduceEq, Int.reduceNe, List.length_cons, List.length_nil, ↓reduceIte, Nat.reduceAdd, Nat.reduceBEq, Nat.reduceEqDiff, Nat.reduceLeDiff, Int.reduceNeg, reduceCtorEq]
  · simp only [L__law_least_terms_1, x_mod _ _ h, sx0, sx1, sx2, sx3, sx4, sx5, sx6, sx7, nm1, List.contains_nil, List.contains_cons, List.all_nil, List.all_cons, List.isEmpty_nil, List.isEmpty_cons, List.map_cons, List.map_nil, Bool.decide_eq_true, Bool.and_true, Bool.true_and, Bool.and_false, Bool.false_and, Bool.or_true, Bool.true_or, Bool.or_false, Bool.false_or, Bool.not_true, Bool.not_false, Bool.false_eq_true, Bool.not_eq_true', decide_true, decide_false, if_true, if_false, decide_eq_true_eq, decide_eq_false_iff_not, Int.cast_ofNat_Int, true_and, false_and, and_true, and_false, not_true_eq_false, not_false_eq_true, Int.reduceAdd, Int.reduceSub, Int.reduceMul, Int.reduceLT, Int.reduceLE, Int.reduceEq, Int.reduceNe, List.length_cons, List.length_nil, ↓reduceIte, Nat.reduceAdd, Nat.reduceBEq, Nat.reduceEqDiff, Nat.reduceLeDiff, Int.reduceNeg, reduceCtorEq]
  · simp only [fuel, Slot.d]; omega
theorem least_terms_ok (m : Nat) (a : Int) (b : Nat) (h : b ≠ 0) (h2 : b < 2 ^ 8900) : SF.run T sub 100 (m + 1) 35 [.int a, .int b] = .ok ⟨encR (mkRat a b), false, []⟩ := by
  rw [r__law_least_terms]
  have hg : (0 : Int) < (Int.gcd a b : Int) := by
    have : Int.gcd a b ≠ 0 := by intro e; have := (Int.gcd_eq_zero_iff.mp e).2; omega
    omega
  have hl : ((Int.gcd a b : Int)).natAbs.log2 < 9000 := by
    rw [Int.natAbs_natCast]
    have : Int.gcd a b ≤ b := by
      have := Int.gcd_le_right a (show (0 : Int) < (b : Int) by omega)
      omega
    have := log2_le (Nat.lt_of_le_of_lt this h2); omega
  obtain ⟨e1, e2⟩ := fr_pos a b h
  have hw := least_terms_loop m (.int a) (.int b) a.natAbs b (by omega) (by omega)
  have e3 : Int.gcd (a.natAbs : Int) (b : Int) = Int.gcd a b := by simp [Int.gcd]
  rw [e3] at hw
  simp only [B__law_least_terms, hw, x_fdiv _ _ hg hl, kx0, kx1, kx2, sx0, sx1, sx2, sx3, sx4, sx5, sx6, sx7, nm1, List.contains_nil, List.contains_cons, List.all_nil, List.all_cons, List.isEmpty_nil, List.isEmpty_cons, List.map_cons, List.map_nil, Bool.decide_eq_true, Bool.and_true, Bool.true_and, Bool.and_false, Bool.false_and, Bool.or_true, Bool.true_or, Bool.or_false, Bool.false_or, Bool.not_true, Bool.not_false, Bool.false_eq_true, Bool.not_eq_true', decide_true, decide_false, if_true, if_false, decide_eq_true_eq, decide_eq_false_iff_not, Int.cast_ofNat_Int, true_and, false_and, and_true, and_false, not_true_eq_false, not_false_eq_true, Int.reduceAdd, Int.reduceSub, Int.reduceMul, Int.reduceLT, Int.reduceLE, Int.reduceEq, Int.reduceNe, List.length_cons, List.length_nil, ↓reduceIte, Nat.reduceAdd, Nat.reduceBEq, Nat.reduceEqDiff, Nat.reduceLeDiff, Int.reduceNeg, reduceCtorEq, e1, e2, encR]
theorem law_plus_ok (m : Nat) (p q : Rat) (hp : Bd p) (hq : Bd q) : SF.run T sub 100 (m + 2) 36 [encR p, encR q] = .ok ⟨encR (p + q), false, []⟩ := by
  rw [r__law_plus]
  obtain ⟨h1, h2⟩ := hp.dens hq
  have hf := fun m => least_terms_ok m (p.num * q.den + q.num * p.den) (p.den * q.den) h1 h2
  rw [rat_add]
  simp only [Int.natCast_mul] at hf
  have g1 := hp.guard1 hq
  have g2 := hq.guard1 hp
  have g3 := hp.guard3 hq
  simp only [B__law_plus, encR, x_mul _ _ g1, x_mul _ _ g2, x_mul _ _ g3, hf, kx0, kx1, kx2, sx0, sx1, sx2, sx3, sx4, sx5, sx6, sx7, nm1, List.contains_nil, List.contains_cons, List.all_nil, List.all_cons, List.isEmpty_nil, List.isEmpty_cons, List.map_cons, List.map_nil, Bool.decide_eq_true, Bool.and_true, Bool.true_and, Bool.and_false, Bool.false_and, Bool.or_true, Bool.true_or, Bool.or_false, Bool.false_or, Bool.not_true, Bool.not_false, Bool.false_eq_true, Bool.not_eq_true', decide_true, decide_false, if_true, if_false, decide_eq_true_eq, decide_eq_false_iff_not, Int.cast_ofNat_Int, true_and, false_and, and_true, and_false, not_true_eq_false, not_false_eq_true, Int.reduceAdd, Int.reduceSub, Int.reduceMul, Int.reduceLT, Int.reduceLE, Int.reduceEq, Int.reduceNe, List.length_cons, List.length_nil, ↓reduceIte, Nat.reduceAdd, Nat.reduceBEq, Nat.reduceEqDiff, Nat.reduceLeDiff, Int.reduceNeg, reduceCtorEq]
theorem law_times_ok (m : Nat) (p q : Rat) (hp : Bd p) (hq : Bd q) : SF.run T sub 100 (m + 2) 37 [encR p, encR q] = .ok ⟨encR (p * q), false, []⟩ := by
  rw [r__law_times]
  obtain ⟨h1, h2⟩ := hp.dens hq
  have hf := fun m => least_terms_ok m (p.num * q.num) (p.den * q.den) h1 h2
  rw [Rat.mul_def']
  simp only [Int.natCast_mul] at hf
  have g0 := hp.guard2 hq
  have g3 := hp.guard3 hq
  simp only [B__law_times, encR, x_mul _ _ g0, x_mul _ _ g3, hf, kx0, kx1, kx2, sx0, sx1, sx2, sx3, sx4, sx5, sx6, sx7, nm1, List.contains_nil, List.contains_cons, List.all_nil, List.all_cons, List.isEmpty_nil, List.isEmpty_cons, List.map_cons, List.map_nil, Bool.decide_eq_true, Bool.and_true, Bool.true_and, Bool.and_false, Bool.false_and, Bool.or_true, Bool.true_or, Bool.or_false, Bool.false_or, Bool.not_true, Bool.not_false, Bool.false_eq_true, Bool.not_eq_true', decide_true, decide_false, if_true, if_false, decide_eq_true_eq, decide_eq_false_iff_not, Int.cast_ofNat_Int, true_and, false_and, and_true, and_false, not_true_eq_false, not_false_eq_true, Int.reduceAdd, Int.reduceSub, Int.reduceMul, Int.reduceLT, Int.reduceLE, Int.reduceEq, Int.reduceNe, List.length_cons, List.length_nil, ↓reduceIte, Nat.reduceAdd, Nat.reduceBEq, Nat.reduceEqDiff, Nat.reduceLeDiff, Int.reduceNeg, reduceCtorEq]
theorem law_below_ok (m : Nat) (p q : Rat) (hp : Bd p) (hq : Bd q) : SF.run T sub 100 (m + 1) 38 [encR p, encR q] = .ok ⟨.bool (decide (p < q)), false, []⟩ := by
  rw [r__law_below]
  have g1 := hp.guard1 hq
  have g2 := hq.guard1 hp
  have e : decide (p < q) = decide (p.num * q.den < q.num * p.den) := by simp only [Rat.lt_iff]
  rw [e]
  simp only [B__law_below, encR, x_mul _ _ g1, x_mul _ _ g2, sx0, sx1, sx2, sx3, sx4, sx5, sx6, sx7, nm1, List.contains_nil, List.contains_cons, List.all_nil, List.all_cons, List.isEmpty_nil, List.isEmpty_cons, List.map_cons, List.map_nil, Bool.decide_eq_true, Bool.and_true, Bool.true_and, Bool.and_false, Bool.false_and, Bool.or_true, Bool.true_or, Bool.or_false, Bool.false_or, Bool.not_true, Bool.not_false, Bool.false_eq_true, Bool.not_eq_true', decide_true, decide_false, if_true, if_false, decide_eq_true_eq, decide_eq_false_iff_not, Int.cast_ofNat_Int, true_and, false_and, and_true, and_false, not_true_eq_false, not_false_eq_true, Int.reduceAdd, Int.reduceSub, Int.reduceMul, Int.reduceLT, Int.reduceLE, Int.reduceEq, Int.reduceNe, List.length_cons, List.length_nil, ↓reduceIte, Nat.reduceAdd, Nat.reduceBEq, Nat.reduceEqDiff, Nat.reduceLeDiff, Int.reduceNeg, reduceCtorEq]
theorem law_contact_ok (m : Nat) (t : List Blk) (k : Nat) (hk : k < t.length) : SF.run T sub 100 (m + 1) 32 [encT t, .int k] = .ok ⟨.tuple [.int (ctc t k).1, .int (ctc t k).2], false, []⟩ := by
  rw [r__law_contact]
  have hb : t[k]? = some t[k] := List.getElem?_eq_getElem hk
  unfold ctc
  rw [hb]
  by_cases h0 : k = 0
  · subst h0
    have hx := atT hb
    simp only [Int.cast_ofNat_Int] at hx
    simp only [B__law_contact, encT, encB, hx, sx0, sx1, sx2, sx3, sx4, sx5, sx6, sx7, nm1, List.contains_nil, List.contains_cons, List.all_nil, List.all_cons, List.isEmpty_nil, List.isEmpty_cons, List.map_cons, List.map_nil, Bool.decide_eq_true, Bool.and_true, Bool.true_and, Bool.and_false, Bool.false_and, Bool.or_true, Bool.true_or, Bool.or_false, Bool.false_or, Bool.not_true, Bool.not_false, Bool.false_eq_true, Bool.not_eq_true', decide_true, decide_false, if_true, if_false, decide_eq_true_eq, decide_eq_false_iff_not, Int.cast_ofNat_Int, true_and, false_and, and_true, and_false, not_true_eq_false, not_false_eq_true, Int.reduceAdd, Int.reduceSub, Int.reduceMul, Int.reduceLT, Int.reduceLE, Int.reduceEq, Int.reduceNe, List.length_cons, List.length_nil, ↓reduceIte, Nat.reduceAdd, Nat.reduceBEq, Nat.reduceEqDiff, Nat.reduceLeDiff, Int.reduceNeg, reduceCtorEq]
  · have h0' : ¬ (k : Int) = 0 := by omega
    have hk1 : k - 1 < t.length := by omega
    have hc : t[k - 1]? = some t[k - 1] := List.getElem?_eq_getElem hk1
    have e : (k : Int) - 1 = ((k - 1 : Nat) : Int) := by omega
    simp only [B__law_contact, encT, encB, h0, h0', atT hb, e, hc, atT hc, sx0, sx1, sx2, sx3, sx4, sx5, sx6, sx7, nm1, List.contains_nil, List.contains_cons, List.all_nil, List.all_cons, List.isEmpty_nil, List.isEmpty_cons, List.map_cons, List.map_nil, Bool.decide_eq_true, Bool.and_true, Bool.true_and, Bool.and_false, Bool.false_and, Bool.or_true, Bool.true_or, Bool.or_false, Bool.false_or, Bool.not_true, Bool.not_false, Bool.false_eq_true, Bool.not_eq_true', decide_true, decide_false, if_true, if_false, decide_eq_true_eq, decide_eq_false_iff_not, Int.cast_ofNat_Int, true_and, false_and, and_true, and_false, not_true_eq_false, not_false_eq_true, Int.reduceAdd, Int.reduceSub, Int.reduceMul, Int.reduceLT, Int.reduceLE, Int.reduceEq, Int.reduceNe, List.length_cons, List.length_nil, ↓reduceIte, Nat.reduceAdd, Nat.reduceBEq, Nat.reduceEqDiff, Nat.reduceLeDiff, Int.reduceNeg, reduceCtorEq]
theorem law_centre_ok (m : Nat) (t : List Blk) (ht : BT t) (k : Nat) (hk : k < t.length) : SF.run T sub 100 (m + 2) 33 [encT t, .int k] = .ok ⟨encR (ctr t k), false, []⟩ := by
  rw [r__law_centre]
  have hw := wt_bound ht k
  have hp := wt_pos ht hk
  have g1 := mul_guard (a := 2) (b := wt t k) (i := 5) (j := 30) (by decide) (natAbs_lt_of (by omega) (by omega)) (by decide)
  have hf := fun m => least_terms_ok m (mo t k) (2 * wt t k).toNat (by omega) (Nat.lt_of_lt_of_le (show (2 * wt t k).toNat < 2 ^ 40 by omega) (Nat.pow_le_pow_right (by decide) (by decide)))
  rw [Int.toNat_of_nonneg (by omega)] at hf
  have hc1 : ∀ x, (evB T (SF.run T sub 100 (m + 1)) L__law_centre_1).v [.val (encT t), .val (.int k), .emp, .opt x] = .ok (.list ((t.drop k).map fun b => .int b.g), true, [.val (encT t), .val (.int k), .emp, .opt x]) := fun x => by
    refine lc_map (t.drop k) encB (fun b => .int b.g) (by simp only [encT, List.map_drop, sx0, sx1, sx2, sx3, sx4, sx5, sx6, sx7, nm1, List.contains_nil, List.contains_cons, List.all_nil, List.all_cons, List.isEmpty_nil, List.isEmpty_cons, List.map_cons, List.map_nil, Bool.decide_eq_true, Bool.and_true, Bool.true_and, Bool.and_false, Bool.false_and, Bool.or_true, Bool.true_or, Bool.or_false, Bool.false_or, Bool.not_true, Bool.not_false, Bool.false_eq_true, Bool.not_eq_true', decide_true, decide_false, if_true, if_false, decide_eq_true_eq, decide_eq_false_iff_not, Int.cast_ofNat_Int, true_and, false_and, and_true, and_false, not_true_eq_false, not_false_eq_true, Int.reduceAdd, Int.reduceSub, Int.reduceMul, Int.reduceLT, Int.reduceLE, Int.reduceEq, Int.reduceNe, List.length_cons, List.length_nil, ↓reduceIte, Nat.reduceAdd, Nat.reduceBEq, Nat.reduceEqDiff, Nat.reduceLeDiff, Int.reduceNeg, reduceCtorEq]) (by cases x <;> rfl) (lim_12 (ht.drop k).2) (fun b _ => ⟨[.val (encT t), .val (.int k), .emp, .val (encB b)], by simp only [lcT, blank, blankOk, List.set_cons_zero, List.set_cons_succ, encB, sx0, sx1, sx2, sx3, sx4, sx5, sx6, sx7, nm1, List.contains_nil, List.contains_cons, List.all_nil, List.all_cons, List.isEmpty_nil, List.isEmpty_cons, List.map_cons, List.map_nil, Bool.decide_eq_true, Bool.and_true, Bool.true_and, Bool.and_false, Bool.false_and, Bool.or_true, Bool.true_or, Bool.or_false, Bool.false_or, Bool.not_true, Bool.not_false, Bool.false_eq_true, Bool.not_eq_true', decide_true, decide_false, if_true, if_false, decide_eq_true_eq, decide_eq_false_iff_not, Int.cast_ofNat_Int, true_and, false_and, and_true, and_false, not_true_eq_false, not_false_eq_true, Int.reduceAdd, Int.reduceSub, Int.reduceMul, Int.reduceLT, Int.reduceLE, Int.reduceEq, Int.reduceNe, List.length_cons, List.length_nil, ↓reduceIte, Nat.reduceAdd, Nat.reduceBEq, Nat.reduceEqDiff, Nat.reduceLeDiff, Int.reduceNeg, reduceCtorEq], rfl⟩)
  have hc2 : (evB T (SF.run T sub 100 (m + 1)) L__law_centre_2).v [.val (encT t), .val (.int k), .val (.int (wt t k)), .emp] = .ok (.list ((t.drop k).map fun b => .int (b.g * (2 * b.l + b.w))), true, [.val (encT t), .val (.int k), .val (.int (wt t k)), .emp]) := by
    refine lc_map (t.drop k) encB (fun b => .int (b.g * (2 * b.l + b.w))) (by simp only [encT, List.map_drop, sx0, sx1, sx2, sx3, sx4, sx5, sx6, sx7, nm1, List.contains_nil, List.contains_cons, List.all_nil, List.all_cons, List.isEmpty_nil, List.isEmpty_cons, List.map_cons, List.map_nil, Bool.decide_eq_true, Bool.and_true, Bool.true_and, Bool.and_false, Bool.false_and, Bool.or_true, Bool.true_or, Bool.or_false, Bool.false_or, Bool.not_true, Bool.not_false, Bool.false_eq_true, Bool.not_eq_true', decide_true, decide_false, if_true, if_false, decide_eq_true_eq, decide_eq_false_iff_not, Int.cast_ofNat_Int, true_and, false_and, and_true, and_false, not_true_eq_false, not_false_eq_true, Int.reduceAdd, Int.reduceSub, Int.reduceMul, Int.reduceLT, Int.reduceLE, Int.reduceEq, Int.reduceNe, List.length_cons, List.length_nil, ↓reduceIte, Nat.reduceAdd, Nat.reduceBEq, Nat.reduceEqDiff, Nat.reduceLeDiff, Int.reduceNeg, reduceCtorEq]) rfl (lim_12 (ht.drop k).2) (fun b hb => ⟨[.val (encT t), .val (.int k), .val (.int (wt t k)), .val (encB b)], ?_, rfl⟩)
    obtain ⟨a1, a2, a3, _⟩ := (ht.drop k).1 b hb
    have g1 := mul_guard (a := 2) (b := b.l) (i := 5) (j := 20) (by decide) (natAbs_lt_of (by omega) (by omega)) (by decide)
    have g2 := mul_guard (a := b.g) (b := 2 * b.l + b.w) (i := 25) (j := 20) (natAbs_lt_of (by omega) (by omega)) (natAbs_lt_of (by omega) (by omega)) (by decide)
    simp only [lcT, blank, blankOk, List.set_cons_zero, List.set_cons_succ, encB, x_mul _ _ g1, x_mul _ _ g2, sx0, sx1, sx2, sx3, sx4, sx5, sx6, sx7, nm1, List.contains_nil, List.contains_cons, List.all_nil, List.all_cons, List.isEmpty_nil, List.isEmpty_cons, List.map_cons, List.map_nil, Bool.decide_eq_true, Bool.and_true, Bool.true_and, Bool.and_false, Bool.false_and, Bool.or_true, Bool.true_or, Bool.or_false, Bool.false_or, Bool.not_true, Bool.not_false, Bool.false_eq_true, Bool.not_eq_true', decide_true, decide_false, if_true, if_false, decide_eq_true_eq, decide_eq_false_iff_not, Int.cast_ofNat_Int, true_and, false_and, and_true, and_false, not_true_eq_false, not_false_eq_true, Int.reduceAdd, Int.reduceSub, Int.reduceMul, Int.reduceLT, Int.reduceLE, Int.reduceEq, Int.reduceNe, List.length_cons, List.length_nil, ↓reduceIte, Nat.reduceAdd, Nat.reduceBEq, Nat.reduceEqDiff, Nat.reduceLeDiff, Int.reduceNeg, reduceCtorEq]
  have hc1 := hc1 none
  simp only [opt_none] at hc1
  have ew : ((t.drop k).map (·.g)).sum = wt t k := rfl
  have em : ((t.drop k).map fun b => b.g * (2 * b.l + b.w)).sum = mo t k := rfl
  simp only [B__law_centre, hc1, hc2, y_sum, ew, em, x_mul _ _ g1, hf, ctr, kx0, kx1, kx2, sx0, sx1, sx2, sx3, sx4, sx5, sx6, sx7, nm1, List.contains_nil, List.contains_cons, List.all_nil, List.all_cons, List.isEmpty_nil, List.isEmpty_cons, List.map_cons, List.map_nil, Bool.decide_eq_true, Bool.and_true, Bool.true_and, Bool.and_false, Bool.false_and, Bool.or_true, Bool.true_or, Bool.or_false, Bool.false_or, Bool.not_true, Bool.not_false, Bool.false_eq_true, Bool.not_eq_true', decide_true, decide_false, if_true, if_false, decide_eq_true_eq, decide_eq_false_iff_not, Int.cast_ofNat_Int, true_and, false_and, and_true, and_false, not_true_eq_false, not_false_eq_true, Int.reduceAdd, Int.reduceSub, Int.reduceMul, Int.reduceLT, Int.reduceLE, Int.reduceEq, Int.reduceNe, List.length_cons, List.length_nil, ↓reduceIte, Nat.reduceAdd, Nat.reduceBEq, Nat.reduceEqDiff, Nat.reduceLeDiff, Int.reduceNeg, reduceCtorEq]
theorem law_side_ok (m : Nat) (t : List Blk) (ht : BT t) (k : Nat) (hk : k < t.length) : SF.run T sub 100 (m + 3) 34 [encT t, .int k] = .ok ⟨sideD t k, false, []⟩ := by
  rw [r__law_side]
  have hc := ctr_sm ht hk
  have hl := ctc_sm ht k
  have l1 := fun m => law_below_ok m (ctr t k) ((ctc t k).1 : Rat) (Bd.of hc (by decide)) (Bd.of hl.1 (by decide))
  have l2 := fun m => law_below_ok m ((ctc t k).2 : Rat) (ctr t k) (Bd.of hl.2 (by decide)) (Bd.of hc (by decide))
  simp only [B__law_side, law_centre_ok _ t ht k hk, law_contact_ok _ t k hk, encR_i, l1, l2, kx0, kx1, kx2, sx0, sx1, sx2, sx3, sx4, sx5, sx6, sx7, nm1, List.contains_nil, List.contains_cons, List.all_nil, List.all_cons, List.isEmpty_nil, List.isEmpty_cons, List.map_cons, List.map_nil, Bool.decide_eq_true, Bool.and_true, Bool.true_and, Bool.and_false, Bool.false_and, Bool.or_true, Bool.true_or, Bool.or_false, Bool.false_or, Bool.not_true, Bool.not_false, Bool.false_eq_true, Bool.not_eq_true', decide_true, decide_false, if_true, if_false, decide_eq_true_eq, decide_eq_false_iff_not, Int.cast_ofNat_Int, true_and, false_and, and_true, and_false, not_true_eq_false, not_false_eq_true, Int.reduceAdd, Int.reduceSub, Int.reduceMul, Int.reduceLT, Int.reduceLE, Int.reduceEq, Int.reduceNe, List.length_cons, List.length_nil, ↓reduceIte, Nat.reduceAdd, Nat.reduceBEq, Nat.reduceEqDiff, Nat.reduceLeDiff, Int.reduceNeg, reduceCtorEq]
  unfold sideD
  split
  · rfl
  · split <;> rfl

theorem isInt_iff {d : D} : (isTy .int d && !isTy .bool d) = true ↔ ∃ a, d = .int a := by
  constructor
  · intro h
    cases d with
    | int a => exact ⟨a, rfl⟩
    | _ => cases h
  · rintro ⟨a, rfl⟩; rfl
theorem isFr_not2 {l : List D} (h : l.length ≠ 2) : isFr (.tuple l) = none := by
  unfold isFr
  split
  · rename_i e; cases e; exact absurd rfl h
  · rfl
theorem isFr_int {x y : D} (h : ¬ ((∃ a, x = .int a) ∧ ∃ b, y = .int b)) : isFr (.tuple [x, y]) = none := by
  unfold isFr
  split
  · rename_i a b e; cases e; exact absurd ⟨⟨a, rfl⟩, b, rfl⟩ h
  · rfl
theorem len2 {l : List D} (h : l.length = 2) : ∃ x y, l = [x, y] := by
  match l, h with
  | [x, y], _ => exact ⟨x, y, rfl⟩
theorem is_fraction_ok (m : Nat) (d : D) : SF.run T sub 100 (m + 2) 12 [d] = .ok ⟨.bool (isFr d).isSome, false, []⟩ := by
  rw [r_is_fraction]
  by_cases ht : isTy .tuple d = true
  · obtain ⟨l, rfl⟩ : ∃ l, d = .tuple l := by
      cases d with
      | tuple l => exact ⟨l, rfl⟩
      | _ => cases ht
    by_cases hl : l.length = 2
    · obtain ⟨x, y, rfl⟩ := len2 hl
      by_cases hx : (isTy .int x && !isTy .bool x) = true
      · by_cases hy : (isTy .int y && !isTy .bool y) = true
        · obtain ⟨a, rfl⟩ := isInt_iff.mp hx
          obtain ⟨b, rfl⟩ := isInt_iff.mp hy
          simp only [B_is_fraction, is_integer_ok, divisor_ok, isFr, kx0, kx1, kx2, sx0, sx1, sx2, sx3, sx4, sx5, sx6, sx7, nm1, List.contains_nil, List.contains_cons, List.all_nil, List.all_cons, List.isEmpty_nil, List.isEmpty_cons, List.map_cons, List.map_nil, Bool.decide_eq_true, Bool.and_true, Bool.true_and, Bool.and_false, Bool.false_and, Bool.or_true, Bool.true_or, Bool.or_false, Bool.false_or, Bool.not_true, Bool.not_false, Bool.false_eq_true, Bool.not_eq_true', decide_true, decide_false, if_true, if_false, decide_eq_true_eq, decide_eq_false_iff_not, Int.cast_ofNat_Int, true_and, false_and, and_true, and_false, not_true_eq_false, not_false_eq_true, Int.reduceAdd, Int.reduceSub, Int.reduceMul, Int.reduceLT, Int.reduceLE, Int.reduceEq, Int.reduceNe, List.length_cons, List.length_nil, ↓reduceIte, Nat.reduceAdd, Nat.reduceBEq, Nat.reduceEqDiff, Nat.reduceLeDiff, Int.reduceNeg, reduceCtorEq]
          by_cases h1 : 1 ≤ b
          · by_cases h2 : Int.gcd a b = 1
            · have h2' : ((Int.gcd a b : Nat) : Int) = 1 := by rw [h2]; rfl
              simp only [h1, h2, h2', sx0, sx1, sx2, sx3, sx4, sx5, sx6, sx7, nm1, List.contains_nil, List.contains_cons, List.all_nil, List.all_cons, List.isEmpty_nil, List.isEmpty_cons, List.map_cons, List.map_nil, Bool.decide_eq_true, Bool.and_true, Bool.true_and, Bool.and_false, Bool.false_and, Bool.or_true, Bool.true_or, Bool.or_false, Bool.false_or, Bool.not_true, Bool.not_false, Bool.false_eq_true, Bool.not_eq_true', decide_true, decide_false, if_true, if_false, decide_eq_true_eq, decide_eq_false_iff_not, Int.cast_ofNat_Int, true_and, false_and, and_true, and_false, not_true_eq_false, not_false_eq_true, Int.reduceAdd, Int.reduceSub, Int.reduceMul, Int.reduceLT, Int.reduceLE, Int.reduceEq, Int.reduceNe, List.length_cons, List.length_nil, ↓reduceIte, Nat.reduceAdd, Nat.reduceBEq, Nat.reduceEqDiff, Nat.reduceLeDiff, Int.reduceNeg, reduceCtorEq]; rfl
            · have h2' : ¬ ((Int.gcd a b : Nat) : Int) = 1 := by omega
              simp only [h1, h2, h2', sx0, sx1, sx2, sx3, sx4, sx5, sx6, sx7, nm1, List.contains_nil, List.contains_cons, List.all_nil, List.all_cons, List.isEmpty_nil, List.isEmpty_cons, List.map_cons, List.map_nil, Bool.decide_eq_true, Bool.and_true, Bool.true_and, Bool.and_false, Bool.false_and, Bool.or_true, Bool.true_or, Bool.or_false, Bool.false_or, Bool.not_true, Bool.not_false, Bool.false_eq_true, Bool.not_eq_true', decide_true, decide_false, if_true, if_false, decide_eq_true_eq, decide_eq_false_iff_not, Int.cast_ofNat_Int, true_and, false_and, and_true, and_false, not_true_eq_false, not_false_eq_true, Int.reduceAdd, Int.reduceSub, Int.reduceMul, Int.reduceLT, Int.reduceLE, Int.reduceEq, Int.reduceNe, List.length_cons, List.length_nil, ↓reduceIte, Nat.reduceAdd, Nat.reduceBEq, Nat.reduceEqDiff, Nat.reduceLeDiff, Int.reduceNeg, reduceCtorEq, and_false, Option.isSome_none]
          · simp only [h1, sx0, sx1, sx2, sx3, sx4, sx5, sx6, sx7, nm1, List.contains_nil, List.contains_cons, List.all_nil, List.all_cons, List.isEmpty_nil, List.isEmpty_cons, List.map_cons, List.map_nil, Bool.decide_eq_true, Bool.and_true, Bool.true_and, Bool.and_false, Bool.false_and, Bool.or_true, Bool.true_or, Bool.or_false, Bool.false_or, Bool.not_true, Bool.not_false, Bool.false_eq_true, Bool.not_eq_true', decide_true, decide_false, if_true, if_false, decide_eq_true_eq, decide_eq_false_iff_not, Int.cast_ofNat_Int, true_and, false_and, and_true, and_false, not_true_eq_false, not_false_eq_true, Int.reduceAdd, Int.reduceSub, Int.reduceMul, Int.reduceLT, Int.reduceLE, Int.reduceEq, Int.reduceNe, List.length_cons, List.length_nil, ↓reduceIte, Nat.reduceAdd, Nat.reduceBEq, Nat.reduceEqDiff, Nat.reduceLeDiff, Int.reduceNeg, reduceCtorEq, false_and, Option.isSome_none]
        · have e := isFr_int (x := x) (y := y) fun c => hy (isInt_iff.mpr c.2)
          have hy' : (isTy .int y && !isTy .bool y) = false := by simpa using hy
          rw [e]
          simp only [B_is_fraction, is_integer_ok, hx, hy', kx0, kx1, kx2, sx0, sx1, sx2, sx3, sx4, sx5, sx6, sx7, nm1, List.contains_nil, List.contains_cons, List.all_nil, List.all_cons, List.isEmpty_nil, List.isEmpty_cons, List.map_cons, List.map_nil, Bool.decide_eq_true, Bool.and_true, Bool.true_and, Bool.and_false, Bool.false_and, Bool.or_true, Bool.true_or, Bool.or_false, Bool.false_or, Bool.not_true, Bool.not_false, Bool.false_eq_true, Bool.not_eq_true', decide_true, decide_false, if_true, if_false, decide_eq_true_eq, decide_eq_false_iff_not, Int.cast_ofNat_Int, true_and, false_and, and_true, and_false, not_true_eq_false, not_false_eq_true, Int.reduceAdd, Int.reduceSub, Int.reduceMul, Int.reduceLT, Int.reduceLE, Int.reduceEq, Int.reduceNe, List.length_cons, List.length_nil, ↓reduceIte, Nat.reduceAdd, Nat.reduceBEq, Nat.reduceEqDiff, Nat.reduceLeDiff, Int.reduceNeg, reduceCtorEq, Option.isSome_none]
      · have e := isFr_int (x := x) (y := y) fun c => hx (isInt_iff.mpr c.1)
        have hx' : (isTy .int x && !isTy .bool x) = false := by simpa using hx
        rw [e]
        simp only [B_is_fraction, is_integer_ok, hx', kx0, kx1, kx2, sx0, sx1, sx2, sx3, sx4, sx5, sx6, sx7, nm1, List.contains_nil, List.contains_cons, List.all_nil, List.all_cons, List.isEmpty_nil, List.isEmpty_cons, List.map_cons, List.map_nil, Bool.decide_eq_true, Bool.and_true, Bool.true_and, Bool.and_false, Bool.false_and, Bool.or_true, Bool.true_or, Bool.or_false, Bool.false_or, Bool.not_true, Bool.not_false, Bool.false_eq_true, Bool.not_eq_true', decide_true, decide_false, if_true, if_false, decide_eq_true_eq, decide_eq_false_iff_not, Int.cast_ofNat_Int, true_and, false_and, and_true, and_false, not_true_eq_false, not_false_eq_true, Int.reduceAdd, Int.reduceSub, Int.reduceMul, Int.reduceLT, Int.reduceLE, Int.reduceEq, Int.reduceNe, List.length_cons, List.length_nil, ↓reduceIte, Nat.reduceAdd, Nat.reduceBEq, Nat.reduceEqDiff, Nat.reduceLeDiff, Int.reduceNeg, reduceCtorEq, Option.isSome_none]
    · rw [isFr_not2 hl]
      have hl' : ¬ (l.length : Int) = 2 := by omega
      simp only [B_is_fraction, hl', kx0, kx1, kx2, sx0, sx1, sx2, sx3, sx4, sx5, sx6, sx7, nm1, List.contains_nil, List.contains_cons, List.all_nil, List.all_cons, List.isEmpty_nil, List.isEmpty_cons, List.map_cons, List.map_nil, Bool.decide_eq_true, Bool.and_true, Bool.true_and, Bool.and_false, Bool.false_and, Bool.or_true, Bool.true_or, Bool.or_false, Bool.false_or, Bool.not_true, Bool.not_false, Bool.false_eq_true, Bool.not_eq_true', decide_true, decide_false, if_true, if_false, decide_eq_true_eq, decide_eq_false_iff_not, Int.cast_ofNat_Int, true_and, false_and, and_true, and_false, not_true_eq_false, not_false_eq_true, Int.reduceAdd, Int.reduceSub, Int.reduceMul, Int.reduceLT, Int.reduceLE, Int.reduceEq, Int.reduceNe, List.length_cons, List.length_nil, ↓reduceIte, Nat.reduceAdd, Nat.reduceBEq, Nat.reduceEqDiff, Nat.reduceLeDiff, Int.reduceNeg, reduceCtorEq, Option.isSome_none]
  · have ht' : isTy .tuple d = false := by simpa using ht
    have e : isFr d = none := by
      cases d with
      | tuple l => cases ht'
      | _ => rfl
    rw [e]
    simp only [B_is_fraction, ht', kx0, kx1, kx2, sx0, sx1, sx2, sx3, sx4, sx5, sx6, sx7, nm1, List.contains_nil, List.contains_cons, List.all_nil, List.all_cons, List.isEmpty_nil, List.isEmpty_cons, List.map_cons, List.map_nil, Bool.decide_eq_true, Bool.and_true, Bool.true_and, Bool.and_false, Bool.false_and, Bool.or_true, Bool.true_or, Bool.or_false, Bool.false_or, Bool.not_true, Bool.not_false, Bool.false_eq_true, Bool.not_eq_true', decide_true, decide_false, if_true, if_false, decide_eq_true_eq, decide_eq_false_iff_not, Int.cast_ofNat_Int, true_and, false_and, and_true, and_false, not_true_eq_false, not_false_eq_true, Int.reduceAdd, Int.reduceSub, Int.reduceMul, Int.reduceLT, Int.reduceLE, Int.reduceEq, Int.reduceNe, List.length_cons, List.length_nil, ↓reduceIte, Nat.reduceAdd, Nat.reduceBEq, Nat.reduceEqDiff, Nat.reduceLeDiff, Int.reduceNeg, reduceCtorEq, Option.isSome_none]
theorem asPair_not2 {l : List D} (h : l.length ≠ 2) : asPair (.tuple l) = none := by
  unfold asPair
  split
  · rename_i e; cases e; exact absurd rfl h
  · rfl
theorem asPair_two (x y : D) : (asPair (.tuple [x, y])).isSome = ((isFr x).isSome && (isFr y).isSome) := by
  show ((isFr x).bind fun p => (isFr y).map fun q => (p, q)).isSome = _
  cases isFr x <;> cases isFr y <;> rfl
theorem notTup {d : D} (h : isTy .tuple d = false) : asPair d = none := by
  cases d with
  | tuple l => cases h
  | _ => rfl
theorem isTup {d : D} (h : isTy .tuple d = true) : ∃ l, d = .tuple l := by
  cases d with
  | tuple l => exact ⟨l, rfl⟩
  | _ => cases h
theorem are_fractions_ok (m : Nat) (d : D) : SF.run T sub 100 (m + 3) 13 [d, .int 2] = .ok ⟨.bool (asPair d).isSome, false, []⟩ := by
  rw [r_are_fractions]
  by_cases ht : isTy .tuple d = true
  · obtain ⟨l, rfl⟩ := isTup ht
    by_cases hl : l.length = 2
    · obtain ⟨x, y, rfl⟩ := len2 hl
      rw [asPair_two]
      have hc : (evB T (SF.run T sub 100 (m + 2)) L_are_fractions_1).v [.val (.tuple [x, y]), .val (.int 2), .emp] = .ok (.list ([x, y].map fun d => .bool (isFr d).isSome), true, [.val (.tuple [x, y]), .val (.int 2), .emp]) := by
        refine lc_map [x, y] id (fun d => .bool (isFr d).isSome) (by simp only [sx0, sx1, sx2, sx3, sx4, sx5, sx6, sx7, nm1, List.contains_nil, List.contains_cons, List.all_nil, List.all_cons, List.isEmpty_nil, List.isEmpty_cons, List.map_cons, List.map_nil, Bool.decide_eq_true, Bool.and_true, Bool.true_and, Bool.and_false, Bool.false_and, Bool.or_true, Bool.true_or, Bool.or_false, Bool.false_or, Bool.not_true, Bool.not_false, Bool.false_eq_true, Bool.not_eq_true', decide_true, decide_false, if_true, if_false, decide_eq_true_eq, decide_eq_false_iff_not, Int.cast_ofNat_Int, true_and, false_and, and_true, and_false, not_true_eq_false, not_false_eq_true, Int.reduceAdd, Int.reduceSub, Int.reduceMul, Int.reduceLT, Int.reduceLE, Int.reduceEq, Int.reduceNe, List.length_cons, List.length_nil, ↓reduceIte, Nat.reduceAdd, Nat.reduceBEq, Nat.reduceEqDiff, Nat.reduceLeDiff, Int.reduceNeg, reduceCtorEq]; rfl) rfl (lim_12 (n := 2) (by decide)) (fun z _ => ⟨[.val (.tuple [x, y]), .val (.int 2), .val z], by simp only [lcT, blank, blankOk, List.set_cons_zero, List.set_cons_succ, id, is_fraction_ok, kx0, kx1, kx2, sx0, sx1, sx2, sx3, sx4, sx5, sx6, sx7, nm1, List.contains_nil, List.contains_cons, List.all_nil, List.all_cons, List.isEmpty_nil, List.isEmpty_cons, List.map_cons, List.map_nil, Bool.decide_eq_true, Bool.and_true, Bool.true_and, Bool.and_false, Bool.false_and, Bool.or_true, Bool.true_or, Bool.or_false, Bool.false_or, Bool.not_true, Bool.not_false, Bool.false_eq_true, Bool.not_eq_true', decide_true, decide_false, if_true, if_false, decide_eq_true_eq, decide_eq_false_iff_not, Int.cast_ofNat_Int, true_and, false_and, and_true, and_false, not_true_eq_false, not_false_eq_true, Int.reduceAdd, Int.reduceSub, Int.reduceMul, Int.reduceLT, Int.reduceLE, Int.reduceEq, Int.reduceNe, List.length_cons, List.length_nil, ↓reduceIte, Nat.reduceAdd, Nat.reduceBEq, Nat.reduceEqDiff, Nat.reduceLeDiff, Int.reduceNeg, reduceCtorEq], rfl⟩)
      have ya := y_all (fun d => (isFr d).isSome) [x, y]
      simp only [List.map_cons, List.map_nil, List.all_cons, List.all_nil, Bool.and_true] at hc ya
      simp only [B_are_fractions, hc, ya, kx0, kx1, kx2, sx0, sx1, sx2, sx3, sx4, sx5, sx6, sx7, nm1, List.contains_nil, List.contains_cons, List.all_nil, List.all_cons, List.isEmpty_nil, List.isEmpty_cons, List.map_cons, List.map_nil, Bool.decide_eq_true, Bool.and_true, Bool.true_and, Bool.and_false, Bool.false_and, Bool.or_true, Bool.true_or, Bool.or_false, Bool.false_or, Bool.not_true, Bool.not_false, Bool.false_eq_true, Bool.not_eq_true', decide_true, decide_false, if_true, if_false, decide_eq_true_eq, decide_eq_false_iff_not, Int.cast_ofNat_Int, true_and, false_and, and_true, and_false, not_true_eq_false, not_false_eq_true, Int.reduceAdd, Int.reduceSub, Int.reduceMul, Int.reduceLT, Int.reduceLE, Int.reduceEq, Int.reduceNe, List.length_cons, List.length_nil, ↓reduceIte, Nat.reduceAdd, Nat.reduceBEq, Nat.reduceEqDiff, Nat.reduceLeDiff, Int.reduceNeg, reduceCtorEq]
    · rw [asPair_not2 hl]
      have hl' : ¬ (l.length : Int) = 2 := by omega
      simp only [B_are_fractions, hl', kx0, kx1, kx2, sx0, sx1, sx2, sx3, sx4, sx5, sx6, sx7, nm1, List.contains_nil, List.contains_cons, List.all_nil, List.all_cons, List.isEmpty_nil, List.isEmpty_cons, List.map_cons, List.map_nil, Bool.decide_eq_true, Bool.and_true, Bool.true_and, Bool.and_false, Bool.false_and, Bool.or_true, Bool.true_or, Bool.or_false, Bool.false_or, Bool.not_true, Bool.not_false, Bool.false_eq_true, Bool.not_eq_true', decide_true, decide_false, if_true, if_false, decide_eq_true_eq, decide_eq_false_iff_not, Int.cast_ofNat_Int, true_and, false_and, and_true, and_false, not_true_eq_false, not_false_eq_true, Int.reduceAdd, Int.reduceSub, Int.reduceMul, Int.reduceLT, Int.reduceLE, Int.reduceEq, Int.reduceNe, List.length_cons, List.length_nil, ↓reduceIte, Nat.reduceAdd, Nat.reduceBEq, Nat.reduceEqDiff, Nat.reduceLeDiff, Int.reduceNeg, reduceCtorEq, Option.isSome_none]
  · have ht' : isTy .tuple d = false := by simpa using ht
    rw [notTup ht']
    simp only [B_are_fractions, ht', kx0, kx1, kx2, sx0, sx1, sx2, sx3, sx4, sx5, sx6, sx7, nm1, List.contains_nil, List.contains_cons, List.all_nil, List.all_cons, List.isEmpty_nil, List.isEmpty_cons, List.map_cons, List.map_nil, Bool.decide_eq_true, Bool.and_true, Bool.true_and, Bool.and_false, Bool.false_and, Bool.or_true, Bool.true_or, Bool.or_false, Bool.false_or, Bool.not_true, Bool.not_false, Bool.false_eq_true, Bool.not_eq_true', decide_true, decide_false, if_true, if_false, decide_eq_true_eq, decide_eq_false_iff_not, Int.cast_ofNat_Int, true_and, false_and, and_true, and_false, not_true_eq_false, not_false_eq_true, Int.reduceAdd, Int.reduceSub, Int.reduceMul, Int.reduceLT, Int.reduceLE, Int.reduceEq, Int.reduceNe, List.length_cons, List.length_nil, ↓reduceIte, Nat.reduceAdd, Nat.reduceBEq, Nat.reduceEqDiff, Nat.reduceLeDiff, Int.reduceNeg, reduceCtorEq, Option.isSome_none]
theorem same_str (m : Nat) (d : D) (s : Str) : SF.run T sub 100 (m + 1) 2 [d, .str s] = .ok ⟨.bool (isS d s), false, []⟩ := by
  rw [r_same_value]
  cases d with
  | str u =>
    simp only [B_same_value, isS, kx0, kx1, kx2, sx0, sx1, sx2, sx3, sx4, sx5, sx6, sx7, nm1, List.contains_nil, List.contains_cons, List.all_nil, List.all_cons, List.isEmpty_nil, List.isEmpty_cons, List.map_cons, List.map_nil, Bool.decide_eq_true, Bool.and_true, Bool.true_and, Bool.and_false, Bool.false_and, Bool.or_true, Bool.true_or, Bool.or_false, Bool.false_or, Bool.not_true, Bool.not_false, Bool.false_eq_true, Bool.not_eq_true', decide_true, decide_false, if_true, if_false, decide_eq_true_eq, decide_eq_false_iff_not, Int.cast_ofNat_Int, true_and, false_and, and_true, and_false, not_true_eq_false, not_false_eq_true, Int.reduceAdd, Int.reduceSub, Int.reduceMul, Int.reduceLT, Int.reduceLE, Int.reduceEq, Int.reduceNe, List.length_cons, List.length_nil, ↓reduceIte, Nat.reduceAdd, Nat.reduceBEq, Nat.reduceEqDiff, Nat.reduceLeDiff, Int.reduceNeg, reduceCtorEq]
  | list l =>
    have e : isTy .tuple (.list l) = false := rfl
    have e2 : isTy .bool (.list l) = false := rfl
    have e3 : isTy .str (.list l) = false := rfl
    simp only [B_same_value, isS, e, e2, e3, kx0, kx1, kx2, sx0, sx1, sx2, sx3, sx4, sx5, sx6, sx7, nm1, List.contains_nil, List.contains_cons, List.all_nil, List.all_cons, List.isEmpty_nil, List.isEmpty_cons, List.map_cons, List.map_nil, Bool.decide_eq_true, Bool.and_true, Bool.true_and, Bool.and_false, Bool.false_and, Bool.or_true, Bool.true_or, Bool.or_false, Bool.false_or, Bool.not_true, Bool.not_false, Bool.false_eq_true, Bool.not_eq_true', decide_true, decide_false, if_true, if_false, decide_eq_true_eq, decide_eq_false_iff_not, Int.cast_ofNat_Int, true_and, false_and, and_true, and_false, not_true_eq_false, not_false_eq_true, Int.reduceAdd, Int.reduceSub, Int.reduceMul, Int.reduceLT, Int.reduceLE, Int.reduceEq, Int.reduceNe, List.length_cons, List.length_nil, ↓reduceIte, Nat.reduceAdd, Nat.reduceBEq, Nat.reduceEqDiff, Nat.reduceLeDiff, Int.reduceNeg, reduceCtorEq]
  | dict l =>
    have e : isTy .tuple (.dict l) = false := rfl
    have e2 : isTy .bool (.dict l) = false := rfl
    have e3 : isTy .str (.dict l) = false := rfl
    simp only [B_same_value, isS, e, e2, e3, kx0, kx1, kx2, sx0, sx1, sx2, sx3, sx4, sx5, sx6, sx7, nm1, List.contains_nil, List.contains_cons, List.all_nil, List.all_cons, List.isEmpty_nil, List.isEmpty_cons, List.map_cons, List.map_nil, Bool.decide_eq_true, Bool.and_true, Bool.true_and, Bool.and_false, Bool.false_and, Bool.or_true, Bool.true_or, Bool.or_false, Bool.false_or, Bool.not_true, Bool.not_false, Bool.false_eq_true, Bool.not_eq_true', decide_true, decide_false, if_true, if_false, decide_eq_true_eq, decide_eq_false_iff_not, Int.cast_ofNat_Int, true_and, false_and, and_true, and_false, not_true_eq_false, not_false_eq_true, Int.reduceAdd, Int.reduceSub, Int.reduceMul, Int.reduceLT, Int.reduceLE, Int.reduceEq, Int.reduceNe, List.length_cons, List.length_nil, ↓reduceIte, Nat.reduceAdd, Nat.reduceBEq, Nat.reduceEqDiff, Nat.reduceLeDiff, Int.reduceNeg, reduceCtorEq]
  | _ => simp only [B_same_value, isS, kx0, kx1, kx2, sx0, sx1, sx2, sx3, sx4, sx5, sx6, sx7, nm1, List.contains_nil, List.contains_cons, List.all_nil, List.all_cons, List.isEmpty_nil, List.isEmpty_cons, List.map_cons, List.map_nil, Bool.decide_eq_true, Bool.and_true, Bool.true_and, Bool.and_false, Bool.false_and, Bool.or_true, Bool.true_or, Bool.or_false, Bool.false_or, Bool.not_true, Bool.not_false, Bool.false_eq_true, Bool.not_eq_true', decide_true, decide_false, if_true, if_false, decide_eq_true_eq, decide_eq_false_iff_not, Int.cast_ofNat_Int, true_and, false_and, and_true, and_false, not_true_eq_false, not_false_eq_true, Int.reduceAdd, Int.reduceSub, Int.reduceMul, Int.reduceLT, Int.reduceLE, Int.reduceEq, Int.reduceNe, List.length_cons, List.length_nil, ↓reduceIte, Nat.reduceAdd, Nat.reduceBEq, Nat.reduceEqDiff, Nat.reduceLeDiff, Int.reduceNeg, reduceCtorEq]
theorem law_is_fraction_ok (m : Nat) (d : D) (hs : smallIs d = true) : SF.run T sub 100 (m + 2) 40 [d] = .ok ⟨.bool (isFr d).isSome, false, []⟩ := by
  rw [r__law_is_fraction]
  by_cases ht : isTy .tuple d = true
  · obtain ⟨l, rfl⟩ := isTup ht
    by_cases hl : l.length = 2
    · obtain ⟨x, y, rfl⟩ := len2 hl
      have hc : (evB T (SF.run T sub 100 (m + 1)) L__law_is_fraction_1).v [.val (.tuple [x, y]), .emp] = .ok (.list (([x, y].filter fun d => !isTy .int d || isTy .bool d).map fun d => d), true, [.val (.tuple [x, y]), .emp]) := by
        refine lc_filter [x, y] id (fun d => !isTy .int d || isTy .bool d) (fun d => d) (by simp only [sx0, sx1, sx2, sx3, sx4, sx5, sx6, sx7, nm1, List.contains_nil, List.contains_cons, List.all_nil, List.all_cons, List.isEmpty_nil, List.isEmpty_cons, List.map_cons, List.map_nil, Bool.decide_eq_true, Bool.and_true, Bool.true_and, Bool.and_false, Bool.false_and, Bool.or_true, Bool.true_or, Bool.or_false, Bool.false_or, Bool.not_true, Bool.not_false, Bool.false_eq_true, Bool.not_eq_true', decide_true, decide_false, if_true, if_false, decide_eq_true_eq, decide_eq_false_iff_not, Int.cast_ofNat_Int, true_and, false_and, and_true, and_false, not_true_eq_false, not_false_eq_true, Int.reduceAdd, Int.reduceSub, Int.reduceMul, Int.reduceLT, Int.reduceLE, Int.reduceEq, Int.reduceNe, List.length_cons, List.length_nil, ↓reduceIte, Nat.reduceAdd, Nat.reduceBEq, Nat.reduceEqDiff, Nat.reduceLeDiff, Int.reduceNeg, reduceCtorEq]; rfl) rfl (lim_12 (n := 2) (by decide)) (fun z _ => ⟨[.val (.tuple [x, y]), .val z], ?_, rfl⟩)
        simp only [lcT, blank, blankOk, List.set_cons_zero, List.set_cons_succ, id, kx0, kx1, kx2, sx0, sx1, sx2, sx3, sx4, sx5, sx6, sx7, nm1, List.contains_nil, List.contains_cons, List.all_nil, List.all_cons, List.isEmpty_nil, List.isEmpty_cons, List.map_cons, List.map_nil, Bool.decide_eq_true, Bool.and_true, Bool.true_and, Bool.and_false, Bool.false_and, Bool.or_true, Bool.true_or, Bool.or_false, Bool.false_or, Bool.not_true, Bool.not_false, Bool.false_eq_true, Bool.not_eq_true', decide_true, decide_false, if_true, if_false, decide_eq_true_eq, decide_eq_false_iff_not, Int.cast_ofNat_Int, true_and, false_and, and_true, and_false, not_true_eq_false, not_false_eq_true, Int.reduceAdd, Int.reduceSub, Int.reduceMul, Int.reduceLT, Int.reduceLE, Int.reduceEq, Int.reduceNe, List.length_cons, List.length_nil, ↓reduceIte, Nat.reduceAdd, Nat.reduceBEq, Nat.reduceEqDiff, Nat.reduceLeDiff, Int.reduceNeg, reduceCtorEq]
        cases isTy .int z <;> cases isTy .bool z <;> rfl
      by_cases hx : (isTy .int x && !isTy .bool x) = true
      · by_cases hy : (isTy .int y && !isTy .bool y) = true
        · obtain ⟨a, rfl⟩ := isInt_iff.mp hx
          obtain ⟨b, rfl⟩ := isInt_iff.mp hy
          obtain ⟨hsa, hsb⟩ := small_cons hs
          have hsb := small_int (small_cons hsb).1
          have hc2 : (evB T (SF.run T sub 100 (m + 1)) L__law_is_fraction_1).v [.val (.tuple [.int a, .int b]), .emp] = .ok (.list [], true, [.val (.tuple [.int a, .int b]), .emp]) := hc
          simp only [isFr]
          by_cases h1 : 0 < b
          · have h1' : 1 ≤ b := by omega
            obtain ⟨n, rfl⟩ := Int.eq_ofNat_of_zero_le (Int.le_of_lt h1)
            have hlt : n < 2 ^ 8900 := Nat.lt_of_lt_of_le (show n < 2 ^ 1000 by rw [Int.natAbs_natCast] at hsb; exact hsb) (Nat.pow_le_pow_right (by decide) (by decide))
            have hf := fun m => least_terms_ok m a n (by omega) hlt
            have hx := x_eq_shaped (encR (mkRat a n)) (.tuple [.int a, .int n]) (shapedR _) rfl
            have hq : (mkRat a n).num = a ∧ ((mkRat a n).den : Int) = n ↔ Int.gcd a n = 1 := by
              obtain ⟨e1, e2⟩ := fr_pos a n (by omega)
              constructor
              · rintro ⟨_, e3⟩
                rw [e3] at e2
                have hg : (0 : Int) < (Int.gcd a n : Int) := by
                  have : Int.gcd a n ≠ 0 := by intro e; have := (Int.gcd_eq_zero_iff.mp e).2; omega
                  omega
                have hd : (Int.gcd a n : Int) ∣ n := Int.gcd_dvd_right ..
                have h3 := Int.ediv_mul_cancel hd
                rw [e2] at h3
                have h4 : (n : Int) * (Int.gcd a n : Int) = n * 1 := by rw [h3]; omega
                have := Int.eq_of_mul_eq_mul_left (show (n : Int) ≠ 0 by omega) h4
                omega
              · intro h
                rw [h] at e1 e2
                exact ⟨by rw [← e1]; simp, by rw [← e2]; simp⟩
            have he : PyData.eqv (encR (mkRat a n)) (.tuple [.int a, .int n]) = decide (Int.gcd a n = 1) :=
              eqv_dec rfl rfl rfl ⟨fun h => by obtain ⟨e1, e2⟩ := hq.mpr h; unfold encR; rw [e1, e2], fun h => hq.mp (by
                unfold encR at h
                injection h with h; injection h with h1 h; injection h with h2 h
                injection h1 with h1; injection h2 with h2
                exact ⟨h1, h2⟩)⟩
            rw [he] at hx
            simp only [B__law_is_fraction, hc2, h1, h1', hf, hx, kx0, kx1, kx2, sx0, sx1, sx2, sx3, sx4, sx5, sx6, sx7, nm1, List.contains_nil, List.contains_cons, List.all_nil, List.all_cons, List.isEmpty_nil, List.isEmpty_cons, List.map_cons, List.map_nil, Bool.decide_eq_true, Bool.and_true, Bool.true_and, Bool.and_false, Bool.false_and, Bool.or_true, Bool.true_or, Bool.or_false, Bool.false_or, Bool.not_true, Bool.not_false, Bool.false_eq_true, Bool.not_eq_true', decide_true, decide_false, if_true, if_false, decide_eq_true_eq, decide_eq_false_iff_not, Int.cast_ofNat_Int, true_and, false_and, and_true, and_false, not_true_eq_false, not_false_eq_true, Int.reduceAdd, Int.reduceSub, Int.reduceMul, Int.reduceLT, Int.reduceLE, Int.reduceEq, Int.reduceNe, List.length_cons, List.length_nil, ↓reduceIte, Nat.reduceAdd, Nat.reduceBEq, Nat.reduceEqDiff, Nat.reduceLeDiff, Int.reduceNeg, reduceCtorEq, true_and]
            by_cases hg : Int.gcd a n = 1
            · simp only [hg, sx0, sx1, sx2, sx3, sx4, sx5, sx6, sx7, nm1, List.contains_nil, List.contains_cons, List.all_nil, List.all_cons, List.isEmpty_nil, List.isEmpty_cons, List.map_cons, List.map_nil, Bool.decide_eq_true, Bool.and_true, Bool.true_and, Bool.and_false, Bool.false_and, Bool.or_true, Bool.true_or, Bool.or_false, Bool.false_or, Bool.not_true, Bool.not_false, Bool.false_eq_true, Bool.not_eq_true', decide_true, decide_false, if_true, if_false, decide_eq_true_eq, decide_eq_false_iff_not, Int.cast_ofNat_Int, true_and, false_and, and_true, and_false, not_true_eq_false, not_false_eq_true, Int.reduceAdd, Int.reduceSub, Int.reduceMul, Int.reduceLT, Int.reduceLE, Int.reduceEq, Int.reduceNe, List.length_cons, List.length_nil, ↓reduceIte, Nat.reduceAdd, Nat.reduceBEq, Nat.reduceEqDiff, Nat.reduceLeDiff, Int.reduceNeg, reduceCtorEq, Option.isSome_some]
            · simp only [hg, sx0, sx1, sx2, sx3, sx4, sx5, sx6, sx7, nm1, List.contains_nil, List.contains_cons, List.all_nil, List.all_cons, List.isEmpty_nil, List.isEmpty_cons, List.map_cons, List.map_nil, Bool.decide_eq_true, Bool.and_true, Bool.true_and, Bool.and_false, Bool.false_and, Bool.or_true, Bool.true_or, Bool.or_false, Bool.false_or, Bool.not_true, Bool.not_false, Bool.false_eq_true, Bool.not_eq_true', decide_true, decide_false, if_true, if_false, decide_eq_true_eq, decide_eq_false_iff_not, Int.cast_ofNat_Int, true_and, false_and, and_true, and_false, not_true_eq_false, not_false_eq_true, Int.reduceAdd, Int.reduceSub, Int.reduceMul, Int.reduceLT, Int.reduceLE, Int.reduceEq, Int.reduceNe, List.length_cons, List.length_nil, ↓reduceIte, Nat.reduceAdd, Nat.reduceBEq, Nat.reduceEqDiff, Nat.reduceLeDiff, Int.reduceNeg, reduceCtorEq, Option.isSome_none]
          · have h1' : ¬ 1 ≤ b := by omega
            simp only [B__law_is_fraction, hc2, h1, h1', kx0, kx1, kx2, sx0, sx1, sx2, sx3, sx4, sx5, sx6, sx7, nm1, List.contains_nil, List.contains_cons, List.all_nil, List.all_cons, List.isEmpty_nil, List.isEmpty_cons, List.map_cons, List.map_nil, Bool.decide_eq_true, Bool.and_true, Bool.true_and, Bool.and_false, Bool.false_and, Bool.or_true, Bool.true_or, Bool.or_false, Bool.false_or, Bool.not_true, Bool.not_false, Bool.false_eq_true, Bool.not_eq_true', decide_true, decide_false, if_true, if_false, decide_eq_true_eq, decide_eq_false_iff_not, Int.cast_ofNat_Int, true_and, false_and, and_true, and_false, not_true_eq_false, not_false_eq_true, Int.reduceAdd, Int.reduceSub, Int.reduceMul, Int.reduceLT, Int.reduceLE, Int.reduceEq, Int.reduceNe, List.length_cons, List.length_nil, ↓reduceIte, Nat.reduceAdd, Nat.reduceBEq, Nat.reduceEqDiff, Nat.reduceLeDiff, Int.reduceNeg, reduceCtorEq, false_and, Option.isSome_none]
        · have e := isFr_int (x := x) (y := y) fun c => hy (isInt_iff.mpr c.2)
          have hy' : (!isTy .int y || isTy .bool y) = true := by revert hy; cases isTy .int y <;> cases isTy .bool y <;> simp
          rw [e]
          have : ([x, y].filter fun d => !isTy .int d || isTy .bool d) ≠ [] := by
            intro h
            have := List.filter_eq_nil_iff.mp h y (by simp)
            exact this hy'
          rw [List.map_id'] at hc
          have hne : (!([x, y].filter fun d => !isTy .int d || isTy .bool d).isEmpty) = true := by
            cases hh : ([x, y].filter fun d => !isTy .int d || isTy .bool d) with
            | nil => exact absurd hh this
            | cons _ _ => rfl
          simp only [B__law_is_fraction, hc, hne, kx0, kx1, kx2, sx0, sx1, sx2, sx3, sx4, sx5, sx6, sx7, nm1, List.contains_nil, List.contains_cons, List.all_nil, List.all_cons, List.isEmpty_nil, List.isEmpty_cons, List.map_cons, List.map_nil, Bool.decide_eq_true, Bool.and_true, Bool.true_and, Bool.and_false, Bool.false_and, Bool.or_true, Bool.true_or, Bool.or_false, Bool.false_or, Bool.not_true, Bool.not_false, Bool.false_eq_true, Bool.not_eq_true', decide_true, decide_false, if_true, if_false, decide_eq_true_eq, decide_eq_false_iff_not, Int.cast_ofNat_Int, true_and, false_and, and_true, and_false, not_true_eq_false, not_false_eq_true, Int.reduceAdd, Int.reduceSub, Int.reduceMul, Int.reduceLT, Int.reduceLE, Int.reduceEq, Int.reduceNe, List.length_cons, List.length_nil, ↓reduceIte, Nat.reduceAdd, Nat.reduceBEq, Nat.reduceEqDiff, Nat.reduceLeDiff, Int.reduceNeg, reduceCtorEq, Option.isSome_none]
      · have e := isFr_int (x := x) (y := y) fun c => hx (isInt_iff.mpr c.1)
        have hx' : (!isTy .int x || isTy .bool x) = true := by revert hx; cases isTy .int x <;> cases isTy .bool x <;> simp
        rw [e]
        have : ([x, y].filter fun d => !isTy .int d || isTy .bool d) ≠ [] := by
          intro h
          have := List.filter_eq_nil_iff.mp h x (by simp)
          exact this hx'
        rw [List.map_id'] at hc
        have hne : (!([x, y].filter fun d => !isTy .int d || isTy .bool d).isEmpty) = true := by
          cases hh : ([x, y].filter fun d => !isTy .int d || isTy .bool d) with
          | nil => exact absurd hh this
          | cons _ _ => rfl
        simp only [B__law_is_fraction, hc, hne, kx0, kx1, kx2, sx0, sx1, sx2, sx3, sx4, sx5, sx6, sx7, nm1, List.contains_nil, List.contains_cons, List.all_nil, List.all_cons, List.isEmpty_nil, List.isEmpty_cons, List.map_cons, List.map_nil, Bool.decide_eq_true, Bool.and_true, Bool.true_and, Bool.and_false, Bool.false_and, Bool.or_true, Bool.true_or, Bool.or_false, Bool.false_or, Bool.not_true, Bool.not_false, Bool.false_eq_true, Bool.not_eq_true', decide_true, decide_false, if_true, if_false, decide_eq_true_eq, decide_eq_false_iff_not, Int.cast_ofNat_Int, true_and, false_and, and_true, and_false, not_true_eq_false, not_false_eq_true, Int.reduceAdd, Int.reduceSub, Int.reduceMul, Int.reduceLT, Int.reduceLE, Int.reduceEq, Int.reduceNe, List.length_cons, List.length_nil, ↓reduceIte, Nat.reduceAdd, Nat.reduceBEq, Nat.reduceEqDiff, Nat.reduceLeDiff, Int.reduceNeg, reduceCtorEq, Option.isSome_none]
    · rw [isFr_not2 hl]
      have hl' : ¬ (l.length : Int) = 2 := by omega
      simp only [B__law_is_fraction, hl', kx0, kx1, kx2, sx0, sx1, sx2, sx3, sx4, sx5, sx6, sx7, nm1, List.contains_nil, List.contains_cons, List.all_nil, List.all_cons, List.isEmpty_nil, List.isEmpty_cons, List.map_cons, List.map_nil, Bool.decide_eq_true, Bool.and_true, Bool.true_and, Bool.and_false, Bool.false_and, Bool.or_true, Bool.true_or, Bool.or_false, Bool.false_or, Bool.not_true, Bool.not_false, Bool.false_eq_true, Bool.not_eq_true', decide_true, decide_false, if_true, if_false, decide_eq_true_eq, decide_eq_false_iff_not, Int.cast_ofNat_Int, true_and, false_and, and_true, and_false, not_true_eq_false, not_false_eq_true, Int.reduceAdd, Int.reduceSub, Int.reduceMul, Int.reduceLT, Int.reduceLE, Int.reduceEq, Int.reduceNe, List.length_cons, List.length_nil, ↓reduceIte, Nat.reduceAdd, Nat.reduceBEq, Nat.reduceEqDiff, Nat.reduceLeDiff, Int.reduceNeg, reduceCtorEq, Option.isSome_none]
  · have ht' : isTy .tuple d = false := by simpa using ht
    have e : isFr d = none := by
      cases d with
      | tuple l => cases ht'
      | _ => rfl
    rw [e]
    simp only [B__law_is_fraction, ht', kx0, kx1, kx2, sx0, sx1, sx2, sx3, sx4, sx5, sx6, sx7, nm1, List.contains_nil, List.contains_cons, List.all_nil, List.all_cons, List.isEmpty_nil, List.isEmpty_cons, List.map_cons, List.map_nil, Bool.decide_eq_true, Bool.and_true, Bool.true_and, Bool.and_false, Bool.false_and, Bool.or_true, Bool.true_or, Bool.or_false, Bool.false_or, Bool.not_true, Bool.not_false, Bool.false_eq_true, Bool.not_eq_true', decide_true, decide_false, if_true, if_false, decide_eq_true_eq, decide_eq_false_iff_not, Int.cast_ofNat_Int, true_and, false_and, and_true, and_false, not_true_eq_false, not_false_eq_true, Int.reduceAdd, Int.reduceSub, Int.reduceMul, Int.reduceLT, Int.reduceLE, Int.reduceEq, Int.reduceNe, List.length_cons, List.length_nil, ↓reduceIte, Nat.reduceAdd, Nat.reduceBEq, Nat.reduceEqDiff, Nat.reduceLeDiff, Int.reduceNeg, reduceCtorEq, Option.isSome_none]

/-! forces: the program's judge and the law's -/
theorem low_high_sm {t : List Blk} (ht : BT t) (k : Nat) (p : Rat × Rat) (hp : Sm2 1000 p) (hk : k < t.length) :
    (Bd p.1 ∧ Bd p.2 ∧ Bd (wt t k : Rat) ∧ Bd ((ctc t k).1 : Rat) ∧ Bd ((ctc t k).2 : Rat) ∧ Bd (ctr t k)) ∧ Bd (((ctc t k).1 : Rat) * p.1) ∧ Bd (((ctc t k).2 : Rat) * p.2) := by
  have h1 := ctc_sm ht k
  exact ⟨⟨Bd.of hp.1 (by decide), Bd.of hp.2 (by decide), Bd.of (wt_sm ht k) (by decide), Bd.of h1.1 (by decide), Bd.of h1.2 (by decide), Bd.of (ctr_sm ht hk) (by decide)⟩,
    Bd.of (h1.1.mul hp.1) (by decide), Bd.of (h1.2.mul hp.2) (by decide)⟩
theorem bd0 : Bd 0 := by unfold Bd; exact ⟨Nat.two_pow_pos _, by show 1 < 2 ^ 4000; exact Nat.one_lt_two_pow (by decide)⟩
theorem accept_turn (m : Nat) (t : List Blk) (ht : BT t) (k : Nat) (hk : k < t.length) (p : Rat × Rat) (hp : Sm2 1000 p) (d : D) (s2 s3 s4 s5 s6 s7 : Option D) :
    match badAt t k p with
    | some r => foT T (SF.run T sub 100 (m + 4)) sub 100 (Tg.t (Tgs.cons (Tg.n 2) (Tgs.cons (Tg.n 3) Tgs.nil))) L_accept_stands_2 (.tuple [.int k, enc2 p]) [.val (encT t), .val d, .opt s2, .opt s3, .opt s4, .opt s5, .opt s6, .opt s7] = .ex 2 [.str r]
    | none => ∃ s2' s3' s4' s5' s6' s7', foT T (SF.run T sub 100 (m + 4)) sub 100 (Tg.t (Tgs.cons (Tg.n 2) (Tgs.cons (Tg.n 3) Tgs.nil))) L_accept_stands_2 (.tuple [.int k, enc2 p]) [.val (encT t), .val d, .opt s2, .opt s3, .opt s4, .opt s5, .opt s6, .opt s7] = .ok (.nx, [.val (encT t), .val d, .opt s2', .opt s3', .opt s4', .opt s5', .opt s6', .opt s7']) := by
  obtain ⟨⟨b1, b2, b3, b4, b5, b6⟩, b7, b8⟩ := low_high_sm ht k p hp hk
  have hw := fun m => weight_from_ok m t ht k
  have hc := fun m => contact_ok m t k hk
  have hz := fun m => centre_from_ok m t ht k hk
  have l1 := fun m => is_less_ok m p.1 0 b1 bd0
  have l2 := fun m => is_less_ok m p.2 0 b2 bd0
  have a1 := fun m => add_ok m p.1 p.2 b1 b2
  have m1 := fun m => multiply_ok m ((ctc t k).1 : Rat) p.1 b4 b1
  have m2 := fun m => multiply_ok m ((ctc t k).2 : Rat) p.2 b5 b2
  have m3 := fun m => multiply_ok m (ctr t k) (wt t k : Rat) b6 b3
  have a2 := fun m => add_ok m _ _ b7 b8
  have w0 := fun m => whole_ok m (wt t k)
  have w1 := fun m => whole_ok m (ctc t k).1
  have w2 := fun m => whole_ok m (ctc t k).2
  unfold badAt
  by_cases c1 : p.1 < 0 ∨ p.2 < 0
  · rw [if_pos c1]
    have c1' : (decide (p.1 < 0) || decide (p.2 < 0)) = true := by simpa using c1
    simp only [foT, L_accept_stands_2, enc2, encR_0, hc, hw, w0, l1, l2, kx0, kx1, kx2, sx0, sx1, sx2, sx3, sx4, sx5, sx6, sx7, nm1, List.contains_nil, List.contains_cons, List.all_nil, List.all_cons, List.isEmpty_nil, List.isEmpty_cons, List.map_cons, List.map_nil, Bool.decide_eq_true, Bool.and_true, Bool.true_and, Bool.and_false, Bool.false_and, Bool.or_true, Bool.true_or, Bool.or_false, Bool.false_or, Bool.not_true, Bool.not_false, Bool.false_eq_true, Bool.not_eq_true', decide_true, decide_false, if_true, if_false, decide_eq_true_eq, decide_eq_false_iff_not, Int.cast_ofNat_Int, true_and, false_and, and_true, and_false, not_true_eq_false, not_false_eq_true, Int.reduceAdd, Int.reduceSub, Int.reduceMul, Int.reduceLT, Int.reduceLE, Int.reduceEq, Int.reduceNe, List.length_cons, List.length_nil, ↓reduceIte, Nat.reduceAdd, Nat.reduceBEq, Nat.reduceEqDiff, Nat.reduceLeDiff, Int.reduceNeg, reduceCtorEq]
    by_cases x1 : p.1 < 0
    · simp only [x1, sx0, sx1, sx2, sx3, sx4, sx5, sx6, sx7, nm1, List.contains_nil, List.contains_cons, List.all_nil, List.all_cons, List.isEmpty_nil, List.isEmpty_cons, List.map_cons, List.map_nil, Bool.decide_eq_true, Bool.and_true, Bool.true_and, Bool.and_false, Bool.false_and, Bool.or_true, Bool.true_or, Bool.or_false, Bool.false_or, Bool.not_true, Bool.not_false, Bool.false_eq_true, Bool.not_eq_true', decide_true, decide_false, if_true, if_false, decide_eq_true_eq, decide_eq_false_iff_not, Int.cast_ofNat_Int, true_and, false_and, and_true, and_false, not_true_eq_false, not_false_eq_true, Int.reduceAdd, Int.reduceSub, Int.reduceMul, Int.reduceLT, Int.reduceLE, Int.reduceEq, Int.reduceNe, List.length_cons, List.length_nil, ↓reduceIte, Nat.reduceAdd, Nat.reduceBEq, Nat.reduceEqDiff, Nat.reduceLeDiff, Int.reduceNeg, reduceCtorEq]
    · simp only [x1, c1.resolve_left x1, sx0, sx1, sx2, sx3, sx4, sx5, sx6, sx7, nm1, List.contains_nil, List.contains_cons, List.all_nil, List.all_cons, List.isEmpty_nil, List.isEmpty_cons, List.map_cons, List.map_nil, Bool.decide_eq_true, Bool.and_true, Bool.true_and, Bool.and_false, Bool.false_and, Bool.or_true, Bool.true_or, Bool.or_false, Bool.false_or, Bool.not_true, Bool.not_false, Bool.false_eq_true, Bool.not_eq_true', decide_true, decide_false, if_true, if_false, decide_eq_true_eq, decide_eq_false_iff_not, Int.cast_ofNat_Int, true_and, false_and, and_true, and_false, not_true_eq_false, not_false_eq_true, Int.reduceAdd, Int.reduceSub, Int.reduceMul, Int.reduceLT, Int.reduceLE, Int.reduceEq, Int.reduceNe, List.length_cons, List.length_nil, ↓reduceIte, Nat.reduceAdd, Nat.reduceBEq, Nat.reduceEqDiff, Nat.reduceLeDiff, Int.reduceNeg, reduceCtorEq]
  · rw [if_neg c1]
    have x1 : ¬ p.1 < 0 := fun h => c1 (.inl h)
    have x2 : ¬ p.2 < 0 := fun h => c1 (.inr h)
    by_cases c2 : p.1 + p.2 = (wt t k : Rat)
    · by_cases c3 : ((ctc t k).1 : Rat) * p.1 + ((ctc t k).2 : Rat) * p.2 = ctr t k * (wt t k : Rat)
      · simp only [c2, c3, ne_eq, sx0, sx1, sx2, sx3, sx4, sx5, sx6, sx7, nm1, List.contains_nil, List.contains_cons, List.all_nil, List.all_cons, List.isEmpty_nil, List.isEmpty_cons, List.map_cons, List.map_nil, Bool.decide_eq_true, Bool.and_true, Bool.true_and, Bool.and_false, Bool.false_and, Bool.or_true, Bool.true_or, Bool.or_false, Bool.false_or, Bool.not_true, Bool.not_false, Bool.false_eq_true, Bool.not_eq_true', decide_true, decide_false, if_true, if_false, decide_eq_true_eq, decide_eq_false_iff_not, Int.cast_ofNat_Int, true_and, false_and, and_true, and_false, not_true_eq_false, not_false_eq_true, Int.reduceAdd, Int.reduceSub, Int.reduceMul, Int.reduceLT, Int.reduceLE, Int.reduceEq, Int.reduceNe, List.length_cons, List.length_nil, ↓reduceIte, Nat.reduceAdd, Nat.reduceBEq, Nat.reduceEqDiff, Nat.reduceLeDiff, Int.reduceNeg, reduceCtorEq]
        refine ⟨some (.int k), some (enc2 p), some (encR (wt t k : Rat)), some (encR (ctr t k * (wt t k : Rat))), some (.int (ctc t k).1), some (.int (ctc t k).2), ?_⟩
        simp only [foT, L_accept_stands_2, enc2, encR_0, hc, hw, w0, w1, w2, l1, l2, a1, a2, m1, m2, m3, hz, x_ne_R, c2, c3, x1, x2, opt_some, kx0, kx1, kx2, sx0, sx1, sx2, sx3, sx4, sx5, sx6, sx7, nm1, List.contains_nil, List.contains_cons, List.all_nil, List.all_cons, List.isEmpty_nil, List.isEmpty_cons, List.map_cons, List.map_nil, Bool.decide_eq_true, Bool.and_true, Bool.true_and, Bool.and_false, Bool.false_and, Bool.or_true, Bool.true_or, Bool.or_false, Bool.false_or, Bool.not_true, Bool.not_false, Bool.false_eq_true, Bool.not_eq_true', decide_true, decide_false, if_true, if_false, decide_eq_true_eq, decide_eq_false_iff_not, Int.cast_ofNat_Int, true_and, false_and, and_true, and_false, not_true_eq_false, not_false_eq_true, Int.reduceAdd, Int.reduceSub, Int.reduceMul, Int.reduceLT, Int.reduceLE, Int.reduceEq, Int.reduceNe, List.length_cons, List.length_nil, ↓reduceIte, Nat.reduceAdd, Nat.reduceBEq, Nat.reduceEqDiff, Nat.reduceLeDiff, Int.reduceNeg, reduceCtorEq]
      · simp only [c2, c3, ne_eq, sx0, sx1, sx2, sx3, sx4, sx5, sx6, sx7, nm1, List.contains_nil, List.contains_cons, List.all_nil, List.all_cons, List.isEmpty_nil, List.isEmpty_cons, List.map_cons, List.map_nil, Bool.decide_eq_true, Bool.and_true, Bool.true_and, Bool.and_false, Bool.false_and, Bool.or_true, Bool.true_or, Bool.or_false, Bool.false_or, Bool.not_true, Bool.not_false, Bool.false_eq_true, Bool.not_eq_true', decide_true, decide_false, if_true, if_false, decide_eq_true_eq, decide_eq_false_iff_not, Int.cast_ofNat_Int, true_and, false_and, and_true, and_false, not_true_eq_false, not_false_eq_true, Int.reduceAdd, Int.reduceSub, Int.reduceMul, Int.reduceLT, Int.reduceLE, Int.reduceEq, Int.reduceNe, List.length_cons, List.length_nil, ↓reduceIte, Nat.reduceAdd, Nat.reduceBEq, Nat.reduceEqDiff, Nat.reduceLeDiff, Int.reduceNeg, reduceCtorEq]
        simp only [foT, L_accept_stands_2, enc2, encR_0, hc, hw, w0, w1, w2, l1, l2, a1, a2, m1, m2, m3, hz, x_ne_R, c2, c3, x1, x2, kx0, kx1, kx2, sx0, sx1, sx2, sx3, sx4, sx5, sx6, sx7, nm1, List.contains_nil, List.contains_cons, List.all_nil, List.all_cons, List.isEmpty_nil, List.isEmpty_cons, List.map_cons, List.map_nil, Bool.decide_eq_true, Bool.and_true, Bool.true_and, Bool.and_false, Bool.false_and, Bool.or_true, Bool.true_or, Bool.or_false, Bool.false_or, Bool.not_true, Bool.not_false, Bool.false_eq_true, Bool.not_eq_true', decide_true, decide_false, if_true, if_false, decide_eq_true_eq, decide_eq_false_iff_not, Int.cast_ofNat_Int, true_and, false_and, and_true, and_false, not_true_eq_false, not_false_eq_true, Int.reduceAdd, Int.reduceSub, Int.reduceMul, Int.reduceLT, Int.reduceLE, Int.reduceEq, Int.reduceNe, List.length_cons, List.length_nil, ↓reduceIte, Nat.reduceAdd, Nat.reduceBEq, Nat.reduceEqDiff, Nat.reduceLeDiff, Int.reduceNeg, reduceCtorEq]
    · simp only [c2, ne_eq, sx0, sx1, sx2, sx3, sx4, sx5, sx6, sx7, nm1, List.contains_nil, List.contains_cons, List.all_nil, List.all_cons, List.isEmpty_nil, List.isEmpty_cons, List.map_cons, List.map_nil, Bool.decide_eq_true, Bool.and_true, Bool.true_and, Bool.and_false, Bool.false_and, Bool.or_true, Bool.true_or, Bool.or_false, Bool.false_or, Bool.not_true, Bool.not_false, Bool.false_eq_true, Bool.not_eq_true', decide_true, decide_false, if_true, if_false, decide_eq_true_eq, decide_eq_false_iff_not, Int.cast_ofNat_Int, true_and, false_and, and_true, and_false, not_true_eq_false, not_false_eq_true, Int.reduceAdd, Int.reduceSub, Int.reduceMul, Int.reduceLT, Int.reduceLE, Int.reduceEq, Int.reduceNe, List.length_cons, List.length_nil, ↓reduceIte, Nat.reduceAdd, Nat.reduceBEq, Nat.reduceEqDiff, Nat.reduceLeDiff, Int.reduceNeg, reduceCtorEq]
      simp only [foT, L_accept_stands_2, enc2, encR_0, hc, hw, w0, w1, w2, l1, l2, a1, x_ne_R, c2, x1, x2, kx0, kx1, kx2, sx0, sx1, sx2, sx3, sx4, sx5, sx6, sx7, nm1, List.contains_nil, List.contains_cons, List.all_nil, List.all_cons, List.isEmpty_nil, List.isEmpty_cons, List.map_cons, List.map_nil, Bool.decide_eq_true, Bool.and_true, Bool.true_and, Bool.and_false, Bool.false_and, Bool.or_true, Bool.true_or, Bool.or_false, Bool.false_or, Bool.not_true, Bool.not_false, Bool.false_eq_true, Bool.not_eq_true', decide_true, decide_false, if_true, if_false, decide_eq_true_eq, decide_eq_false_iff_not, Int.cast_ofNat_Int, true_and, false_and, and_true, and_false, not_true_eq_false, not_false_eq_true, Int.reduceAdd, Int.reduceSub, Int.reduceMul, Int.reduceLT, Int.reduceLE, Int.reduceEq, Int.reduceNe, List.length_cons, List.length_nil, ↓reduceIte, Nat.reduceAdd, Nat.reduceBEq, Nat.reduceEqDiff, Nat.reduceLeDiff, Int.reduceNeg, reduceCtorEq]
theorem law_turn (m : Nat) (t : List Blk) (ht : BT t) (k : Nat) (hk : k < t.length) (p : Rat × Rat) (hp : Sm2 1000 p) (fs : List D) (hf : fs[k]? = some (enc2 p)) (s2 s3 s4 s5 s6 s7 s8 s9 : Option D) :
    match badAt t k p with
    | some r => ∃ nv', foT T (SF.run T sub 100 (m + 2)) sub 100 (Tg.n 3) L__law_forces_reason_4 (.int k) [.val (encT t), .val (.tuple fs), .opt s2, .opt s3, .opt s4, .opt s5, .opt s6, .opt s7, .opt s8, .opt s9] = .ok (.rt (.str r) false, nv')
    | none => ∃ s3' s4' s5' s6' s7' s8', foT T (SF.run T sub 100 (m + 2)) sub 100 (Tg.n 3) L__law_forces_reason_4 (.int k) [.val (encT t), .val (.tuple fs), .opt s2, .opt s3, .opt s4, .opt s5, .opt s6, .opt s7, .opt s8, .opt s9] = .ok (.nx, [.val (encT t), .val (.tuple fs), .opt s2, .opt s3', .opt s4', .opt s5', .opt s6', .opt s7', .opt s8', .opt s9]) := by
  obtain ⟨⟨b1, b2, b3, b4, b5, b6⟩, b7, b8⟩ := low_high_sm ht k p hp hk
  have hc := fun m => law_contact_ok m t k hk
  have hz := fun m => law_centre_ok m t ht k hk
  have a1 := fun m => law_plus_ok m p.1 p.2 b1 b2
  have m1 := fun m => law_times_ok m p.1 ((ctc t k).1 : Rat) b1 b4
  have m2 := fun m => law_times_ok m p.2 ((ctc t k).2 : Rat) b2 b5
  have m3 := fun m => law_times_ok m (ctr t k) (wt t k : Rat) b6 b3
  have a2 := fun m => law_plus_ok m _ _ b7 b8
  rw [Rat.mul_comm] at m1 m2
  have n1 : (p.1.num < 0) ↔ p.1 < 0 := by rw [← Rat.not_le, ← Rat.num_nonneg]; omega
  have n2 : (p.2.num < 0) ↔ p.2 < 0 := by rw [← Rat.not_le, ← Rat.num_nonneg]; omega
  have hx : L2.atI fs (k : Int) = some (.tuple [encR p.1, encR p.2]) := by rw [at_n]; exact hf
  have hcmp : ∀ s2 s4 d5 d6 d7 d8 s9, (evB T (SF.run T sub 100 (m + 2)) L__law_forces_reason_3).v [.val (encT t), .val (.tuple fs), .opt s2, .val (.int k), .opt s4, .val d5, .val d6, .val d7, .val d8, .opt s9] = .ok (.list ((t.drop k).map fun b => .int b.g), true, [.val (encT t), .val (.tuple fs), .opt s2, .val (.int k), .opt s4, .val d5, .val d6, .val d7, .val d8, .opt s9]) := by
    intro s2 s4 d5 d6 d7 d8 s9
    exact lc_map (t.drop k) encB (fun b => .int b.g) (by simp only [encT, List.map_drop, sx0, sx1, sx2, sx3, sx4, sx5, sx6, sx7, nm1, List.contains_nil, List.contains_cons, List.all_nil, List.all_cons, List.isEmpty_nil, List.isEmpty_cons, List.map_cons, List.map_nil, Bool.decide_eq_true, Bool.and_true, Bool.true_and, Bool.and_false, Bool.false_and, Bool.or_true, Bool.true_or, Bool.or_false, Bool.false_or, Bool.not_true, Bool.not_false, Bool.false_eq_true, Bool.not_eq_true', decide_true, decide_false, if_true, if_false, decide_eq_true_eq, decide_eq_false_iff_not, Int.cast_ofNat_Int, true_and, false_and, and_true, and_false, not_true_eq_false, not_false_eq_true, Int.reduceAdd, Int.reduceSub, Int.reduceMul, Int.reduceLT, Int.reduceLE, Int.reduceEq, Int.reduceNe, List.length_cons, List.length_nil, ↓reduceIte, Nat.reduceAdd, Nat.reduceBEq, Nat.reduceEqDiff, Nat.reduceLeDiff, Int.reduceNeg, reduceCtorEq]) (by cases s9 <;> rfl) (lim_12 (ht.drop k).2) (fun b _ => ⟨[.val (encT t), .val (.tuple fs), .opt s2, .val (.int k), .opt s4, .val d5, .val d6, .val d7, .val d8, .val (encB b)], by simp only [lcT, blank, blankOk, List.set_cons_zero, List.set_cons_succ, encB, sx0, sx1, sx2, sx3, sx4, sx5, sx6, sx7, nm1, List.contains_nil, List.contains_cons, List.all_nil, List.all_cons, List.isEmpty_nil, List.isEmpty_cons, List.map_cons, List.map_nil, Bool.decide_eq_true, Bool.and_true, Bool.true_and, Bool.and_false, Bool.false_and, Bool.or_true, Bool.true_or, Bool.or_false, Bool.false_or, Bool.not_true, Bool.not_false, Bool.false_eq_true, Bool.not_eq_true', decide_true, decide_false, if_true, if_false, decide_eq_true_eq, decide_eq_false_iff_not, Int.cast_ofNat_Int, true_and, false_and, and_true, and_false, not_true_eq_false, not_false_eq_true, Int.reduceAdd, Int.reduceSub, Int.reduceMul, Int.reduceLT, Int.reduceLE, Int.reduceEq, Int.reduceNe, List.length_cons, List.length_nil, ↓reduceIte, Nat.reduceAdd, Nat.reduceBEq, Nat.reduceEqDiff, Nat.reduceLeDiff, Int.reduceNeg, reduceCtorEq], rfl⟩)
  have ew : ((t.drop k).map (·.g)).sum = wt t k := rfl
  unfold badAt
  by_cases c1 : p.1 < 0 ∨ p.2 < 0
  · rw [if_pos c1]
    by_cases x1 : p.1 < 0
    · have y1 := n1.mpr x1
      refine ⟨?_, ?_⟩
      rotate_left
      · simp only [foT, L__law_forces_reason_4, hx, hc, hcmp, y_sum, ew, kx0, kx1, kx2, sx0, sx1, sx2, sx3, sx4, sx5, sx6, sx7, nm1, List.contains_nil, List.contains_cons, List.all_nil, List.all_cons, List.isEmpty_nil, List.isEmpty_cons, List.map_cons, List.map_nil, Bool.decide_eq_true, Bool.and_true, Bool.true_and, Bool.and_false, Bool.false_and, Bool.or_true, Bool.true_or, Bool.or_false, Bool.false_or, Bool.not_true, Bool.not_false, Bool.false_eq_true, Bool.not_eq_true', decide_true, decide_false, if_true, if_false, decide_eq_true_eq, decide_eq_false_iff_not, Int.cast_ofNat_Int, true_and, false_and, and_true, and_false, not_true_eq_false, not_false_eq_true, Int.reduceAdd, Int.reduceSub, Int.reduceMul, Int.reduceLT, Int.reduceLE, Int.reduceEq, Int.reduceNe, List.length_cons, List.length_nil, ↓reduceIte, Nat.reduceAdd, Nat.reduceBEq, Nat.reduceEqDiff, Nat.reduceLeDiff, Int.reduceNeg, reduceCtorEq]
        simp only [encR, y1, sx0, sx1, sx2, sx3, sx4, sx5, sx6, sx7, nm1, List.contains_nil, List.contains_cons, List.all_nil, List.all_cons, List.isEmpty_nil, List.isEmpty_cons, List.map_cons, List.map_nil, Bool.decide_eq_true, Bool.and_true, Bool.true_and, Bool.and_false, Bool.false_and, Bool.or_true, Bool.true_or, Bool.or_false, Bool.false_or, Bool.not_true, Bool.not_false, Bool.false_eq_true, Bool.not_eq_true', decide_true, decide_false, if_true, if_false, decide_eq_true_eq, decide_eq_false_iff_not, Int.cast_ofNat_Int, true_and, false_and, and_true, and_false, not_true_eq_false, not_false_eq_true, Int.reduceAdd, Int.reduceSub, Int.reduceMul, Int.reduceLT, Int.reduceLE, Int.reduceEq, Int.reduceNe, List.length_cons, List.length_nil, ↓reduceIte, Nat.reduceAdd, Nat.reduceBEq, Nat.reduceEqDiff, Nat.reduceLeDiff, Int.reduceNeg, reduceCtorEq]
        rfl
    · have x2 := c1.resolve_left x1
      have y1 : ¬ p.1.num < 0 := fun h => x1 (n1.mp h)
      have y2 := n2.mpr x2
      refine ⟨?_, ?_⟩
      rotate_left
      · simp only [foT, L__law_forces_reason_4, hx, hc, hcmp, y_sum, ew, kx0, kx1, kx2, sx0, sx1, sx2, sx3, sx4, sx5, sx6, sx7, nm1, List.contains_nil, List.contains_cons, List.all_nil, List.all_cons, List.isEmpty_nil, List.isEmpty_cons, List.map_cons, List.map_nil, Bool.decide_eq_true, Bool.and_true, Bool.true_and, Bool.and_false, Bool.false_and, Bool.or_true, Bool.true_or, Bool.or_false, Bool.false_or, Bool.not_true, Bool.not_false, Bool.false_eq_true, Bool.not_eq_true', decide_true, decide_false, if_true, if_false, decide_eq_true_eq, decide_eq_false_iff_not, Int.cast_ofNat_Int, true_and, false_and, and_true, and_false, not_true_eq_false, not_false_eq_true, Int.reduceAdd, Int.reduceSub, Int.reduceMul, Int.reduceLT, Int.reduceLE, Int.reduceEq, Int.reduceNe, List.length_cons, List.length_nil, ↓reduceIte, Nat.reduceAdd, Nat.reduceBEq, Nat.reduceEqDiff, Nat.reduceLeDiff, Int.reduceNeg, reduceCtorEq]
        simp only [encR, y1, y2, sx0, sx1, sx2, sx3, sx4, sx5, sx6, sx7, nm1, List.contains_nil, List.contains_cons, List.all_nil, List.all_cons, List.isEmpty_nil, List.isEmpty_cons, List.map_cons, List.map_nil, Bool.decide_eq_true, Bool.and_true, Bool.true_and, Bool.and_false, Bool.false_and, Bool.or_true, Bool.true_or, Bool.or_false, Bool.false_or, Bool.not_true, Bool.not_false, Bool.false_eq_true, Bool.not_eq_true', decide_true, decide_false, if_true, if_false, decide_eq_true_eq, decide_eq_false_iff_not, Int.cast_ofNat_Int, true_and, false_and, and_true, and_false, not_true_eq_false, not_false_eq_true, Int.reduceAdd, Int.reduceSub, Int.reduceMul, Int.reduceLT, Int.reduceLE, Int.reduceEq, Int.reduceNe, List.length_cons, List.length_nil, ↓reduceIte, Nat.reduceAdd, Nat.reduceBEq, Nat.reduceEqDiff, Nat.reduceLeDiff, Int.reduceNeg, reduceCtorEq]
        rfl
  · rw [if_neg c1]
    have y1 : ¬ p.1.num < 0 := fun h => c1 (.inl (n1.mp h))
    have y2 : ¬ p.2.num < 0 := fun h => c1 (.inr (n2.mp h))
    have q1 : op2 .at (encR p.1) (.int 0) = .ok (.int p.1.num, false) := by simp only [encR, sx0, sx1, sx2, sx3, sx4, sx5, sx6, sx7, nm1, List.contains_nil, List.contains_cons, List.all_nil, List.all_cons, List.isEmpty_nil, List.isEmpty_cons, List.map_cons, List.map_nil, Bool.decide_eq_true, Bool.and_true, Bool.true_and, Bool.and_false, Bool.false_and, Bool.or_true, Bool.true_or, Bool.or_false, Bool.false_or, Bool.not_true, Bool.not_false, Bool.false_eq_true, Bool.not_eq_true', decide_true, decide_false, if_true, if_false, decide_eq_true_eq, decide_eq_false_iff_not, Int.cast_ofNat_Int, true_and, false_and, and_true, and_false, not_true_eq_false, not_false_eq_true, Int.reduceAdd, Int.reduceSub, Int.reduceMul, Int.reduceLT, Int.reduceLE, Int.reduceEq, Int.reduceNe, List.length_cons, List.length_nil, ↓reduceIte, Nat.reduceAdd, Nat.reduceBEq, Nat.reduceEqDiff, Nat.reduceLeDiff, Int.reduceNeg, reduceCtorEq]
    have q2 : op2 .at (encR p.2) (.int 0) = .ok (.int p.2.num, false) := by simp only [encR, sx0, sx1, sx2, sx3, sx4, sx5, sx6, sx7, nm1, List.contains_nil, List.contains_cons, List.all_nil, List.all_cons, List.isEmpty_nil, List.isEmpty_cons, List.map_cons, List.map_nil, Bool.decide_eq_true, Bool.and_true, Bool.true_and, Bool.and_false, Bool.false_and, Bool.or_true, Bool.true_or, Bool.or_false, Bool.false_or, Bool.not_true, Bool.not_false, Bool.false_eq_true, Bool.not_eq_true', decide_true, decide_false, if_true, if_false, decide_eq_true_eq, decide_eq_false_iff_not, Int.cast_ofNat_Int, true_and, false_and, and_true, and_false, not_true_eq_false, not_false_eq_true, Int.reduceAdd, Int.reduceSub, Int.reduceMul, Int.reduceLT, Int.reduceLE, Int.reduceEq, Int.reduceNe, List.length_cons, List.length_nil, ↓reduceIte, Nat.reduceAdd, Nat.reduceBEq, Nat.reduceEqDiff, Nat.reduceLeDiff, Int.reduceNeg, reduceCtorEq]
    by_cases c2 : p.1 + p.2 = (wt t k : Rat)
    · by_cases c3 : ((ctc t k).1 : Rat) * p.1 + ((ctc t k).2 : Rat) * p.2 = ctr t k * (wt t k : Rat)
      · simp only [c2, c3, ne_eq, sx0, sx1, sx2, sx3, sx4, sx5, sx6, sx7, nm1, List.contains_nil, List.contains_cons, List.all_nil, List.all_cons, List.isEmpty_nil, List.isEmpty_cons, List.map_cons, List.map_nil, Bool.decide_eq_true, Bool.and_true, Bool.true_and, Bool.and_false, Bool.false_and, Bool.or_true, Bool.true_or, Bool.or_false, Bool.false_or, Bool.not_true, Bool.not_false, Bool.false_eq_true, Bool.not_eq_true', decide_true, decide_false, if_true, if_false, decide_eq_true_eq, decide_eq_false_iff_not, Int.cast_ofNat_Int, true_and, false_and, and_true, and_false, not_true_eq_false, not_false_eq_true, Int.reduceAdd, Int.reduceSub, Int.reduceMul, Int.reduceLT, Int.reduceLE, Int.reduceEq, Int.reduceNe, List.length_cons, List.length_nil, ↓reduceIte, Nat.reduceAdd, Nat.reduceBEq, Nat.reduceEqDiff, Nat.reduceLeDiff, Int.reduceNeg, reduceCtorEq]
        refine ⟨some (.int k), some (.int (wt t k)), some (encR p.1), some (encR p.2), some (.int (ctc t k).1), some (.int (ctc t k).2), ?_⟩
        simp only [foT, L__law_forces_reason_4, hx, hc, hcmp, y_sum, ew, q1, q2, y1, y2, encR_i, a1, a2, m1, m2, m3, hz, x_ne_R, c2, c3, opt_some, kx0, kx1, kx2, sx0, sx1, sx2, sx3, sx4, sx5, sx6, sx7, nm1, List.contains_nil, List.contains_cons, List.all_nil, List.all_cons, List.isEmpty_nil, List.isEmpty_cons, List.map_cons, List.map_nil, Bool.decide_eq_true, Bool.and_true, Bool.true_and, Bool.and_false, Bool.false_and, Bool.or_true, Bool.true_or, Bool.or_false, Bool.false_or, Bool.not_true, Bool.not_false, Bool.false_eq_true, Bool.not_eq_true', decide_true, decide_false, if_true, if_false, decide_eq_true_eq, decide_eq_false_iff_not, Int.cast_ofNat_Int, true_and, false_and, and_true, and_false, not_true_eq_false, not_false_eq_true, Int.reduceAdd, Int.reduceSub, Int.reduceMul, Int.reduceLT, Int.reduceLE, Int.reduceEq, Int.reduceNe, List.length_cons, List.length_nil, ↓reduceIte, Nat.reduceAdd, Nat.reduceBEq, Nat.reduceEqDiff, Nat.reduceLeDiff, Int.reduceNeg, reduceCtorEq]
      · simp only [c2, c3, ne_eq, sx0, sx1, sx2, sx3, sx4, sx5, sx6, sx7, nm1, List.contains_nil, List.contains_cons, List.all_nil, List.all_cons, List.isEmpty_nil, List.isEmpty_cons, List.map_cons, List.map_nil, Bool.decide_eq_true, Bool.and_true, Bool.true_and, Bool.and_false, Bool.false_and, Bool.or_true, Bool.true_or, Bool.or_false, Bool.false_or, Bool.not_true, Bool.not_false, Bool.false_eq_true, Bool.not_eq_true', decide_true, decide_false, if_true, if_false, decide_eq_true_eq, decide_eq_false_iff_not, Int.cast_ofNat_Int, true_and, false_and, and_true, and_false, not_true_eq_false, not_false_eq_true, Int.reduceAdd, Int.reduceSub, Int.reduceMul, Int.reduceLT, Int.reduceLE, Int.reduceEq, Int.reduceNe, List.length_cons, List.length_nil, ↓reduceIte, Nat.reduceAdd, Nat.reduceBEq, Nat.reduceEqDiff, Nat.reduceLeDiff, Int.reduceNeg, reduceCtorEq]
        refine ⟨?_, ?_⟩
        rotate_left
        · simp only [foT, L__law_forces_reason_4, hx, hc, hcmp, y_sum, ew, q1, q2, y1, y2, encR_i, a1, a2, m1, m2, m3, hz, x_ne_R, c2, c3, kx0, kx1, kx2, sx0, sx1, sx2, sx3, sx4, sx5, sx6, sx7, nm1, List.contains_nil, List.contains_cons, List.all_nil, List.all_cons, List.isEmpty_nil, List.isEmpty_cons, List.map_cons, List.map_nil, Bool.decide_eq_true, Bool.and_true, Bool.true_and, Bool.and_false, Bool.false_and, Bool.or_true, Bool.true_or, Bool.or_false, Bool.false_or, Bool.not_true, Bool.not_false, Bool.false_eq_true, Bool.not_eq_true', decide_true, decide_false, if_true, if_false, decide_eq_true_eq, decide_eq_false_iff_not, Int.cast_ofNat_Int, true_and, false_and, and_true, and_false, not_true_eq_false, not_false_eq_true, Int.reduceAdd, Int.reduceSub, Int.reduceMul, Int.reduceLT, Int.reduceLE, Int.reduceEq, Int.reduceNe, List.length_cons, List.length_nil, ↓reduceIte, Nat.reduceAdd, Nat.reduceBEq, Nat.reduceEqDiff, Nat.reduceLeDiff, Int.reduceNeg, reduceCtorEq]
          rfl
    · simp only [c2, ne_eq, sx0, sx1, sx2, sx3, sx4, sx5, sx6, sx7, nm1, List.contains_nil, List.contains_cons, List.all_nil, List.all_cons, List.isEmpty_nil, List.isEmpty_cons, List.map_cons, List.map_nil, Bool.decide_eq_true, Bool.and_true, Bool.true_and, Bool.and_false, Bool.false_and, Bool.or_true, Bool.true_or, Bool.or_false, Bool.false_or, Bool.not_true, Bool.not_false, Bool.false_eq_true, Bool.not_eq_true', decide_true, decide_false, if_true, if_false, decide_eq_true_eq, decide_eq_false_iff_not, Int.cast_ofNat_Int, true_and, false_and, and_true, and_false, not_true_eq_false, not_false_eq_true, Int.reduceAdd, Int.reduceSub, Int.reduceMul, Int.reduceLT, Int.reduceLE, Int.reduceEq, Int.reduceNe, List.length_cons, List.length_nil, ↓reduceIte, Nat.reduceAdd, Nat.reduceBEq, Nat.reduceEqDiff, Nat.reduceLeDiff, Int.reduceNeg, reduceCtorEq]
      refine ⟨?_, ?_⟩
      rotate_left
      · simp only [foT, L__law_forces_reason_4, hx, hc, hcmp, y_sum, ew, q1, q2, y1, y2, encR_i, a1, x_ne_R, c2, kx0, kx1, kx2, sx0, sx1, sx2, sx3, sx4, sx5, sx6, sx7, nm1, List.contains_nil, List.contains_cons, List.all_nil, List.all_cons, List.isEmpty_nil, List.isEmpty_cons, List.map_cons, List.map_nil, Bool.decide_eq_true, Bool.and_true, Bool.true_and, Bool.and_false, Bool.false_and, Bool.or_true, Bool.true_or, Bool.or_false, Bool.false_or, Bool.not_true, Bool.not_false, Bool.false_eq_true, Bool.not_eq_true', decide_true, decide_false, if_true, if_false, decide_eq_true_eq, decide_eq_false_iff_not, Int.cast_ofNat_Int, true_and, false_and, and_true, and_false, not_true_eq_false, not_false_eq_true, Int.reduceAdd, Int.reduceSub, Int.reduceMul, Int.reduceLT, Int.reduceLE, Int.reduceEq, Int.reduceNe, List.length_cons, List.length_nil, ↓reduceIte, Nat.reduceAdd, Nat.reduceBEq, Nat.reduceEqDiff, Nat.reduceLeDiff, Int.reduceNeg, reduceCtorEq]
        rfl

theorem mem_zip {ps : List (Rat × Rat)} {x : (Rat × Rat) × Nat} (h : x ∈ ps.zipIdx) : x.2 < ps.length ∧ ps[x.2]? = some x.1 := by
  obtain ⟨a, i⟩ := x
  have := List.mem_zipIdx_iff_getElem?.mp h
  exact ⟨(List.getElem?_eq_some_iff.mp this).1, this⟩
theorem accept_loop (m : Nat) (t : List Blk) (ht : BT t) (a : D) (ps : List (Rat × Rat)) (hl : ps.length = t.length) (hs : ∀ p ∈ ps, Sm2 1000 p) :
    match firstBad t ps with
    | some r => SF.exS T (SF.run T sub 100 (m + 4)) sub 100 L_accept_stands_3 [.val (encT t), .val (.tuple [a, .tuple (ps.map enc2)]), .emp, .emp, .emp, .emp, .emp, .emp] = .ex 2 [.str r]
    | none => ∃ nv', SF.exS T (SF.run T sub 100 (m + 4)) sub 100 L_accept_stands_3 [.val (encT t), .val (.tuple [a, .tuple (ps.map enc2)]), .emp, .emp, .emp, .emp, .emp, .emp] = .ok (.nx, nv') := by
  unfold L_accept_stands_3
  simp only [zs_for, enumL_map, sx0, sx1, sx2, sx3, sx4, sx5, sx6, sx7, nm1, List.contains_nil, List.contains_cons, List.all_nil, List.all_cons, List.isEmpty_nil, List.isEmpty_cons, List.map_cons, List.map_nil, Bool.decide_eq_true, Bool.and_true, Bool.true_and, Bool.and_false, Bool.false_and, Bool.or_true, Bool.true_or, Bool.or_false, Bool.false_or, Bool.not_true, Bool.not_false, Bool.false_eq_true, Bool.not_eq_true', decide_true, decide_false, if_true, if_false, decide_eq_true_eq, decide_eq_false_iff_not, Int.cast_ofNat_Int, true_and, false_and, and_true, and_false, not_true_eq_false, not_false_eq_true, Int.reduceAdd, Int.reduceSub, Int.reduceMul, Int.reduceLT, Int.reduceLE, Int.reduceEq, Int.reduceNe, List.length_cons, List.length_nil, ↓reduceIte, Nat.reduceAdd, Nat.reduceBEq, Nat.reduceEqDiff, Nat.reduceLeDiff, Int.reduceNeg, reduceCtorEq]
  refine for_turn (b := foT T (SF.run T sub 100 (m + 4)) sub 100 (Tg.t (Tgs.cons (Tg.n 2) (Tgs.cons (Tg.n 3) Tgs.nil))) L_accept_stands_2) (fun x : (Rat × Rat) × Nat => PyData.tuple [.int x.2, enc2 x.1])
    (fun rest nv => (∃ s2 s3 s4 s5 s6 s7, nv = [.val (encT t), .val (.tuple [a, .tuple (ps.map enc2)]), .opt s2, .opt s3, .opt s4, .opt s5, .opt s6, .opt s7]) ∧ firstBad t ps = rest.findSome? (fun x => badAt t x.2 x.1) ∧ ∀ x ∈ rest, x ∈ ps.zipIdx)
    (fun r => match firstBad t ps with
      | some w => r = .ex 2 [.str w]
      | none => ∃ nv', r = .ok (.nx, nv')) ps.zipIdx _ ⟨⟨none, none, none, none, none, none, rfl⟩, rfl, fun _ h => h⟩ ?_ ?_
  · rintro x rest nv ⟨⟨s2, s3, s4, s5, s6, s7, rfl⟩, hf, hx⟩
    obtain ⟨h1, h2⟩ := mem_zip (hx x (List.mem_cons_self ..))
    have ht := accept_turn m t ht x.2 (by omega) x.1 (hs x.1 (List.mem_of_getElem? h2)) (.tuple [a, .tuple (ps.map enc2)]) s2 s3 s4 s5 s6 s7
    rw [List.findSome?_cons] at hf
    cases hb : badAt t x.2 x.1 with
    | some r =>
      rw [hb] at ht hf
      have ht : foT T (SF.run T sub 100 (m + 4)) sub 100 (Tg.t (Tgs.cons (Tg.n 2) (Tgs.cons (Tg.n 3) Tgs.nil))) L_accept_stands_2 (.tuple [.int x.2, enc2 x.1]) _ = .ex 2 [.str r] := ht
      rw [ht]
      show match firstBad t ps with | some w => _ | none => _
      rw [show firstBad t ps = some r from hf]
    | none =>
      rw [hb] at ht hf
      obtain ⟨s2, s3, s4, s5, s6, s7, ht⟩ := ht
      rw [ht]
      exact ⟨⟨s2, s3, s4, s5, s6, s7, rfl⟩, hf, fun y hy => hx y (List.mem_cons_of_mem _ hy)⟩
  · rintro nv ⟨_, hf, _⟩
    rw [show firstBad t ps = none from hf]
    exact ⟨nv, rfl⟩
theorem notTupF {d : D} (t : List Blk) (h : isTy .tuple d = false) : frs t d = some ("form" : Str) := by
  cases d with
  | tuple l => cases h
  | _ => rfl
/-- what the program's judge does -/
def ends (o : Option Str) : R Ret := match o with
  | none => .ok ⟨.none, false, []⟩
  | some r => .ex 2 [.str r]
theorem notTupR {d : D} (t : List Blk) (h : isTy .tuple d = false) : rsn t d = some ("form" : Str) := by
  cases d with
  | tuple l => cases h
  | _ => rfl
theorem rsn_len {l : List D} (t : List Blk) (h2 : l.length ≠ 2) (h3 : l.length ≠ 3) : rsn t (.tuple l) = some ("form" : Str) := by
  unfold rsn
  split
  · rename_i e; cases e; exact absurd rfl h2
  · rename_i e; cases e; exact absurd rfl h3
  · rfl
theorem notIntK {k : D} (h : (isTy .int k && !isTy .bool k) = false) (t : List Blk) (a s : D) (ha : isS a "tips" = true) : rsn t (.tuple [a, k, s]) = some ("form" : Str) := by
  unfold rsn
  simp only [ha, if_true]
  split
  · cases h
  · rfl
theorem notStrS {s : D} (h : isTy .str s = false) (t : List Blk) (a k : D) (ha : isS a "tips" = true) : rsn t (.tuple [a, k, s]) = some ("form" : Str) := by
  unfold rsn
  simp only [ha, if_true]
  split
  · cases h
  · rfl
theorem isStr {d : D} (h : isTy .str d = true) : ∃ s, d = .str s := by
  cases d with
  | str s => exact ⟨s, rfl⟩
  | _ => cases h
theorem side_ne (t : List Blk) (k : Nat) (s : Str) : op2 .ne (sideD t k) (.str s) = .ok (.bool (!isS (sideD t k) s), false) := by
  rcases side_cases t k with e | e | e <;> rw [e]
  · rw [x_ne_s]; rfl
  · rw [x_ne_s]; rfl
  · rfl
theorem side_eq (t : List Blk) (k : Nat) (s : Str) : op2 .eq (sideD t k) (.str s) = .ok (.bool (isS (sideD t k) s), false) := by
  rcases side_cases t k with e | e | e <;> rw [e]
  · rw [x_eq_s]; rfl
  · rw [x_eq_s]; rfl
  · rfl
theorem in_23 (n : Nat) : op2 .notin (.int n) (.tuple [.int 2, .int 3]) = .ok (.bool (!(decide (n = 2) || decide (n = 3))), false) := by
  show val (.bool (!(((2 : Int) == n) || (((3 : Int) == n) || false)))) = _
  rw [beq_dec, beq_dec]
  have e1 : decide ((2 : Int) = n) = decide (n = 2) := by congr 1; exact propext ⟨fun h => by omega, fun h => by omega⟩
  have e2 : decide ((3 : Int) = n) = decide (n = 3) := by congr 1; exact propext ⟨fun h => by omega, fun h => by omega⟩
  rw [e1, e2, Bool.or_false]; rfl
theorem accept_stands_ok (m : Nat) (t : List Blk) (ht : TV t) (d : D) (hs : smallIs d = true) : SF.run T sub 100 (m + 5) 24 [encT t, d] = ends (rsn t d) := by
  rw [r_accept_stands]
  have hdm := fun m => demand_ok m t ht
  have hb := ht.bt
  by_cases htup : isTy .tuple d = true
  · obtain ⟨l, rfl⟩ := isTup htup
    have h23 := in_23 l.length
    by_cases h3 : l.length = 3
    · obtain ⟨a, k, s, rfl⟩ : ∃ a k s, l = [a, k, s] := by
        match l, h3 with
        | [a, k, s], _ => exact ⟨a, k, s, rfl⟩
      simp only [List.length_cons, List.length_nil, Nat.reduceAdd, Int.cast_ofNat_Int] at h23
      have ss := fun m => same_str m a "tips"
      by_cases ha : isS a "tips" = true
      · have hle : ∀ k : Int, k ≤ (t.length : Int) - 1 ↔ k < t.length := fun k => by omega
        by_cases hk : (isTy .int k && !isTy .bool k) = true
        · obtain ⟨k, rfl⟩ := isInt_iff.mp hk
          have ir := fun m => in_range_i m k 0 ((t.length : Int) - 1)
          simp only [hle] at ir
          by_cases hstr : isTy .str s = true
          · obtain ⟨s, rfl⟩ := isStr hstr
            have hr : rsn t (.tuple [a, .int k, .str s]) = (if 0 ≤ k ∧ k < t.length then (if isS (sideD t k.toNat) s then (none : Option Str) else some ("side" : Str)) else some ("form" : Str)) := by
              show (if isS a "tips" then _ else _) = _
              rw [if_pos ha]
            rw [hr]
            by_cases h0 : 0 ≤ k ∧ k < t.length
            · rw [if_pos h0]
              obtain ⟨n, rfl⟩ := Int.eq_ofNat_of_zero_le h0.1
              have hn : n < t.length := by omega
              have so := fun m => side_of_ok m t hb n hn
              have sn := side_ne t n s
              simp only [Int.toNat_natCast]
              simp only [decide_eq_true h0.1, decide_eq_true h0.2, Bool.and_true] at ir
              simp only [encT, List.length_map] at ir so hdm ⊢
              by_cases hS : isS (sideD t n) s = true
              · rw [hS] at sn
                rw [if_pos hS]
                simp only [B_accept_stands, hdm, h23, ss, ha, ir, so, sn, ends, List.length_map, kx0, kx1, kx2, sx0, sx1, sx2, sx3, sx4, sx5, sx6, sx7, nm1, List.contains_nil, List.contains_cons, List.all_nil, List.all_cons, List.isEmpty_nil, List.isEmpty_cons, List.map_cons, List.map_nil, Bool.decide_eq_true, Bool.and_true, Bool.true_and, Bool.and_false, Bool.false_and, Bool.or_true, Bool.true_or, Bool.or_false, Bool.false_or, Bool.not_true, Bool.not_false, Bool.false_eq_true, Bool.not_eq_true', decide_true, decide_false, if_true, if_false, decide_eq_true_eq, decide_eq_false_iff_not, Int.cast_ofNat_Int, true_and, false_and, and_true, and_false, not_true_eq_false, not_false_eq_true, Int.reduceAdd, Int.reduceSub, Int.reduceMul, Int.reduceLT, Int.reduceLE, Int.reduceEq, Int.reduceNe, List.length_cons, List.length_nil, ↓reduceIte, Nat.reduceAdd, Nat.reduceBEq, Nat.reduceEqDiff, Nat.reduceLeDiff, Int.reduceNeg, reduceCtorEq]
              · have hS' : isS (sideD t n) s = false := by simpa using hS
                rw [hS'] at sn
                rw [if_neg hS]
                simp only [B_accept_stands, hdm, h23, ss, ha, ir, so, sn, ends, List.length_map, kx0, kx1, kx2, sx0, sx1, sx2, sx3, sx4, sx5, sx6, sx7, nm1, List.contains_nil, List.contains_cons, List.all_nil, List.all_cons, List.isEmpty_nil, List.isEmpty_cons, List.map_cons, List.map_nil, Bool.decide_eq_true, Bool.and_true, Bool.true_and, Bool.and_false, Bool.false_and, Bool.or_true, Bool.true_or, Bool.or_false, Bool.false_or, Bool.not_true, Bool.not_false, Bool.false_eq_true, Bool.not_eq_true', decide_true, decide_false, if_true, if_false, decide_eq_true_eq, decide_eq_false_iff_not, Int.cast_ofNat_Int, true_and, false_and, and_true, and_false, not_true_eq_false, not_false_eq_true, Int.reduceAdd, Int.reduceSub, Int.reduceMul, Int.reduceLT, Int.reduceLE, Int.reduceEq, Int.reduceNe, List.length_cons, List.length_nil, ↓reduceIte, Nat.reduceAdd, Nat.reduceBEq, Nat.reduceEqDiff, Nat.reduceLeDiff, Int.reduceNeg, reduceCtorEq]
            · rw [if_neg h0]
              have e : (decide (0 ≤ k) && decide (k < t.length)) = false := by simpa using h0
              simp only [e] at ir
              simp only [encT] at hdm ⊢
              simp only [B_accept_stands, hdm, h23, ss, ha, ir, ends, List.length_map, kx0, kx1, kx2, sx0, sx1, sx2, sx3, sx4, sx5, sx6, sx7, nm1, List.contains_nil, List.contains_cons, List.all_nil, List.all_cons, List.isEmpty_nil, List.isEmpty_cons, List.map_cons, List.map_nil, Bool.decide_eq_true, Bool.and_true, Bool.true_and, Bool.and_false, Bool.false_and, Bool.or_true, Bool.true_or, Bool.or_false, Bool.false_or, Bool.not_true, Bool.not_false, Bool.false_eq_true, Bool.not_eq_true', decide_true, decide_false, if_true, if_false, decide_eq_true_eq, decide_eq_false_iff_not, Int.cast_ofNat_Int, true_and, false_and, and_true, and_false, not_true_eq_false, not_false_eq_true, Int.reduceAdd, Int.reduceSub, Int.reduceMul, Int.reduceLT, Int.reduceLE, Int.reduceEq, Int.reduceNe, List.length_cons, List.length_nil, ↓reduceIte, Nat.reduceAdd, Nat.reduceBEq, Nat.reduceEqDiff, Nat.reduceLeDiff, Int.reduceNeg, reduceCtorEq]
          · have hstr' : isTy .str s = false := by simpa using hstr
            rw [notStrS hstr' t a _ ha]
            simp only [encT] at hdm ⊢
            simp only [B_accept_stands, hdm, h23, ss, ha, ir, hstr', ends, List.length_map, ite_self, kx0, kx1, kx2, sx0, sx1, sx2, sx3, sx4, sx5, sx6, sx7, nm1, List.contains_nil, List.contains_cons, List.all_nil, List.all_cons, List.isEmpty_nil, List.isEmpty_cons, List.map_cons, List.map_nil, Bool.decide_eq_true, Bool.and_true, Bool.true_and, Bool.and_false, Bool.false_and, Bool.or_true, Bool.true_or, Bool.or_false, Bool.false_or, Bool.not_true, Bool.not_false, Bool.false_eq_true, Bool.not_eq_true', decide_true, decide_false, if_true, if_false, decide_eq_true_eq, decide_eq_false_iff_not, Int.cast_ofNat_Int, true_and, false_and, and_true, and_false, not_true_eq_false, not_false_eq_true, Int.reduceAdd, Int.reduceSub, Int.reduceMul, Int.reduceLT, Int.reduceLE, Int.reduceEq, Int.reduceNe, List.length_cons, List.length_nil, ↓reduceIte, Nat.reduceAdd, Nat.reduceBEq, Nat.reduceEqDiff, Nat.reduceLeDiff, Int.reduceNeg, reduceCtorEq]
        · have hk' : (isTy .int k && !isTy .bool k) = false := by simpa using hk
          have ir := fun m => in_range_n m k 0 ((t.length : Int) - 1) hk'
          rw [notIntK hk' t a s ha]
          simp only [encT] at hdm ⊢
          simp only [B_accept_stands, hdm, h23, ss, ha, ir, ends, List.length_map, kx0, kx1, kx2, sx0, sx1, sx2, sx3, sx4, sx5, sx6, sx7, nm1, List.contains_nil, List.contains_cons, List.all_nil, List.all_cons, List.isEmpty_nil, List.isEmpty_cons, List.map_cons, List.map_nil, Bool.decide_eq_true, Bool.and_true, Bool.true_and, Bool.and_false, Bool.false_and, Bool.or_true, Bool.true_or, Bool.or_false, Bool.false_or, Bool.not_true, Bool.not_false, Bool.false_eq_true, Bool.not_eq_true', decide_true, decide_false, if_true, if_false, decide_eq_true_eq, decide_eq_false_iff_not, Int.cast_ofNat_Int, true_and, false_and, and_true, and_false, not_true_eq_false, not_false_eq_true, Int.reduceAdd, Int.reduceSub, Int.reduceMul, Int.reduceLT, Int.reduceLE, Int.reduceEq, Int.reduceNe, List.length_cons, List.length_nil, ↓reduceIte, Nat.reduceAdd, Nat.reduceBEq, Nat.reduceEqDiff, Nat.reduceLeDiff, Int.reduceNeg, reduceCtorEq]
      · have ha' : isS a "tips" = false := by simpa using ha
        have hr : rsn t (.tuple [a, k, s]) = some ("form" : Str) := by show (if isS a "tips" then _ else _) = _; rw [if_neg ha]
        rw [hr]
        simp only [encT] at hdm ⊢
        simp only [B_accept_stands, hdm, h23, ss, ha', ends, kx0, kx1, kx2, sx0, sx1, sx2, sx3, sx4, sx5, sx6, sx7, nm1, List.contains_nil, List.contains_cons, List.all_nil, List.all_cons, List.isEmpty_nil, List.isEmpty_cons, List.map_cons, List.map_nil, Bool.decide_eq_true, Bool.and_true, Bool.true_and, Bool.and_false, Bool.false_and, Bool.or_true, Bool.true_or, Bool.or_false, Bool.false_or, Bool.not_true, Bool.not_false, Bool.false_eq_true, Bool.not_eq_true', decide_true, decide_false, if_true, if_false, decide_eq_true_eq, decide_eq_false_iff_not, Int.cast_ofNat_Int, true_and, false_and, and_true, and_false, not_true_eq_false, not_false_eq_true, Int.reduceAdd, Int.reduceSub, Int.reduceMul, Int.reduceLT, Int.reduceLE, Int.reduceEq, Int.reduceNe, List.length_cons, List.length_nil, ↓reduceIte, Nat.reduceAdd, Nat.reduceBEq, Nat.reduceEqDiff, Nat.reduceLeDiff, Int.reduceNeg, reduceCtorEq]
    · by_cases h2 : l.length = 2
      · obtain ⟨a, f, rfl⟩ := len2 h2
        simp only [List.length_cons, List.length_nil, Nat.reduceAdd, Int.cast_ofNat_Int] at h23
        have ss := fun m => same_str m a "stands"
        by_cases ha : isS a "stands" = true
        · have hr : rsn t (.tuple [a, f]) = frs t f := by show (if isS a "stands" then _ else _) = _; rw [if_pos ha]
          rw [hr]
          by_cases hft : isTy .tuple f = true
          · obtain ⟨fs, rfl⟩ := isTup hft
            by_cases hlen : fs.length = t.length
            · have hlen' : (fs.length : Int) = t.length := by omega
              have hfr : frs t (.tuple fs) = match frPairs fs with
                | none => some ("form" : Str)
                | some ps => firstBad t ps := by
                show (if fs.length ≠ t.length then _ else _) = _; rw [if_neg (by omega)] <;> rfl
              rw [hfr]
              have hc : (evB T (SF.run T sub 100 (m + 4)) L_accept_stands_1).v [.val (encT t), .val (.tuple [a, .tuple fs]), .emp, .emp, .emp, .emp, .emp, .emp] = .ok (.list (fs.map fun d => .bool (asPair d).isSome), true, [.val (encT t), .val (.tuple [a, .tuple fs]), .emp, .emp, .emp, .emp, .emp, .emp]) := by
                have hmap : fs = fs.map id := by simp
                refine lc_map fs id (fun d => .bool (asPair d).isSome) (by rw [← hmap]; simp only [sx0, sx1, sx2, sx3, sx4, sx5, sx6, sx7, nm1, List.contains_nil, List.contains_cons, List.all_nil, List.all_cons, List.isEmpty_nil, List.isEmpty_cons, List.map_cons, List.map_nil, Bool.decide_eq_true, Bool.and_true, Bool.true_and, Bool.and_false, Bool.false_and, Bool.or_true, Bool.true_or, Bool.or_false, Bool.false_or, Bool.not_true, Bool.not_false, Bool.false_eq_true, Bool.not_eq_true', decide_true, decide_false, if_true, if_false, decide_eq_true_eq, decide_eq_false_iff_not, Int.cast_ofNat_Int, true_and, false_and, and_true, and_false, not_true_eq_false, not_false_eq_true, Int.reduceAdd, Int.reduceSub, Int.reduceMul, Int.reduceLT, Int.reduceLE, Int.reduceEq, Int.reduceNe, List.length_cons, List.length_nil, ↓reduceIte, Nat.reduceAdd, Nat.reduceBEq, Nat.reduceEqDiff, Nat.reduceLeDiff, Int.reduceNeg, reduceCtorEq]) rfl (lim_12 (by rw [hlen]; exact hb.2)) (fun z _ => ⟨[.val (encT t), .val (.tuple [a, .tuple fs]), .emp, .val z, .emp, .emp, .emp, .emp], by simp only [lcT, blank, blankOk, List.set_cons_zero, List.set_cons_succ, id, are_fractions_ok, kx0, kx1, kx2, sx0, sx1, sx2, sx3, sx4, sx5, sx6, sx7, nm1, List.contains_nil, List.contains_cons, List.all_nil, List.all_cons, List.isEmpty_nil, List.isEmpty_cons, List.map_cons, List.map_nil, Bool.decide_eq_true, Bool.and_true, Bool.true_and, Bool.and_false, Bool.false_and, Bool.or_true, Bool.true_or, Bool.or_false, Bool.false_or, Bool.not_true, Bool.not_false, Bool.false_eq_true, Bool.not_eq_true', decide_true, decide_false, if_true, if_false, decide_eq_true_eq, decide_eq_false_iff_not, Int.cast_ofNat_Int, true_and, false_and, and_true, and_false, not_true_eq_false, not_false_eq_true, Int.reduceAdd, Int.reduceSub, Int.reduceMul, Int.reduceLT, Int.reduceLE, Int.reduceEq, Int.reduceNe, List.length_cons, List.length_nil, ↓reduceIte, Nat.reduceAdd, Nat.reduceBEq, Nat.reduceEqDiff, Nat.reduceLeDiff, Int.reduceNeg, reduceCtorEq], rfl⟩)
              have ya := y_all (fun d => (asPair d).isSome) fs
              rw [frPairs_all] at ya
              cases hp : frPairs fs with
              | none =>
                rw [hp] at ya
                simp only [encT, Option.isSome_none] at hdm hc ya ⊢
                simp only [B_accept_stands, hdm, h23, ss, ha, hc, ya, hlen', ends, List.length_map, kx0, kx1, kx2, sx0, sx1, sx2, sx3, sx4, sx5, sx6, sx7, nm1, List.contains_nil, List.contains_cons, List.all_nil, List.all_cons, List.isEmpty_nil, List.isEmpty_cons, List.map_cons, List.map_nil, Bool.decide_eq_true, Bool.and_true, Bool.true_and, Bool.and_false, Bool.false_and, Bool.or_true, Bool.true_or, Bool.or_false, Bool.false_or, Bool.not_true, Bool.not_false, Bool.false_eq_true, Bool.not_eq_true', decide_true, decide_false, if_true, if_false, decide_eq_true_eq, decide_eq_false_iff_not, Int.cast_ofNat_Int, true_and, false_and, and_true, and_false, not_true_eq_false, not_false_eq_true, Int.reduceAdd, Int.reduceSub, Int.reduceMul, Int.reduceLT, Int.reduceLE, Int.reduceEq, Int.reduceNe, List.length_cons, List.length_nil, ↓reduceIte, Nat.reduceAdd, Nat.reduceBEq, Nat.reduceEqDiff, Nat.reduceLeDiff, Int.reduceNeg, reduceCtorEq]
              | some ps =>
                rw [hp] at ya
                have he := frPairs_some hp
                subst he
                rw [List.length_map] at hlen
                have hsm : ∀ p ∈ ps, Sm2 1000 p := by
                  intro p hpm
                  have h1 := small_cons (show smallAll [a, .tuple (ps.map enc2)] = true from hs)
                  have h2 := (small_cons h1.2).1
                  exact small_2 (small_mem (show smallAll (ps.map enc2) = true from h2) (enc2 p) (List.mem_map_of_mem hpm))
                have hL := accept_loop m t hb a ps hlen hsm
                simp only [encT, Option.isSome_some, List.length_map] at hdm hc ya hL hlen' ⊢
                cases hfb : firstBad t ps with
                | none =>
                  rw [hfb] at hL
                  obtain ⟨nv', hL⟩ := hL
                  simp only [B_accept_stands, hdm, h23, ss, ha, hc, ya, hL, hlen', ends, List.length_map, kx0, kx1, kx2, sx0, sx1, sx2, sx3, sx4, sx5, sx6, sx7, nm1, List.contains_nil, List.contains_cons, List.all_nil, List.all_cons, List.isEmpty_nil, List.isEmpty_cons, List.map_cons, List.map_nil, Bool.decide_eq_true, Bool.and_true, Bool.true_and, Bool.and_false, Bool.false_and, Bool.or_true, Bool.true_or, Bool.or_false, Bool.false_or, Bool.not_true, Bool.not_false, Bool.false_eq_true, Bool.not_eq_true', decide_true, decide_false, if_true, if_false, decide_eq_true_eq, decide_eq_false_iff_not, Int.cast_ofNat_Int, true_and, false_and, and_true, and_false, not_true_eq_false, not_false_eq_true, Int.reduceAdd, Int.reduceSub, Int.reduceMul, Int.reduceLT, Int.reduceLE, Int.reduceEq, Int.reduceNe, List.length_cons, List.length_nil, ↓reduceIte, Nat.reduceAdd, Nat.reduceBEq, Nat.reduceEqDiff, Nat.reduceLeDiff, Int.reduceNeg, reduceCtorEq]
                | some r =>
                  rw [hfb] at hL
                  simp only [B_accept_stands, hdm, h23, ss, ha, hc, ya, hL, hlen', ends, List.length_map, kx0, kx1, kx2, sx0, sx1, sx2, sx3, sx4, sx5, sx6, sx7, nm1, List.contains_nil, List.contains_cons, List.all_nil, List.all_cons, List.isEmpty_nil, List.isEmpty_cons, List.map_cons, List.map_nil, Bool.decide_eq_true, Bool.and_true, Bool.true_and, Bool.and_false, Bool.false_and, Bool.or_true, Bool.true_or, Bool.or_false, Bool.false_or, Bool.not_true, Bool.not_false, Bool.false_eq_true, Bool.not_eq_true', decide_true, decide_false, if_true, if_false, decide_eq_true_eq, decide_eq_false_iff_not, Int.cast_ofNat_Int, true_and, false_and, and_true, and_false, not_true_eq_false, not_false_eq_true, Int.reduceAdd, Int.reduceSub, Int.reduceMul, Int.reduceLT, Int.reduceLE, Int.reduceEq, Int.reduceNe, List.length_cons, List.length_nil, ↓reduceIte, Nat.reduceAdd, Nat.reduceBEq, Nat.reduceEqDiff, Nat.reduceLeDiff, Int.reduceNeg, reduceCtorEq]
            · have hlen' : ¬ (fs.length : Int) = t.length := by omega
              have hfr : frs t (.tuple fs) = some ("form" : Str) := by show (if fs.length ≠ t.length then _ else _) = _; rw [if_pos hlen]
              rw [hfr]
              simp only [encT] at hdm ⊢
              simp only [B_accept_stands, hdm, h23, ss, ha, hlen', ends, List.length_map, kx0, kx1, kx2, sx0, sx1, sx2, sx3, sx4, sx5, sx6, sx7, nm1, List.contains_nil, List.contains_cons, List.all_nil, List.all_cons, List.isEmpty_nil, List.isEmpty_cons, List.map_cons, List.map_nil, Bool.decide_eq_true, Bool.and_true, Bool.true_and, Bool.and_false, Bool.false_and, Bool.or_true, Bool.true_or, Bool.or_false, Bool.false_or, Bool.not_true, Bool.not_false, Bool.false_eq_true, Bool.not_eq_true', decide_true, decide_false, if_true, if_false, decide_eq_true_eq, decide_eq_false_iff_not, Int.cast_ofNat_Int, true_and, false_and, and_true, and_false, not_true_eq_false, not_false_eq_true, Int.reduceAdd, Int.reduceSub, Int.reduceMul, Int.reduceLT, Int.reduceLE, Int.reduceEq, Int.reduceNe, List.length_cons, List.length_nil, ↓reduceIte, Nat.reduceAdd, Nat.reduceBEq, Nat.reduceEqDiff, Nat.reduceLeDiff, Int.reduceNeg, reduceCtorEq]
          · have hft' : isTy .tuple f = false := by simpa using hft
            rw [notTupF t hft']
            simp only [encT] at hdm ⊢
            simp only [B_accept_stands, hdm, h23, ss, ha, hft', ends, kx0, kx1, kx2, sx0, sx1, sx2, sx3, sx4, sx5, sx6, sx7, nm1, List.contains_nil, List.contains_cons, List.all_nil, List.all_cons, List.isEmpty_nil, List.isEmpty_cons, List.map_cons, List.map_nil, Bool.decide_eq_true, Bool.and_true, Bool.true_and, Bool.and_false, Bool.false_and, Bool.or_true, Bool.true_or, Bool.or_false, Bool.false_or, Bool.not_true, Bool.not_false, Bool.false_eq_true, Bool.not_eq_true', decide_true, decide_false, if_true, if_false, decide_eq_true_eq, decide_eq_false_iff_not, Int.cast_ofNat_Int, true_and, false_and, and_true, and_false, not_true_eq_false, not_false_eq_true, Int.reduceAdd, Int.reduceSub, Int.reduceMul, Int.reduceLT, Int.reduceLE, Int.reduceEq, Int.reduceNe, List.length_cons, List.length_nil, ↓reduceIte, Nat.reduceAdd, Nat.reduceBEq, Nat.reduceEqDiff, Nat.reduceLeDiff, Int.reduceNeg, reduceCtorEq]
        · have ha' : isS a "stands" = false := by simpa using ha
          have hr : rsn t (.tuple [a, f]) = some ("form" : Str) := by show (if isS a "stands" then _ else _) = _; rw [if_neg ha]
          rw [hr]
          simp only [encT] at hdm ⊢
          simp only [B_accept_stands, hdm, h23, ss, ha', ends, kx0, kx1, kx2, sx0, sx1, sx2, sx3, sx4, sx5, sx6, sx7, nm1, List.contains_nil, List.contains_cons, List.all_nil, List.all_cons, List.isEmpty_nil, List.isEmpty_cons, List.map_cons, List.map_nil, Bool.decide_eq_true, Bool.and_true, Bool.true_and, Bool.and_false, Bool.false_and, Bool.or_true, Bool.true_or, Bool.or_false, Bool.false_or, Bool.not_true, Bool.not_false, Bool.false_eq_true, Bool.not_eq_true', decide_true, decide_false, if_true, if_false, decide_eq_true_eq, decide_eq_false_iff_not, Int.cast_ofNat_Int, true_and, false_and, and_true, and_false, not_true_eq_false, not_false_eq_true, Int.reduceAdd, Int.reduceSub, Int.reduceMul, Int.reduceLT, Int.reduceLE, Int.reduceEq, Int.reduceNe, List.length_cons, List.length_nil, ↓reduceIte, Nat.reduceAdd, Nat.reduceBEq, Nat.reduceEqDiff, Nat.reduceLeDiff, Int.reduceNeg, reduceCtorEq]
      · rw [rsn_len t h2 h3]
        simp only [decide_eq_false h2, decide_eq_false h3, Bool.or_self, Bool.not_false] at h23
        simp only [encT] at hdm ⊢
        simp only [B_accept_stands, hdm, h23, ends, kx0, kx1, kx2, sx0, sx1, sx2, sx3, sx4, sx5, sx6, sx7, nm1, List.contains_nil, List.contains_cons, List.all_nil, List.all_cons, List.isEmpty_nil, List.isEmpty_cons, List.map_cons, List.map_nil, Bool.decide_eq_true, Bool.and_true, Bool.true_and, Bool.and_false, Bool.false_and, Bool.or_true, Bool.true_or, Bool.or_false, Bool.false_or, Bool.not_true, Bool.not_false, Bool.false_eq_true, Bool.not_eq_true', decide_true, decide_false, if_true, if_false, decide_eq_true_eq, decide_eq_false_iff_not, Int.cast_ofNat_Int, true_and, false_and, and_true, and_false, not_true_eq_false, not_false_eq_true, Int.reduceAdd, Int.reduceSub, Int.reduceMul, Int.reduceLT, Int.reduceLE, Int.reduceEq, Int.reduceNe, List.length_cons, List.length_nil, ↓reduceIte, Nat.reduceAdd, Nat.reduceBEq, Nat.reduceEqDiff, Nat.reduceLeDiff, Int.reduceNeg, reduceCtorEq]
  · have ht' : isTy .tuple d = false := by simpa using htup
    rw [notTupR t ht']
    simp only [encT] at hdm ⊢
    simp only [B_accept_stands, hdm, ht', ends, kx0, kx1, kx2, sx0, sx1, sx2, sx3, sx4, sx5, sx6, sx7, nm1, List.contains_nil, List.contains_cons, List.all_nil, List.all_cons, List.isEmpty_nil, List.isEmpty_cons, List.map_cons, List.map_nil, Bool.decide_eq_true, Bool.and_true, Bool.true_and, Bool.and_false, Bool.false_and, Bool.or_true, Bool.true_or, Bool.or_false, Bool.false_or, Bool.not_true, Bool.not_false, Bool.false_eq_true, Bool.not_eq_true', decide_true, decide_false, if_true, if_false, decide_eq_true_eq, decide_eq_false_iff_not, Int.cast_ofNat_Int, true_and, false_and, and_true, and_false, not_true_eq_false, not_false_eq_true, Int.reduceAdd, Int.reduceSub, Int.reduceMul, Int.reduceLT, Int.reduceLE, Int.reduceEq, Int.reduceNe, List.length_cons, List.length_nil, ↓reduceIte, Nat.reduceAdd, Nat.reduceBEq, Nat.reduceEqDiff, Nat.reduceLeDiff, Int.reduceNeg, reduceCtorEq]

/-! the law's judge -/
theorem pair_bad (m : Nat) (nv0 nv1 : D) (d : D) (hd : smallIs d = true) (s2 : Option D) (r : Nv) :
    foT T (SF.run T sub 100 (m + 2)) sub 100 (Tg.n 2) L__law_forces_reason_1 d (.val nv0 :: .val nv1 :: .opt s2 :: r) = if (asPair d).isSome then .ok (.nx, .val nv0 :: .val nv1 :: .val d :: r) else .ok (.rt (.str "form") false, .val nv0 :: .val nv1 :: .val d :: r) := by
  by_cases ht : isTy .tuple d = true
  · obtain ⟨l, rfl⟩ := isTup ht
    by_cases hl : l.length = 2
    · obtain ⟨x, y, rfl⟩ := len2 hl
      have hs := small_cons (show smallAll [x, y] = true from hd)
      have hx := fun m => law_is_fraction_ok m x hs.1
      have hy := fun m => law_is_fraction_ok m y (small_cons hs.2).1
      rw [asPair_two]
      cases h1 : (isFr x).isSome with
      | false =>
        simp only [h1] at hx
        simp only [foT, L__law_forces_reason_1, hx, kx0, kx1, kx2, sx0, sx1, sx2, sx3, sx4, sx5, sx6, sx7, nm1, List.contains_nil, List.contains_cons, List.all_nil, List.all_cons, List.isEmpty_nil, List.isEmpty_cons, List.map_cons, List.map_nil, Bool.decide_eq_true, Bool.and_true, Bool.true_and, Bool.and_false, Bool.false_and, Bool.or_true, Bool.true_or, Bool.or_false, Bool.false_or, Bool.not_true, Bool.not_false, Bool.false_eq_true, Bool.not_eq_true', decide_true, decide_false, if_true, if_false, decide_eq_true_eq, decide_eq_false_iff_not, Int.cast_ofNat_Int, true_and, false_and, and_true, and_false, not_true_eq_false, not_false_eq_true, Int.reduceAdd, Int.reduceSub, Int.reduceMul, Int.reduceLT, Int.reduceLE, Int.reduceEq, Int.reduceNe, List.length_cons, List.length_nil, ↓reduceIte, Nat.reduceAdd, Nat.reduceBEq, Nat.reduceEqDiff, Nat.reduceLeDiff, Int.reduceNeg, reduceCtorEq]
      | true =>
        simp only [h1] at hx
        cases h2 : (isFr y).isSome with
        | false =>
          simp only [h2] at hy
          simp only [foT, L__law_forces_reason_1, hx, hy, kx0, kx1, kx2, sx0, sx1, sx2, sx3, sx4, sx5, sx6, sx7, nm1, List.contains_nil, List.contains_cons, List.all_nil, List.all_cons, List.isEmpty_nil, List.isEmpty_cons, List.map_cons, List.map_nil, Bool.decide_eq_true, Bool.and_true, Bool.true_and, Bool.and_false, Bool.false_and, Bool.or_true, Bool.true_or, Bool.or_false, Bool.false_or, Bool.not_true, Bool.not_false, Bool.false_eq_true, Bool.not_eq_true', decide_true, decide_false, if_true, if_false, decide_eq_true_eq, decide_eq_false_iff_not, Int.cast_ofNat_Int, true_and, false_and, and_true, and_false, not_true_eq_false, not_false_eq_true, Int.reduceAdd, Int.reduceSub, Int.reduceMul, Int.reduceLT, Int.reduceLE, Int.reduceEq, Int.reduceNe, List.length_cons, List.length_nil, ↓reduceIte, Nat.reduceAdd, Nat.reduceBEq, Nat.reduceEqDiff, Nat.reduceLeDiff, Int.reduceNeg, reduceCtorEq]
        | true =>
          simp only [h2] at hy
          simp only [foT, L__law_forces_reason_1, hx, hy, kx0, kx1, kx2, sx0, sx1, sx2, sx3, sx4, sx5, sx6, sx7, nm1, List.contains_nil, List.contains_cons, List.all_nil, List.all_cons, List.isEmpty_nil, List.isEmpty_cons, List.map_cons, List.map_nil, Bool.decide_eq_true, Bool.and_true, Bool.true_and, Bool.and_false, Bool.false_and, Bool.or_true, Bool.true_or, Bool.or_false, Bool.false_or, Bool.not_true, Bool.not_false, Bool.false_eq_true, Bool.not_eq_true', decide_true, decide_false, if_true, if_false, decide_eq_true_eq, decide_eq_false_iff_not, Int.cast_ofNat_Int, true_and, false_and, and_true, and_false, not_true_eq_false, not_false_eq_true, Int.reduceAdd, Int.reduceSub, Int.reduceMul, Int.reduceLT, Int.reduceLE, Int.reduceEq, Int.reduceNe, List.length_cons, List.length_nil, ↓reduceIte, Nat.reduceAdd, Nat.reduceBEq, Nat.reduceEqDiff, Nat.reduceLeDiff, Int.reduceNeg, reduceCtorEq]
    · rw [asPair_not2 hl]
      have hl' : ¬ (l.length : Int) = 2 := by omega
      simp only [foT, L__law_forces_reason_1, hl', kx0, kx1, kx2, sx0, sx1, sx2, sx3, sx4, sx5, sx6, sx7, nm1, List.contains_nil, List.contains_cons, List.all_nil, List.all_cons, List.isEmpty_nil, List.isEmpty_cons, List.map_cons, List.map_nil, Bool.decide_eq_true, Bool.and_true, Bool.true_and, Bool.and_false, Bool.false_and, Bool.or_true, Bool.true_or, Bool.or_false, Bool.false_or, Bool.not_true, Bool.not_false, Bool.false_eq_true, Bool.not_eq_true', decide_true, decide_false, if_true, if_false, decide_eq_true_eq, decide_eq_false_iff_not, Int.cast_ofNat_Int, true_and, false_and, and_true, and_false, not_true_eq_false, not_false_eq_true, Int.reduceAdd, Int.reduceSub, Int.reduceMul, Int.reduceLT, Int.reduceLE, Int.reduceEq, Int.reduceNe, List.length_cons, List.length_nil, ↓reduceIte, Nat.reduceAdd, Nat.reduceBEq, Nat.reduceEqDiff, Nat.reduceLeDiff, Int.reduceNeg, reduceCtorEq, Option.isSome_none]
  · have ht' : isTy .tuple d = false := by simpa using ht
    rw [notTup ht']
    simp only [foT, L__law_forces_reason_1, ht', kx0, kx1, kx2, sx0, sx1, sx2, sx3, sx4, sx5, sx6, sx7, nm1, List.contains_nil, List.contains_cons, List.all_nil, List.all_cons, List.isEmpty_nil, List.isEmpty_cons, List.map_cons, List.map_nil, Bool.decide_eq_true, Bool.and_true, Bool.true_and, Bool.and_false, Bool.false_and, Bool.or_true, Bool.true_or, Bool.or_false, Bool.false_or, Bool.not_true, Bool.not_false, Bool.false_eq_true, Bool.not_eq_true', decide_true, decide_false, if_true, if_false, decide_eq_true_eq, decide_eq_false_iff_not, Int.cast_ofNat_Int, true_and, false_and, and_true, and_false, not_true_eq_false, not_false_eq_true, Int.reduceAdd, Int.reduceSub, Int.reduceMul, Int.reduceLT, Int.reduceLE, Int.reduceEq, Int.reduceNe, List.length_cons, List.length_nil, ↓reduceIte, Nat.reduceAdd, Nat.reduceBEq, Nat.reduceEqDiff, Nat.reduceLeDiff, Int.reduceNeg, reduceCtorEq, Option.isSome_none]
theorem law_pairs (m : Nat) (t : List Blk) (fs : List D) (hs : smallAll fs = true) :
    match frPairs fs with
    | none => ∃ nv', SF.exS T (SF.run T sub 100 (m + 2)) sub 100 L__law_forces_reason_2 [.val (encT t), .val (.tuple fs), .emp, .emp, .emp, .emp, .emp, .emp, .emp, .emp] = .ok (.rt (.str "form") false, nv')
    | some _ => ∃ s2, SF.exS T (SF.run T sub 100 (m + 2)) sub 100 L__law_forces_reason_2 [.val (encT t), .val (.tuple fs), .emp, .emp, .emp, .emp, .emp, .emp, .emp, .emp] = .ok (.nx, [.val (encT t), .val (.tuple fs), .opt s2, .emp, .emp, .emp, .emp, .emp, .emp, .emp]) := by
  unfold L__law_forces_reason_2
  simp only [zs_for, sx0, sx1, sx2, sx3, sx4, sx5, sx6, sx7, nm1, List.contains_nil, List.contains_cons, List.all_nil, List.all_cons, List.isEmpty_nil, List.isEmpty_cons, List.map_cons, List.map_nil, Bool.decide_eq_true, Bool.and_true, Bool.true_and, Bool.and_false, Bool.false_and, Bool.or_true, Bool.true_or, Bool.or_false, Bool.false_or, Bool.not_true, Bool.not_false, Bool.false_eq_true, Bool.not_eq_true', decide_true, decide_false, if_true, if_false, decide_eq_true_eq, decide_eq_false_iff_not, Int.cast_ofNat_Int, true_and, false_and, and_true, and_false, not_true_eq_false, not_false_eq_true, Int.reduceAdd, Int.reduceSub, Int.reduceMul, Int.reduceLT, Int.reduceLE, Int.reduceEq, Int.reduceNe, List.length_cons, List.length_nil, ↓reduceIte, Nat.reduceAdd, Nat.reduceBEq, Nat.reduceEqDiff, Nat.reduceLeDiff, Int.reduceNeg, reduceCtorEq]
  have key : ∀ (gs : List D) (s2 : Option D), smallAll gs = true → (match frPairs gs with
    | none => ∃ nv', foR (foT T (SF.run T sub 100 (m + 2)) sub 100 (Tg.n 2) L__law_forces_reason_1) gs [.val (encT t), .val (.tuple fs), .opt s2, .emp, .emp, .emp, .emp, .emp, .emp, .emp] = .ok (.rt (.str "form") false, nv')
    | some _ => ∃ s2', foR (foT T (SF.run T sub 100 (m + 2)) sub 100 (Tg.n 2) L__law_forces_reason_1) gs [.val (encT t), .val (.tuple fs), .opt s2, .emp, .emp, .emp, .emp, .emp, .emp, .emp] = .ok (.nx, [.val (encT t), .val (.tuple fs), .opt s2', .emp, .emp, .emp, .emp, .emp, .emp, .emp])) := by
    intro gs
    induction gs with
    | nil => intro s2 _; exact ⟨s2, rfl⟩
    | cons d ds ih =>
      intro s2 h
      obtain ⟨h1, h2⟩ := small_cons h
      have e : frPairs (d :: ds) = (asPair d).bind fun p => (frPairs ds).map fun ps => p :: ps := rfl
      have pb := pair_bad m (encT t) (.tuple fs) d h1 s2 [.emp, .emp, .emp, .emp, .emp, .emp, .emp]
      have ih := ih (some d) h2
      rw [e, foR_cons, pb]
      cases ha : asPair d with
      | none => exact ⟨_, rfl⟩
      | some p =>
        simp only [Option.isSome_some, if_true, bnd_ok, foN_nx, Option.bind_some]
        cases hf : frPairs ds with
        | none =>
          rw [hf] at ih
          exact ih
        | some ps =>
          rw [hf] at ih
          exact ih
  have := key fs none hs
  simp only [opt_none] at this
  exact this
theorem law_loop (m : Nat) (t : List Blk) (ht : BT t) (ps : List (Rat × Rat)) (hl : ps.length = t.length) (hs : ∀ p ∈ ps, Sm2 1000 p) (s2 : Option D) :
    match firstBad t ps with
    | some r => ∃ nv', SF.exS T (SF.run T sub 100 (m + 2)) sub 100 L__law_forces_reason_5 [.val (encT t), .val (.tuple (ps.map enc2)), .opt s2, .emp, .emp, .emp, .emp, .emp, .emp, .emp] = .ok (.rt (.str r) false, nv')
    | none => ∃ nv', SF.exS T (SF.run T sub 100 (m + 2)) sub 100 L__law_forces_reason_5 [.val (encT t), .val (.tuple (ps.map enc2)), .opt s2, .emp, .emp, .emp, .emp, .emp, .emp, .emp] = .ok (.nx, nv') := by
  have hr : (List.range t.length).map (fun (i : Nat) => PyData.int (i : Int)) = ps.zipIdx.map fun x => PyData.int (x.2 : Nat) := by
    rw [← hl, List.range_eq_range', ← List.zipIdx_map_snd 0 ps, List.map_map]; rfl
  unfold L__law_forces_reason_5
  simp only [zs_for, evI_len _ t ht, hr, bnd_ok]
  refine for_turn (b := foT T (SF.run T sub 100 (m + 2)) sub 100 (Tg.n 3) L__law_forces_reason_4) (fun x : (Rat × Rat) × Nat => PyData.int (x.2 : Nat))
    (fun rest nv => (∃ s2 s3 s4 s5 s6 s7 s8 s9, nv = [.val (encT t), .val (.tuple (ps.map enc2)), .opt s2, .opt s3, .opt s4, .opt s5, .opt s6, .opt s7, .opt s8, .opt s9]) ∧ firstBad t ps = rest.findSome? (fun x => badAt t x.2 x.1) ∧ ∀ x ∈ rest, x ∈ ps.zipIdx)
    (fun r => match firstBad t ps with
      | some w => ∃ nv', r = .ok (.rt (.str w) false, nv')
      | none => ∃ nv', r = .ok (.nx, nv')) ps.zipIdx _ ⟨⟨s2, none, none, none, none, none, none, none, rfl⟩, rfl, fun _ h => h⟩ ?_ ?_
  · rintro x rest nv ⟨⟨s2, s3, s4, s5, s6, s7, s8, s9, rfl⟩, hf, hx⟩
    obtain ⟨h1, h2⟩ := mem_zip (hx x (List.mem_cons_self ..))
    have ht := law_turn m t ht x.2 (by omega) x.1 (hs x.1 (List.mem_of_getElem? h2)) (ps.map enc2) (by rw [List.getElem?_map, h2]; rfl) s2 s3 s4 s5 s6 s7 s8 s9
    rw [List.findSome?_cons] at hf
    cases hb : badAt t x.2 x.1 with
    | some r =>
      rw [hb] at ht hf
      obtain ⟨nv', ht⟩ := ht
      rw [ht]
      show match firstBad t ps with | some w => _ | none => _
      rw [show firstBad t ps = some r from hf]
      exact ⟨nv', rfl⟩
    | none =>
      rw [hb] at ht hf
      obtain ⟨t3, t4, t5, t6, t7, t8, ht⟩ := ht
      rw [ht]
      exact ⟨⟨s2, t3, t4, t5, t6, t7, t8, s9, rfl⟩, hf, fun y hy => hx y (List.mem_cons_of_mem _ hy)⟩
  · rintro nv ⟨_, hf, _⟩
    rw [show firstBad t ps = none from hf]
    exact ⟨nv, rfl⟩
def reaD (o : Option Str) : D := match o with
  | none => .none
  | some r => .str r
theorem forces_reason_ok (m : Nat) (t : List Blk) (ht : BT t) (d : D) (hs : smallIs d = true) : SF.run T sub 100 (m + 3) 41 [encT t, d] = .ok ⟨reaD (frs t d), false, []⟩ := by
  rw [r__law_forces_reason]
  by_cases htup : isTy .tuple d = true
  · obtain ⟨fs, rfl⟩ := isTup htup
    by_cases hlen : fs.length = t.length
    · have hlen' : (fs.length : Int) = t.length := by omega
      have hfr : frs t (.tuple fs) = match frPairs fs with
        | none => some ("form" : Str)
        | some ps => firstBad t ps := by
        show (if fs.length ≠ t.length then _ else _) = _; rw [if_neg (by omega)] <;> rfl
      rw [hfr]
      have hP := law_pairs m t fs hs
      cases hp : frPairs fs with
      | none =>
        rw [hp] at hP
        obtain ⟨nv', hP⟩ := hP
        simp only [encT] at hP ⊢
        simp only [B__law_forces_reason, hlen', hP, reaD, List.length_map, kx0, kx1, kx2, sx0, sx1, sx2, sx3, sx4, sx5, sx6, sx7, nm1, List.contains_nil, List.contains_cons, List.all_nil, List.all_cons, List.isEmpty_nil, List.isEmpty_cons, List.map_cons, List.map_nil, Bool.decide_eq_true, Bool.and_true, Bool.true_and, Bool.and_false, Bool.false_and, Bool.or_true, Bool.true_or, Bool.or_false, Bool.false_or, Bool.not_true, Bool.not_false, Bool.false_eq_true, Bool.not_eq_true', decide_true, decide_false, if_true, if_false, decide_eq_true_eq, decide_eq_false_iff_not, Int.cast_ofNat_Int, true_and, false_and, and_true, and_false, not_true_eq_false, not_false_eq_true, Int.reduceAdd, Int.reduceSub, Int.reduceMul, Int.reduceLT, Int.reduceLE, Int.reduceEq, Int.reduceNe, List.length_cons, List.length_nil, ↓reduceIte, Nat.reduceAdd, Nat.reduceBEq, Nat.reduceEqDiff, Nat.reduceLeDiff, Int.reduceNeg, reduceCtorEq]
      | some ps =>
        rw [hp] at hP
        obtain ⟨s2, hP⟩ := hP
        have he := frPairs_some hp
        subst he
        rw [List.length_map] at hlen
        have hL := law_loop m t ht ps hlen (fun p hpm => small_2 (small_mem (show smallAll (ps.map enc2) = true from hs) (enc2 p) (List.mem_map_of_mem hpm))) s2
        simp only [encT, List.length_map] at hP hL hlen' ⊢
        cases hfb : firstBad t ps with
        | none =>
          rw [hfb] at hL
          obtain ⟨nv', hL⟩ := hL
          simp only [B__law_forces_reason, hlen', hP, hL, reaD, List.length_map, kx0, kx1, kx2, sx0, sx1, sx2, sx3, sx4, sx5, sx6, sx7, nm1, List.contains_nil, List.contains_cons, List.all_nil, List.all_cons, List.isEmpty_nil, List.isEmpty_cons, List.map_cons, List.map_nil, Bool.decide_eq_true, Bool.and_true, Bool.true_and, Bool.and_false, Bool.false_and, Bool.or_true, Bool.true_or, Bool.or_false, Bool.false_or, Bool.not_true, Bool.not_false, Bool.false_eq_true, Bool.not_eq_true', decide_true, decide_false, if_true, if_false, decide_eq_true_eq, decide_eq_false_iff_not, Int.cast_ofNat_Int, true_and, false_and, and_true, and_false, not_true_eq_false, not_false_eq_true, Int.reduceAdd, Int.reduceSub, Int.reduceMul, Int.reduceLT, Int.reduceLE, Int.reduceEq, Int.reduceNe, List.length_cons, List.length_nil, ↓reduceIte, Nat.reduceAdd, Nat.reduceBEq, Nat.reduceEqDiff, Nat.reduceLeDiff, Int.reduceNeg, reduceCtorEq]
        | some r =>
          rw [hfb] at hL
          obtain ⟨nv', hL⟩ := hL
          simp only [B__law_forces_reason, hlen', hP, hL, reaD, List.length_map, kx0, kx1, kx2, sx0, sx1, sx2, sx3, sx4, sx5, sx6, sx7, nm1, List.contains_nil, List.contains_cons, List.all_nil, List.all_cons, List.isEmpty_nil, List.isEmpty_cons, List.map_cons, List.map_nil, Bool.decide_eq_true, Bool.and_true, Bool.true_and, Bool.and_false, Bool.false_and, Bool.or_true, Bool.true_or, Bool.or_false, Bool.false_or, Bool.not_true, Bool.not_false, Bool.false_eq_true, Bool.not_eq_true', decide_true, decide_false, if_true, if_false, decide_eq_true_eq, decide_eq_false_iff_not, Int.cast_ofNat_Int, true_and, false_and, and_true, and_false, not_true_eq_false, not_false_eq_true, Int.reduceAdd, Int.reduceSub, Int.reduceMul, Int.reduceLT, Int.reduceLE, Int.reduceEq, Int.reduceNe, List.length_cons, List.length_nil, ↓reduceIte, Nat.reduceAdd, Nat.reduceBEq, Nat.reduceEqDiff, Nat.reduceLeDiff, Int.reduceNeg, reduceCtorEq]
    · have hlen' : ¬ (fs.length : Int) = t.length := by omega
      have hfr : frs t (.tuple fs) = some ("form" : Str) := by show (if fs.length ≠ t.length then _ else _) = _; rw [if_pos hlen]
      rw [hfr]
      simp only [encT]
      simp only [B__law_forces_reason, hlen', reaD, List.length_map, kx0, kx1, kx2, sx0, sx1, sx2, sx3, sx4, sx5, sx6, sx7, nm1, List.contains_nil, List.contains_cons, List.all_nil, List.all_cons, List.isEmpty_nil, List.isEmpty_cons, List.map_cons, List.map_nil, Bool.decide_eq_true, Bool.and_true, Bool.true_and, Bool.and_false, Bool.false_and, Bool.or_true, Bool.true_or, Bool.or_false, Bool.false_or, Bool.not_true, Bool.not_false, Bool.false_eq_true, Bool.not_eq_true', decide_true, decide_false, if_true, if_false, decide_eq_true_eq, decide_eq_false_iff_not, Int.cast_ofNat_Int, true_and, false_and, and_true, and_false, not_true_eq_false, not_false_eq_true, Int.reduceAdd, Int.reduceSub, Int.reduceMul, Int.reduceLT, Int.reduceLE, Int.reduceEq, Int.reduceNe, List.length_cons, List.length_nil, ↓reduceIte, Nat.reduceAdd, Nat.reduceBEq, Nat.reduceEqDiff, Nat.reduceLeDiff, Int.reduceNeg, reduceCtorEq]
  · have ht' : isTy .tuple d = false := by simpa using htup
    rw [notTupF t ht']
    simp only [B__law_forces_reason, ht', reaD, kx0, kx1, kx2, sx0, sx1, sx2, sx3, sx4, sx5, sx6, sx7, nm1, List.contains_nil, List.contains_cons, List.all_nil, List.all_cons, List.isEmpty_nil, List.isEmpty_cons, List.map_cons, List.map_nil, Bool.decide_eq_true, Bool.and_true, Bool.true_and, Bool.and_false, Bool.false_and, Bool.or_true, Bool.true_or, Bool.or_false, Bool.false_or, Bool.not_true, Bool.not_false, Bool.false_eq_true, Bool.not_eq_true', decide_true, decide_false, if_true, if_false, decide_eq_true_eq, decide_eq_false_iff_not, Int.cast_ofNat_Int, true_and, false_and, and_true, and_false, not_true_eq_false, not_false_eq_true, Int.reduceAdd, Int.reduceSub, Int.reduceMul, Int.reduceLT, Int.reduceLE, Int.reduceEq, Int.reduceNe, List.length_cons, List.length_nil, ↓reduceIte, Nat.reduceAdd, Nat.reduceBEq, Nat.reduceEqDiff, Nat.reduceLeDiff, Int.reduceNeg, reduceCtorEq]
def st23 (s : Str) : Int := if s = "stands" then 2 else if s = "tips" then 3 else 0
theorem dct23 : (evB T (SF.run T sub 100 0) (CE.dct (CEs.cons (CE.k (.str "stands")) (CEs.cons (CE.k (.int 2)) (CEs.cons (CE.k (.str "tips")) (CEs.cons (CE.k (.int 3)) CEs.nil)))))).v [] = .ok (.dict [(.str "stands", .int 2), (.str "tips", .int 3)], true, []) := by rfl
theorem dict_23 : dPuts [] [((.str "stands" : D), (.int 2 : D)), (.str "tips", .int 3)] = [(.str "stands", .int 2), (.str "tips", .int 3)] := by rfl
theorem twos_23 : twos [(.str "stands" : D), .int 2, .str "tips", .int 3] = some [(.str "stands", .int 2), (.str "tips", .int 3)] := rfl
theorem keys_23 : ([((.str "stands" : D), (.int 2 : D)), (.str "tips", .int 3)].all fun p => isKey p.1) = true := rfl
theorem get_23 (s : Str) : op3 .get (.dict [(.str "stands", .int 2), (.str "tips", .int 3)]) (.str s) (.int 0) = .ok (.int (st23 s), false) := by
  show val ((if (s == ("stands" : Str)) then some (PyData.int 2) else if (s == ("tips" : Str)) then some (PyData.int 3) else none).getD (.int 0)) = _
  unfold st23
  by_cases h1 : s = "stands"
  · subst h1; rfl
  · have : (s == ("stands" : Str)) = false := beq_false_of_ne h1
    rw [this, if_neg h1]
    by_cases h2 : s = "tips"
    · subst h2; rfl
    · have : (s == ("tips" : Str)) = false := beq_false_of_ne h2
      rw [this, if_neg h2]; rfl
theorem notStrR {a : D} (h : isTy .str a = false) (t : List Blk) (l : List D) : rsn t (.tuple (a :: l)) = some ("form" : Str) := by
  have hs : ∀ u, isS a u = false := by
    intro u
    cases a with
    | str s => cases h
    | _ => rfl
  by_cases h2 : (a :: l).length = 2
  · obtain ⟨x, y, e⟩ := len2 h2
    cases e
    show (if isS a "stands" then _ else _) = _
    rw [hs]; rfl
  · by_cases h3 : (a :: l).length = 3
    · match l, h3 with
      | [k, s], _ =>
        show (if isS a "tips" then _ else _) = _
        rw [hs]; rfl
    · exact rsn_len t h2 h3
theorem law_reason_ok (m : Nat) (t : List Blk) (ht : BT t) (d : D) (hs : smallIs d = true) : SF.run T sub 100 (m + 4) 42 [encT t, d] = .ok ⟨reaD (rsn t d), false, []⟩ := by
  rw [r__law_reason]
  have l15 : decide ([((.str "stands" : D), (.int 2 : D)), (.str "tips", .int 3)].length ≤ 15) = true := rfl
  by_cases htup : isTy .tuple d = true
  · obtain ⟨l, rfl⟩ := isTup htup
    cases l with
    | nil =>
      rw [rsn_len t (by decide) (by decide)]
      simp only [B__law_reason, reaD, kx0, kx1, kx2, sx0, sx1, sx2, sx3, sx4, sx5, sx6, sx7, nm1, List.contains_nil, List.contains_cons, List.all_nil, List.all_cons, List.isEmpty_nil, List.isEmpty_cons, List.map_cons, List.map_nil, Bool.decide_eq_true, Bool.and_true, Bool.true_and, Bool.and_false, Bool.false_and, Bool.or_true, Bool.true_or, Bool.or_false, Bool.false_or, Bool.not_true, Bool.not_false, Bool.false_eq_true, Bool.not_eq_true', decide_true, decide_false, if_true, if_false, decide_eq_true_eq, decide_eq_false_iff_not, Int.cast_ofNat_Int, true_and, false_and, and_true, and_false, not_true_eq_false, not_false_eq_true, Int.reduceAdd, Int.reduceSub, Int.reduceMul, Int.reduceLT, Int.reduceLE, Int.reduceEq, Int.reduceNe, List.length_cons, List.length_nil, ↓reduceIte, Nat.reduceAdd, Nat.reduceBEq, Nat.reduceEqDiff, Nat.reduceLeDiff, Int.reduceNeg, reduceCtorEq]
    | cons a l =>
      by_cases hstr : isTy .str a = true
      · obtain ⟨u, rfl⟩ := isStr hstr
        have hg := get_23 u
        by_cases h1 : u = "stands"
        · subst h1
          have e23 : st23 "stands" = 2 := rfl
          rw [e23] at hg
          match l, hs with
          | [], _ =>
            rw [rsn_len t (by decide) (by decide)]
            simp only [B__law_reason, twos_23, keys_23, l15, dict_23, hg, reaD, kx0, kx1, kx2, sx0, sx1, sx2, sx3, sx4, sx5, sx6, sx7, nm1, List.contains_nil, List.contains_cons, List.all_nil, List.all_cons, List.isEmpty_nil, List.isEmpty_cons, List.map_cons, List.map_nil, Bool.decide_eq_true, Bool.and_true, Bool.true_and, Bool.and_false, Bool.false_and, Bool.or_true, Bool.true_or, Bool.or_false, Bool.false_or, Bool.not_true, Bool.not_false, Bool.false_eq_true, Bool.not_eq_true', decide_true, decide_false, if_true, if_false, decide_eq_true_eq, decide_eq_false_iff_not, Int.cast_ofNat_Int, true_and, false_and, and_true, and_false, not_true_eq_false, not_false_eq_true, Int.reduceAdd, Int.reduceSub, Int.reduceMul, Int.reduceLT, Int.reduceLE, Int.reduceEq, Int.reduceNe, List.length_cons, List.length_nil, ↓reduceIte, Nat.reduceAdd, Nat.reduceBEq, Nat.reduceEqDiff, Nat.reduceLeDiff, Int.reduceNeg, reduceCtorEq]
          | [f], hs =>
            have hr : rsn t (.tuple [.str "stands", f]) = frs t f := rfl
            rw [hr]
            have hf := fun m => forces_reason_ok m t ht f (small_cons (small_cons (show smallAll [.str "stands", f] = true from hs)).2).1
            simp only [B__law_reason, twos_23, keys_23, l15, dict_23, hg, hf, kx0, kx1, kx2, sx0, sx1, sx2, sx3, sx4, sx5, sx6, sx7, nm1, List.contains_nil, List.contains_cons, List.all_nil, List.all_cons, List.isEmpty_nil, List.isEmpty_cons, List.map_cons, List.map_nil, Bool.decide_eq_true, Bool.and_true, Bool.true_and, Bool.and_false, Bool.false_and, Bool.or_true, Bool.true_or, Bool.or_false, Bool.false_or, Bool.not_true, Bool.not_false, Bool.false_eq_true, Bool.not_eq_true', decide_true, decide_false, if_true, if_false, decide_eq_true_eq, decide_eq_false_iff_not, Int.cast_ofNat_Int, true_and, false_and, and_true, and_false, not_true_eq_false, not_false_eq_true, Int.reduceAdd, Int.reduceSub, Int.reduceMul, Int.reduceLT, Int.reduceLE, Int.reduceEq, Int.reduceNe, List.length_cons, List.length_nil, ↓reduceIte, Nat.reduceAdd, Nat.reduceBEq, Nat.reduceEqDiff, Nat.reduceLeDiff, Int.reduceNeg, reduceCtorEq]
          | x :: y :: r, _ =>
            have hr : rsn t (.tuple (.str "stands" :: x :: y :: r)) = some ("form" : Str) := by
              cases r with
              | nil => rfl
              | cons z r => exact rsn_len t (by simp) (by simp)
            rw [hr]
            have hn : ¬ (((r.length + 1 + 1 + 1 : Nat) : Int) = 2) := by omega
            simp only [B__law_reason, twos_23, keys_23, l15, dict_23, hg, hn, reaD, kx0, kx1, kx2, sx0, sx1, sx2, sx3, sx4, sx5, sx6, sx7, nm1, List.contains_nil, List.contains_cons, List.all_nil, List.all_cons, List.isEmpty_nil, List.isEmpty_cons, List.map_cons, List.map_nil, Bool.decide_eq_true, Bool.and_true, Bool.true_and, Bool.and_false, Bool.false_and, Bool.or_true, Bool.true_or, Bool.or_false, Bool.false_or, Bool.not_true, Bool.not_false, Bool.false_eq_true, Bool.not_eq_true', decide_true, decide_false, if_true, if_false, decide_eq_true_eq, decide_eq_false_iff_not, Int.cast_ofNat_Int, true_and, false_and, and_true, and_false, not_true_eq_false, not_false_eq_true, Int.reduceAdd, Int.reduceSub, Int.reduceMul, Int.reduceLT, Int.reduceLE, Int.reduceEq, Int.reduceNe, List.length_cons, List.length_nil, ↓reduceIte, Nat.reduceAdd, Nat.reduceBEq, Nat.reduceEqDiff, Nat.reduceLeDiff, Int.reduceNeg, reduceCtorEq]
        · by_cases h2 : u = "tips"
          · subst h2
            have e23 : st23 "tips" = 3 := rfl
            have ne : ¬ (("tips" : Str) = "stands") := by decide
            rw [e23] at hg
            match l, hs with
            | [], _ =>
              rw [rsn_len t (by decide) (by decide)]
              simp only [B__law_reason, twos_23, keys_23, l15, dict_23, hg, reaD, kx0, kx1, kx2, sx0, sx1, sx2, sx3, sx4, sx5, sx6, sx7, nm1, List.contains_nil, List.contains_cons, List.all_nil, List.all_cons, List.isEmpty_nil, List.isEmpty_cons, List.map_cons, List.map_nil, Bool.decide_eq_true, Bool.and_true, Bool.true_and, Bool.and_false, Bool.false_and, Bool.or_true, Bool.true_or, Bool.or_false, Bool.false_or, Bool.not_true, Bool.not_false, Bool.false_eq_true, Bool.not_eq_true', decide_true, decide_false, if_true, if_false, decide_eq_true_eq, decide_eq_false_iff_not, Int.cast_ofNat_Int, true_and, false_and, and_true, and_false, not_true_eq_false, not_false_eq_true, Int.reduceAdd, Int.reduceSub, Int.reduceMul, Int.reduceLT, Int.reduceLE, Int.reduceEq, Int.reduceNe, List.length_cons, List.length_nil, ↓reduceIte, Nat.reduceAdd, Nat.reduceBEq, Nat.reduceEqDiff, Nat.reduceLeDiff, Int.reduceNeg, reduceCtorEq]
            | [f], hs =>
              have hr : rsn t (.tuple [.str "tips", f]) = some ("form" : Str) := rfl
              rw [hr]
              simp only [B__law_reason, twos_23, keys_23, l15, dict_23, hg, reaD, kx0, kx1, kx2, sx0, sx1, sx2, sx3, sx4, sx5, sx6, sx7, nm1, List.contains_nil, List.contains_cons, List.all_nil, List.all_cons, List.isEmpty_nil, List.isEmpty_cons, List.map_cons, List.map_nil, Bool.decide_eq_true, Bool.and_true, Bool.true_and, Bool.and_false, Bool.false_and, Bool.or_true, Bool.true_or, Bool.or_false, Bool.false_or, Bool.not_true, Bool.not_false, Bool.false_eq_true, Bool.not_eq_true', decide_true, decide_false, if_true, if_false, decide_eq_true_eq, decide_eq_false_iff_not, Int.cast_ofNat_Int, true_and, false_and, and_true, and_false, not_true_eq_false, not_false_eq_true, Int.reduceAdd, Int.reduceSub, Int.reduceMul, Int.reduceLT, Int.reduceLE, Int.reduceEq, Int.reduceNe, List.length_cons, List.length_nil, ↓reduceIte, Nat.reduceAdd, Nat.reduceBEq, Nat.reduceEqDiff, Nat.reduceLeDiff, Int.reduceNeg, reduceCtorEq]
            | [k, s], hs =>
              have ha : isS (.str "tips") "tips" = true := rfl
              by_cases hk : (isTy .int k && !isTy .bool k) = true
              · obtain ⟨k, rfl⟩ := isInt_iff.mp hk
                by_cases hstr : isTy .str s = true
                · obtain ⟨s, rfl⟩ := isStr hstr
                  have hr : rsn t (.tuple [.str "tips", .int k, .str s]) = (if 0 ≤ k ∧ k < t.length then (if isS (sideD t k.toNat) s then (none : Option Str) else some ("side" : Str)) else some ("form" : Str)) := rfl
                  rw [hr]
                  by_cases h0 : 0 ≤ k ∧ k < t.length
                  · rw [if_pos h0]
                    obtain ⟨n, rfl⟩ := Int.eq_ofNat_of_zero_le h0.1
                    have hn : n < t.length := by omega
                    have so := fun m => law_side_ok m t ht n hn
                    have sn := side_eq t n s
                    simp only [Int.toNat_natCast]
                    simp only [encT] at so ⊢
                    by_cases hS : isS (sideD t n) s = true
                    · rw [hS] at sn
                      rw [if_pos hS]
                      simp only [B__law_reason, twos_23, keys_23, l15, dict_23, hg, ne, h0.1, h0.2, so, sn, reaD, List.length_map, kx0, kx1, kx2, sx0, sx1, sx2, sx3, sx4, sx5, sx6, sx7, nm1, List.contains_nil, List.contains_cons, List.all_nil, List.all_cons, List.isEmpty_nil, List.isEmpty_cons, List.map_cons, List.map_nil, Bool.decide_eq_true, Bool.and_true, Bool.true_and, Bool.and_false, Bool.false_and, Bool.or_true, Bool.true_or, Bool.or_false, Bool.false_or, Bool.not_true, Bool.not_false, Bool.false_eq_true, Bool.not_eq_true', decide_true, decide_false, if_true, if_false, decide_eq_true_eq, decide_eq_false_iff_not, Int.cast_ofNat_Int, true_and, false_and, and_true, and_false, not_true_eq_false, not_false_eq_true, Int.reduceAdd, Int.reduceSub, Int.reduceMul, Int.reduceLT, Int.reduceLE, Int.reduceEq, Int.reduceNe, List.length_cons, List.length_nil, ↓reduceIte, Nat.reduceAdd, Nat.reduceBEq, Nat.reduceEqDiff, Nat.reduceLeDiff, Int.reduceNeg, reduceCtorEq]
                    · have hS' : isS (sideD t n) s = false := by simpa using hS
                      rw [hS'] at sn
                      rw [if_neg hS]
                      simp only [B__law_reason, twos_23, keys_23, l15, dict_23, hg, ne, h0.1, h0.2, so, sn, reaD, List.length_map, kx0, kx1, kx2, sx0, sx1, sx2, sx3, sx4, sx5, sx6, sx7, nm1, List.contains_nil, List.contains_cons, List.all_nil, List.all_cons, List.isEmpty_nil, List.isEmpty_cons, List.map_cons, List.map_nil, Bool.decide_eq_true, Bool.and_true, Bool.true_and, Bool.and_false, Bool.false_and, Bool.or_true, Bool.true_or, Bool.or_false, Bool.false_or, Bool.not_true, Bool.not_false, Bool.false_eq_true, Bool.not_eq_true', decide_true, decide_false, if_true, if_false, decide_eq_true_eq, decide_eq_false_iff_not, Int.cast_ofNat_Int, true_and, false_and, and_true, and_false, not_true_eq_false, not_false_eq_true, Int.reduceAdd, Int.reduceSub, Int.reduceMul, Int.reduceLT, Int.reduceLE, Int.reduceEq, Int.reduceNe, List.length_cons, List.length_nil, ↓reduceIte, Nat.reduceAdd, Nat.reduceBEq, Nat.reduceEqDiff, Nat.reduceLeDiff, Int.reduceNeg, reduceCtorEq]
                  · rw [if_neg h0]
                    simp only [encT]
                    by_cases c0 : 0 ≤ k
                    · have c1 : ¬ k < t.length := fun h => h0 ⟨c0, h⟩
                      simp only [B__law_reason, twos_23, keys_23, l15, dict_23, hg, ne, c0, c1, reaD, List.length_map, kx0, kx1, kx2, sx0, sx1, sx2, sx3, sx4, sx5, sx6, sx7, nm1, List.contains_nil, List.contains_cons, List.all_nil, List.all_cons, List.isEmpty_nil, List.isEmpty_cons, List.map_cons, List.map_nil, Bool.decide_eq_true, Bool.and_true, Bool.true_and, Bool.and_false, Bool.false_and, Bool.or_true, Bool.true_or, Bool.or_false, Bool.false_or, Bool.not_true, Bool.not_false, Bool.false_eq_true, Bool.not_eq_true', decide_true, decide_false, if_true, if_false, decide_eq_true_eq, decide_eq_false_iff_not, Int.cast_ofNat_Int, true_and, false_and, and_true, and_false, not_true_eq_false, not_false_eq_true, Int.reduceAdd, Int.reduceSub, Int.reduceMul, Int.reduceLT, Int.reduceLE, Int.reduceEq, Int.reduceNe, List.length_cons, List.length_nil, ↓reduceIte, Nat.reduceAdd, Nat.reduceBEq, Nat.reduceEqDiff, Nat.reduceLeDiff, Int.reduceNeg, reduceCtorEq]
                    · simp only [B__law_reason, twos_23, keys_23, l15, dict_23, hg, ne, c0, reaD, List.length_map, kx0, kx1, kx2, sx0, sx1, sx2, sx3, sx4, sx5, sx6, sx7, nm1, List.contains_nil, List.contains_cons, List.all_nil, List.all_cons, List.isEmpty_nil, List.isEmpty_cons, List.map_cons, List.map_nil, Bool.decide_eq_true, Bool.and_true, Bool.true_and, Bool.and_false, Bool.false_and, Bool.or_true, Bool.true_or, Bool.or_false, Bool.false_or, Bool.not_true, Bool.not_false, Bool.false_eq_true, Bool.not_eq_true', decide_true, decide_false, if_true, if_false, decide_eq_true_eq, decide_eq_false_iff_not, Int.cast_ofNat_Int, true_and, false_and, and_true, and_false, not_true_eq_false, not_false_eq_true, Int.reduceAdd, Int.reduceSub, Int.reduceMul, Int.reduceLT, Int.reduceLE, Int.reduceEq, Int.reduceNe, List.length_cons, List.length_nil, ↓reduceIte, Nat.reduceAdd, Nat.reduceBEq, Nat.reduceEqDiff, Nat.reduceLeDiff, Int.reduceNeg, reduceCtorEq]
                · have hstr' : isTy .str s = false := by simpa using hstr
                  rw [notStrS hstr' t _ _ ha]
                  simp only [encT]
                  by_cases c0 : 0 ≤ k
                  · by_cases c1 : k < t.length
                    · simp only [B__law_reason, twos_23, keys_23, l15, dict_23, hg, ne, c0, c1, hstr', reaD, List.length_map, kx0, kx1, kx2, sx0, sx1, sx2, sx3, sx4, sx5, sx6, sx7, nm1, List.contains_nil, List.contains_cons, List.all_nil, List.all_cons, List.isEmpty_nil, List.isEmpty_cons, List.map_cons, List.map_nil, Bool.decide_eq_true, Bool.and_true, Bool.true_and, Bool.and_false, Bool.false_and, Bool.or_true, Bool.true_or, Bool.or_false, Bool.false_or, Bool.not_true, Bool.not_false, Bool.false_eq_true, Bool.not_eq_true', decide_true, decide_false, if_true, if_false, decide_eq_true_eq, decide_eq_false_iff_not, Int.cast_ofNat_Int, true_and, false_and, and_true, and_false, not_true_eq_false, not_false_eq_true, Int.reduceAdd, Int.reduceSub, Int.reduceMul, Int.reduceLT, Int.reduceLE, Int.reduceEq, Int.reduceNe, List.length_cons, List.length_nil, ↓reduceIte, Nat.reduceAdd, Nat.reduceBEq, Nat.reduceEqDiff, Nat.reduceLeDiff, Int.reduceNeg, reduceCtorEq]
                    · simp only [B__law_reason, twos_23, keys_23, l15, dict_23, hg, ne, c0, c1, hstr', reaD, List.length_map, kx0, kx1, kx2, sx0, sx1, sx2, sx3, sx4, sx5, sx6, sx7, nm1, List.contains_nil, List.contains_cons, List.all_nil, List.all_cons, List.isEmpty_nil, List.isEmpty_cons, List.map_cons, List.map_nil, Bool.decide_eq_true, Bool.and_true, Bool.true_and, Bool.and_false, Bool.false_and, Bool.or_true, Bool.true_or, Bool.or_false, Bool.false_or, Bool.not_true, Bool.not_false, Bool.false_eq_true, Bool.not_eq_true', decide_true, decide_false, if_true, if_false, decide_eq_true_eq, decide_eq_false_iff_not, Int.cast_ofNat_Int, true_and, false_and, and_true, and_false, not_true_eq_false, not_false_eq_true, Int.reduceAdd, Int.reduceSub, Int.reduceMul, Int.reduceLT, Int.reduceLE, Int.reduceEq, Int.reduceNe, List.length_cons, List.length_nil, ↓reduceIte, Nat.reduceAdd, Nat.reduceBEq, Nat.reduceEqDiff, Nat.reduceLeDiff, Int.reduceNeg, reduceCtorEq]
                  · simp only [B__law_reason, twos_23, keys_23, l15, dict_23, hg, ne, c0, hstr', reaD, List.length_map, kx0, kx1, kx2, sx0, sx1, sx2, sx3, sx4, sx5, sx6, sx7, nm1, List.contains_nil, List.contains_cons, List.all_nil, List.all_cons, List.isEmpty_nil, List.isEmpty_cons, List.map_cons, List.map_nil, Bool.decide_eq_true, Bool.and_true, Bool.true_and, Bool.and_false, Bool.false_and, Bool.or_true, Bool.true_or, Bool.or_false, Bool.false_or, Bool.not_true, Bool.not_false, Bool.false_eq_true, Bool.not_eq_true', decide_true, decide_false, if_true, if_false, decide_eq_true_eq, decide_eq_false_iff_not, Int.cast_ofNat_Int, true_and, false_and, and_true, and_false, not_true_eq_false, not_false_eq_true, Int.reduceAdd, Int.reduceSub, Int.reduceMul, Int.reduceLT, Int.reduceLE, Int.reduceEq, Int.reduceNe, List.length_cons, List.length_nil, ↓reduceIte, Nat.reduceAdd, Nat.reduceBEq, Nat.reduceEqDiff, Nat.reduceLeDiff, Int.reduceNeg, reduceCtorEq]
              · have hk' : (isTy .int k && !isTy .bool k) = false := by simpa using hk
                rw [notIntK hk' t _ s ha]
                cases ci : isTy .int k with
                | false => simp only [B__law_reason, twos_23, keys_23, l15, dict_23, hg, ne, ci, reaD, List.length_map, kx0, kx1, kx2, sx0, sx1, sx2, sx3, sx4, sx5, sx6, sx7, nm1, List.contains_nil, List.contains_cons, List.all_nil, List.all_cons, List.isEmpty_nil, List.isEmpty_cons, List.map_cons, List.map_nil, Bool.decide_eq_true, Bool.and_true, Bool.true_and, Bool.and_false, Bool.false_and, Bool.or_true, Bool.true_or, Bool.or_false, Bool.false_or, Bool.not_true, Bool.not_false, Bool.false_eq_true, Bool.not_eq_true', decide_true, decide_false, if_true, if_false, decide_eq_true_eq, decide_eq_false_iff_not, Int.cast_ofNat_Int, true_and, false_and, and_true, and_false, not_true_eq_false, not_false_eq_true, Int.reduceAdd, Int.reduceSub, Int.reduceMul, Int.reduceLT, Int.reduceLE, Int.reduceEq, Int.reduceNe, List.length_cons, List.length_nil, ↓reduceIte, Nat.reduceAdd, Nat.reduceBEq, Nat.reduceEqDiff, Nat.reduceLeDiff, Int.reduceNeg, reduceCtorEq]
                | true =>
                  have cb : isTy .bool k = true := by rw [ci] at hk'; simpa using hk'
                  simp only [B__law_reason, twos_23, keys_23, l15, dict_23, hg, ne, ci, cb, reaD, List.length_map, kx0, kx1, kx2, sx0, sx1, sx2, sx3, sx4, sx5, sx6, sx7, nm1, List.contains_nil, List.contains_cons, List.all_nil, List.all_cons, List.isEmpty_nil, List.isEmpty_cons, List.map_cons, List.map_nil, Bool.decide_eq_true, Bool.and_true, Bool.true_and, Bool.and_false, Bool.false_and, Bool.or_true, Bool.true_or, Bool.or_false, Bool.false_or, Bool.not_true, Bool.not_false, Bool.false_eq_true, Bool.not_eq_true', decide_true, decide_false, if_true, if_false, decide_eq_true_eq, decide_eq_false_iff_not, Int.cast_ofNat_Int, true_and, false_and, and_true, and_false, not_true_eq_false, not_false_eq_true, Int.reduceAdd, Int.reduceSub, Int.reduceMul, Int.reduceLT, Int.reduceLE, Int.reduceEq, Int.reduceNe, List.length_cons, List.length_nil, ↓reduceIte, Nat.reduceAdd, Nat.reduceBEq, Nat.reduceEqDiff, Nat.reduceLeDiff, Int.reduceNeg, reduceCtorEq]
            | x :: y :: z :: r, _ =>
              rw [rsn_len t (by simp) (by simp)]
              have hn : ¬ (((r.length + 1 + 1 + 1 + 1 : Nat) : Int) = 3) := by omega
              simp only [B__law_reason, twos_23, keys_23, l15, dict_23, hg, hn, reaD, kx0, kx1, kx2, sx0, sx1, sx2, sx3, sx4, sx5, sx6, sx7, nm1, List.contains_nil, List.contains_cons, List.all_nil, List.all_cons, List.isEmpty_nil, List.isEmpty_cons, List.map_cons, List.map_nil, Bool.decide_eq_true, Bool.and_true, Bool.true_and, Bool.and_false, Bool.false_and, Bool.or_true, Bool.true_or, Bool.or_false, Bool.false_or, Bool.not_true, Bool.not_false, Bool.false_eq_true, Bool.not_eq_true', decide_true, decide_false, if_true, if_false, decide_eq_true_eq, decide_eq_false_iff_not, Int.cast_ofNat_Int, true_and, false_and, and_true, and_false, not_true_eq_false, not_false_eq_true, Int.reduceAdd, Int.reduceSub, Int.reduceMul, Int.reduceLT, Int.reduceLE, Int.reduceEq, Int.reduceNe, List.length_cons, List.length_nil, ↓reduceIte, Nat.reduceAdd, Nat.reduceBEq, Nat.reduceEqDiff, Nat.reduceLeDiff, Int.reduceNeg, reduceCtorEq]
          · have e23 : st23 u = 0 := by unfold st23; rw [if_neg h1, if_neg h2]
            rw [e23] at hg
            have hr : rsn t (.tuple (.str u :: l)) = some ("form" : Str) := by
              have i1 : isS (.str u) "stands" = false := decide_eq_false h1
              have i2 : isS (.str u) "tips" = false := decide_eq_false h2
              by_cases c2 : (PyData.str u :: l).length = 2
              · obtain ⟨x, y, e⟩ := len2 c2
                cases e
                show (if isS (.str u) "stands" then _ else _) = _
                rw [i1]; rfl
              · by_cases c3 : (PyData.str u :: l).length = 3
                · match l, c3 with
                  | [k, s], _ =>
                    show (if isS (.str u) "tips" then _ else _) = _
                    rw [i2]; rfl
                · exact rsn_len t c2 c3
            rw [hr]
            have hn : ¬ (((l.length + 1 : Nat) : Int) = 0) := by omega
            simp only [B__law_reason, twos_23, keys_23, l15, dict_23, hg, hn, reaD, kx0, kx1, kx2, sx0, sx1, sx2, sx3, sx4, sx5, sx6, sx7, nm1, List.contains_nil, List.contains_cons, List.all_nil, List.all_cons, List.isEmpty_nil, List.isEmpty_cons, List.map_cons, List.map_nil, Bool.decide_eq_true, Bool.and_true, Bool.true_and, Bool.and_false, Bool.false_and, Bool.or_true, Bool.true_or, Bool.or_false, Bool.false_or, Bool.not_true, Bool.not_false, Bool.false_eq_true, Bool.not_eq_true', decide_true, decide_false, if_true, if_false, decide_eq_true_eq, decide_eq_false_iff_not, Int.cast_ofNat_Int, true_and, false_and, and_true, and_false, not_true_eq_false, not_false_eq_true, Int.reduceAdd, Int.reduceSub, Int.reduceMul, Int.reduceLT, Int.reduceLE, Int.reduceEq, Int.reduceNe, List.length_cons, List.length_nil, ↓reduceIte, Nat.reduceAdd, Nat.reduceBEq, Nat.reduceEqDiff, Nat.reduceLeDiff, Int.reduceNeg, reduceCtorEq]
      · have hstr' : isTy .str a = false := by simpa using hstr
        rw [notStrR hstr' t l]
        simp only [B__law_reason, hstr', reaD, kx0, kx1, kx2, sx0, sx1, sx2, sx3, sx4, sx5, sx6, sx7, nm1, List.contains_nil, List.contains_cons, List.all_nil, List.all_cons, List.isEmpty_nil, List.isEmpty_cons, List.map_cons, List.map_nil, Bool.decide_eq_true, Bool.and_true, Bool.true_and, Bool.and_false, Bool.false_and, Bool.or_true, Bool.true_or, Bool.or_false, Bool.false_or, Bool.not_true, Bool.not_false, Bool.false_eq_true, Bool.not_eq_true', decide_true, decide_false, if_true, if_false, decide_eq_true_eq, decide_eq_false_iff_not, Int.cast_ofNat_Int, true_and, false_and, and_true, and_false, not_true_eq_false, not_false_eq_true, Int.reduceAdd, Int.reduceSub, Int.reduceMul, Int.reduceLT, Int.reduceLE, Int.reduceEq, Int.reduceNe, List.length_cons, List.length_nil, ↓reduceIte, Nat.reduceAdd, Nat.reduceBEq, Nat.reduceEqDiff, Nat.reduceLeDiff, Int.reduceNeg, reduceCtorEq]
  · have ht' : isTy .tuple d = false := by simpa using htup
    rw [notTupR t ht']
    simp only [B__law_reason, ht', reaD, kx0, kx1, kx2, sx0, sx1, sx2, sx3, sx4, sx5, sx6, sx7, nm1, List.contains_nil, List.contains_cons, List.all_nil, List.all_cons, List.isEmpty_nil, List.isEmpty_cons, List.map_cons, List.map_nil, Bool.decide_eq_true, Bool.and_true, Bool.true_and, Bool.and_false, Bool.false_and, Bool.or_true, Bool.true_or, Bool.or_false, Bool.false_or, Bool.not_true, Bool.not_false, Bool.false_eq_true, Bool.not_eq_true', decide_true, decide_false, if_true, if_false, decide_eq_true_eq, decide_eq_false_iff_not, Int.cast_ofNat_Int, true_and, false_and, and_true, and_false, not_true_eq_false, not_false_eq_true, Int.reduceAdd, Int.reduceSub, Int.reduceMul, Int.reduceLT, Int.reduceLE, Int.reduceEq, Int.reduceNe, List.length_cons, List.length_nil, ↓reduceIte, Nat.reduceAdd, Nat.reduceBEq, Nat.reduceEqDiff, Nat.reduceLeDiff, Int.reduceNeg, reduceCtorEq]

/-! told -/
theorem told_0 (m : Nat) (t : List Blk) (ht : TV t) : SF.run T sub 100 (m + 7) 43 [.int 0, encT t, .none] = .ok ⟨standsD t, false, []⟩ := by
  rw [r__law_told]
  have h := fun m => stands_ok m t ht
  simp only [encT] at h ⊢
  simp only [B__law_told, L__law_told_2, L__law_told_1, h, kx0, kx1, kx2, sx0, sx1, sx2, sx3, sx4, sx5, sx6, sx7, nm1, List.contains_nil, List.contains_cons, List.all_nil, List.all_cons, List.isEmpty_nil, List.isEmpty_cons, List.map_cons, List.map_nil, Bool.decide_eq_true, Bool.and_true, Bool.true_and, Bool.and_false, Bool.false_and, Bool.or_true, Bool.true_or, Bool.or_false, Bool.false_or, Bool.not_true, Bool.not_false, Bool.false_eq_true, Bool.not_eq_true', decide_true, decide_false, if_true, if_false, decide_eq_true_eq, decide_eq_false_iff_not, Int.cast_ofNat_Int, true_and, false_and, and_true, and_false, not_true_eq_false, not_false_eq_true, Int.reduceAdd, Int.reduceSub, Int.reduceMul, Int.reduceLT, Int.reduceLE, Int.reduceEq, Int.reduceNe, List.length_cons, List.length_nil, ↓reduceIte, Nat.reduceAdd, Nat.reduceBEq, Nat.reduceEqDiff, Nat.reduceLeDiff, Int.reduceNeg, reduceCtorEq]
theorem told_1 (m : Nat) (t : List Blk) (ht : TV t) : SF.run T sub 100 (m + 7) 43 [.int 1, encT t, .none] = .ok ⟨.tuple ((List.range t.length).map fun k => encR (ctr t k)), false, []⟩ := by
  rw [r__law_told]
  have h := fun m => centres_ok m t ht
  simp only [encT] at h ⊢
  simp only [B__law_told, L__law_told_2, L__law_told_1, h, kx0, kx1, kx2, sx0, sx1, sx2, sx3, sx4, sx5, sx6, sx7, nm1, List.contains_nil, List.contains_cons, List.all_nil, List.all_cons, List.isEmpty_nil, List.isEmpty_cons, List.map_cons, List.map_nil, Bool.decide_eq_true, Bool.and_true, Bool.true_and, Bool.and_false, Bool.false_and, Bool.or_true, Bool.true_or, Bool.or_false, Bool.false_or, Bool.not_true, Bool.not_false, Bool.false_eq_true, Bool.not_eq_true', decide_true, decide_false, if_true, if_false, decide_eq_true_eq, decide_eq_false_iff_not, Int.cast_ofNat_Int, true_and, false_and, and_true, and_false, not_true_eq_false, not_false_eq_true, Int.reduceAdd, Int.reduceSub, Int.reduceMul, Int.reduceLT, Int.reduceLE, Int.reduceEq, Int.reduceNe, List.length_cons, List.length_nil, ↓reduceIte, Nat.reduceAdd, Nat.reduceBEq, Nat.reduceEqDiff, Nat.reduceLeDiff, Int.reduceNeg, reduceCtorEq]
theorem told_2 (m : Nat) (t : List Blk) (ht : TV t) : SF.run T sub 100 (m + 7) 43 [.int 2, encT t, .none] = .ok ⟨raisedD t, false, []⟩ := by
  rw [r__law_told]
  have h := fun m => raised_ok m t ht
  simp only [encT] at h ⊢
  simp only [B__law_told, L__law_told_2, L__law_told_1, h, kx0, kx1, kx2, sx0, sx1, sx2, sx3, sx4, sx5, sx6, sx7, nm1, List.contains_nil, List.contains_cons, List.all_nil, List.all_cons, List.isEmpty_nil, List.isEmpty_cons, List.map_cons, List.map_nil, Bool.decide_eq_true, Bool.and_true, Bool.true_and, Bool.and_false, Bool.false_and, Bool.or_true, Bool.true_or, Bool.or_false, Bool.false_or, Bool.not_true, Bool.not_false, Bool.false_eq_true, Bool.not_eq_true', decide_true, decide_false, if_true, if_false, decide_eq_true_eq, decide_eq_false_iff_not, Int.cast_ofNat_Int, true_and, false_and, and_true, and_false, not_true_eq_false, not_false_eq_true, Int.reduceAdd, Int.reduceSub, Int.reduceMul, Int.reduceLT, Int.reduceLE, Int.reduceEq, Int.reduceNe, List.length_cons, List.length_nil, ↓reduceIte, Nat.reduceAdd, Nat.reduceBEq, Nat.reduceEqDiff, Nat.reduceLeDiff, Int.reduceNeg, reduceCtorEq]
def papD (o : Option Str) : D := match o with
  | none => .none
  | some r => .tuple [.str "paper", .str r]
theorem sub_22 : sub 2 2 = true := rfl
theorem sub_12 : sub 1 2 = false := rfl
theorem sub_11 : sub 1 1 = true := rfl
theorem told_3 (m : Nat) (t : List Blk) (ht : TV t) (d : D) (hs : smallIs d = true) : SF.run T sub 100 (m + 7) 43 [.int 3, encT t, d] = .ok ⟨papD (rsn t d), false, []⟩ := by
  rw [r__law_told]
  have h := fun m => accept_stands_ok m t ht d hs
  simp only [encT] at h ⊢
  cases hr : rsn t d with
  | none =>
    simp only [hr, ends] at h
    simp only [B__law_told, L__law_told_2, L__law_told_1, h, papD, kx0, kx1, kx2, sx0, sx1, sx2, sx3, sx4, sx5, sx6, sx7, nm1, List.contains_nil, List.contains_cons, List.all_nil, List.all_cons, List.isEmpty_nil, List.isEmpty_cons, List.map_cons, List.map_nil, Bool.decide_eq_true, Bool.and_true, Bool.true_and, Bool.and_false, Bool.false_and, Bool.or_true, Bool.true_or, Bool.or_false, Bool.false_or, Bool.not_true, Bool.not_false, Bool.false_eq_true, Bool.not_eq_true', decide_true, decide_false, if_true, if_false, decide_eq_true_eq, decide_eq_false_iff_not, Int.cast_ofNat_Int, true_and, false_and, and_true, and_false, not_true_eq_false, not_false_eq_true, Int.reduceAdd, Int.reduceSub, Int.reduceMul, Int.reduceLT, Int.reduceLE, Int.reduceEq, Int.reduceNe, List.length_cons, List.length_nil, ↓reduceIte, Nat.reduceAdd, Nat.reduceBEq, Nat.reduceEqDiff, Nat.reduceLeDiff, Int.reduceNeg, reduceCtorEq]
  | some r =>
    simp only [hr, ends] at h
    simp only [B__law_told, L__law_told_2, L__law_told_1, h, papD, sub_22, Option.bind_some, Option.map_some, kx0, kx1, kx2, sx0, sx1, sx2, sx3, sx4, sx5, sx6, sx7, nm1, List.contains_nil, List.contains_cons, List.all_nil, List.all_cons, List.isEmpty_nil, List.isEmpty_cons, List.map_cons, List.map_nil, Bool.decide_eq_true, Bool.and_true, Bool.true_and, Bool.and_false, Bool.false_and, Bool.or_true, Bool.true_or, Bool.or_false, Bool.false_or, Bool.not_true, Bool.not_false, Bool.false_eq_true, Bool.not_eq_true', decide_true, decide_false, if_true, if_false, decide_eq_true_eq, decide_eq_false_iff_not, Int.cast_ofNat_Int, true_and, false_and, and_true, and_false, not_true_eq_false, not_false_eq_true, Int.reduceAdd, Int.reduceSub, Int.reduceMul, Int.reduceLT, Int.reduceLE, Int.reduceEq, Int.reduceNe, List.length_cons, List.length_nil, ↓reduceIte, Nat.reduceAdd, Nat.reduceBEq, Nat.reduceEqDiff, Nat.reduceLeDiff, Int.reduceNeg, reduceCtorEq]
/-- a value that is no tower -/
def NoTower (d : D) : Prop := ∀ m, SF.run T sub 100 (m + 4) 16 [d] = .ex 1 [.str "tower"]
theorem no_stands (d : D) (h : NoTower d) (m : Nat) : SF.run T sub 100 (m + 6) 23 [d] = .ex 1 [.str "tower"] := by
  rw [r_stands]; simp only [B_stands, h _, kx0, kx1, kx2, sx0, sx1, sx2, sx3, sx4, sx5, sx6, sx7, nm1, List.contains_nil, List.contains_cons, List.all_nil, List.all_cons, List.isEmpty_nil, List.isEmpty_cons, List.map_cons, List.map_nil, Bool.decide_eq_true, Bool.and_true, Bool.true_and, Bool.and_false, Bool.false_and, Bool.or_true, Bool.true_or, Bool.or_false, Bool.false_or, Bool.not_true, Bool.not_false, Bool.false_eq_true, Bool.not_eq_true', decide_true, decide_false, if_true, if_false, decide_eq_true_eq, decide_eq_false_iff_not, Int.cast_ofNat_Int, true_and, false_and, and_true, and_false, not_true_eq_false, not_false_eq_true, Int.reduceAdd, Int.reduceSub, Int.reduceMul, Int.reduceLT, Int.reduceLE, Int.reduceEq, Int.reduceNe, List.length_cons, List.length_nil, ↓reduceIte, Nat.reduceAdd, Nat.reduceBEq, Nat.reduceEqDiff, Nat.reduceLeDiff, Int.reduceNeg, reduceCtorEq]
theorem no_centres (d : D) (h : NoTower d) (m : Nat) : SF.run T sub 100 (m + 5) 21 [d] = .ex 1 [.str "tower"] := by
  rw [r_centres]; simp only [B_centres, h _, kx0, kx1, kx2, sx0, sx1, sx2, sx3, sx4, sx5, sx6, sx7, nm1, List.contains_nil, List.contains_cons, List.all_nil, List.all_cons, List.isEmpty_nil, List.isEmpty_cons, List.map_cons, List.map_nil, Bool.decide_eq_true, Bool.and_true, Bool.true_and, Bool.and_false, Bool.false_and, Bool.or_true, Bool.true_or, Bool.or_false, Bool.false_or, Bool.not_true, Bool.not_false, Bool.false_eq_true, Bool.not_eq_true', decide_true, decide_false, if_true, if_false, decide_eq_true_eq, decide_eq_false_iff_not, Int.cast_ofNat_Int, true_and, false_and, and_true, and_false, not_true_eq_false, not_false_eq_true, Int.reduceAdd, Int.reduceSub, Int.reduceMul, Int.reduceLT, Int.reduceLE, Int.reduceEq, Int.reduceNe, List.length_cons, List.length_nil, ↓reduceIte, Nat.reduceAdd, Nat.reduceBEq, Nat.reduceEqDiff, Nat.reduceLeDiff, Int.reduceNeg, reduceCtorEq]
theorem no_raised (d : D) (h : NoTower d) (m : Nat) : SF.run T sub 100 (m + 5) 25 [d] = .ex 1 [.str "tower"] := by
  rw [r_raised]; simp only [B_raised, h _, kx0, kx1, kx2, sx0, sx1, sx2, sx3, sx4, sx5, sx6, sx7, nm1, List.contains_nil, List.contains_cons, List.all_nil, List.all_cons, List.isEmpty_nil, List.isEmpty_cons, List.map_cons, List.map_nil, Bool.decide_eq_true, Bool.and_true, Bool.true_and, Bool.and_false, Bool.false_and, Bool.or_true, Bool.true_or, Bool.or_false, Bool.false_or, Bool.not_true, Bool.not_false, Bool.false_eq_true, Bool.not_eq_true', decide_true, decide_false, if_true, if_false, decide_eq_true_eq, decide_eq_false_iff_not, Int.cast_ofNat_Int, true_and, false_and, and_true, and_false, not_true_eq_false, not_false_eq_true, Int.reduceAdd, Int.reduceSub, Int.reduceMul, Int.reduceLT, Int.reduceLE, Int.reduceEq, Int.reduceNe, List.length_cons, List.length_nil, ↓reduceIte, Nat.reduceAdd, Nat.reduceBEq, Nat.reduceEqDiff, Nat.reduceLeDiff, Int.reduceNeg, reduceCtorEq]
theorem no_accept (d e : D) (h : NoTower d) (m : Nat) : SF.run T sub 100 (m + 5) 24 [d, e] = .ex 1 [.str "tower"] := by
  rw [r_accept_stands]; simp only [B_accept_stands, h _, kx0, kx1, kx2, sx0, sx1, sx2, sx3, sx4, sx5, sx6, sx7, nm1, List.contains_nil, List.contains_cons, List.all_nil, List.all_cons, List.isEmpty_nil, List.isEmpty_cons, List.map_cons, List.map_nil, Bool.decide_eq_true, Bool.and_true, Bool.true_and, Bool.and_false, Bool.false_and, Bool.or_true, Bool.true_or, Bool.or_false, Bool.false_or, Bool.not_true, Bool.not_false, Bool.false_eq_true, Bool.not_eq_true', decide_true, decide_false, if_true, if_false, decide_eq_true_eq, decide_eq_false_iff_not, Int.cast_ofNat_Int, true_and, false_and, and_true, and_false, not_true_eq_false, not_false_eq_true, Int.reduceAdd, Int.reduceSub, Int.reduceMul, Int.reduceLT, Int.reduceLE, Int.reduceEq, Int.reduceNe, List.length_cons, List.length_nil, ↓reduceIte, Nat.reduceAdd, Nat.reduceBEq, Nat.reduceEqDiff, Nat.reduceLeDiff, Int.reduceNeg, reduceCtorEq]
theorem no_room (d e : D) (h : NoTower d) (m : Nat) : SF.run T sub 100 (m + 5) 26 [d, e] = .ex 1 [.str "tower"] := by
  rw [r_room]; simp only [B_room, h _, kx0, kx1, kx2, sx0, sx1, sx2, sx3, sx4, sx5, sx6, sx7, nm1, List.contains_nil, List.contains_cons, List.all_nil, List.all_cons, List.isEmpty_nil, List.isEmpty_cons, List.map_cons, List.map_nil, Bool.decide_eq_true, Bool.and_true, Bool.true_and, Bool.and_false, Bool.false_and, Bool.or_true, Bool.true_or, Bool.or_false, Bool.false_or, Bool.not_true, Bool.not_false, Bool.false_eq_true, Bool.not_eq_true', decide_true, decide_false, if_true, if_false, decide_eq_true_eq, decide_eq_false_iff_not, Int.cast_ofNat_Int, true_and, false_and, and_true, and_false, not_true_eq_false, not_false_eq_true, Int.reduceAdd, Int.reduceSub, Int.reduceMul, Int.reduceLT, Int.reduceLE, Int.reduceEq, Int.reduceNe, List.length_cons, List.length_nil, ↓reduceIte, Nat.reduceAdd, Nat.reduceBEq, Nat.reduceEqDiff, Nat.reduceLeDiff, Int.reduceNeg, reduceCtorEq]
theorem told_no (d : D) (h : NoTower d) (k : Nat) (hk : k < 5) (m : Nat) : SF.run T sub 100 (m + 7) 43 [.int k, d, .none] = .ok ⟨.tuple [.str "argument", .str "tower"], false, []⟩ := by
  rw [r__law_told]
  match k, hk with
  | 0, _ => simp only [B__law_told, L__law_told_2, L__law_told_1, no_stands d h, sub_12, sub_11, Option.bind_some, Option.map_some, kx0, kx1, kx2, sx0, sx1, sx2, sx3, sx4, sx5, sx6, sx7, nm1, List.contains_nil, List.contains_cons, List.all_nil, List.all_cons, List.isEmpty_nil, List.isEmpty_cons, List.map_cons, List.map_nil, Bool.decide_eq_true, Bool.and_true, Bool.true_and, Bool.and_false, Bool.false_and, Bool.or_true, Bool.true_or, Bool.or_false, Bool.false_or, Bool.not_true, Bool.not_false, Bool.false_eq_true, Bool.not_eq_true', decide_true, decide_false, if_true, if_false, decide_eq_true_eq, decide_eq_false_iff_not, Int.cast_ofNat_Int, true_and, false_and, and_true, and_false, not_true_eq_false, not_false_eq_true, Int.reduceAdd, Int.reduceSub, Int.reduceMul, Int.reduceLT, Int.reduceLE, Int.reduceEq, Int.reduceNe, List.length_cons, List.length_nil, ↓reduceIte, Nat.reduceAdd, Nat.reduceBEq, Nat.reduceEqDiff, Nat.reduceLeDiff, Int.reduceNeg, reduceCtorEq]
  | 1, _ => simp only [B__law_told, L__law_told_2, L__law_told_1, no_centres d h, sub_12, sub_11, Option.bind_some, Option.map_some, kx0, kx1, kx2, sx0, sx1, sx2, sx3, sx4, sx5, sx6, sx7, nm1, List.contains_nil, List.contains_cons, List.all_nil, List.all_cons, List.isEmpty_nil, List.isEmpty_cons, List.map_cons, List.map_nil, Bool.decide_eq_true, Bool.and_true, Bool.true_and, Bool.and_false, Bool.false_and, Bool.or_true, Bool.true_or, Bool.or_false, Bool.false_or, Bool.not_true, Bool.not_false, Bool.false_eq_true, Bool.not_eq_true', decide_true, decide_false, if_true, if_false, decide_eq_true_eq, decide_eq_false_iff_not, Int.cast_ofNat_Int, true_and, false_and, and_true, and_false, not_true_eq_false, not_false_eq_true, Int.reduceAdd, Int.reduceSub, Int.reduceMul, Int.reduceLT, Int.reduceLE, Int.reduceEq, Int.reduceNe, List.length_cons, List.length_nil, ↓reduceIte, Nat.reduceAdd, Nat.reduceBEq, Nat.reduceEqDiff, Nat.reduceLeDiff, Int.reduceNeg, reduceCtorEq]
  | 2, _ => simp only [B__law_told, L__law_told_2, L__law_told_1, no_raised d h, sub_12, sub_11, Option.bind_some, Option.map_some, kx0, kx1, kx2, sx0, sx1, sx2, sx3, sx4, sx5, sx6, sx7, nm1, List.contains_nil, List.contains_cons, List.all_nil, List.all_cons, List.isEmpty_nil, List.isEmpty_cons, List.map_cons, List.map_nil, Bool.decide_eq_true, Bool.and_true, Bool.true_and, Bool.and_false, Bool.false_and, Bool.or_true, Bool.true_or, Bool.or_false, Bool.false_or, Bool.not_true, Bool.not_false, Bool.false_eq_true, Bool.not_eq_true', decide_true, decide_false, if_true, if_false, decide_eq_true_eq, decide_eq_false_iff_not, Int.cast_ofNat_Int, true_and, false_and, and_true, and_false, not_true_eq_false, not_false_eq_true, Int.reduceAdd, Int.reduceSub, Int.reduceMul, Int.reduceLT, Int.reduceLE, Int.reduceEq, Int.reduceNe, List.length_cons, List.length_nil, ↓reduceIte, Nat.reduceAdd, Nat.reduceBEq, Nat.reduceEqDiff, Nat.reduceLeDiff, Int.reduceNeg, reduceCtorEq]
  | 3, _ => simp only [B__law_told, L__law_told_2, L__law_told_1, no_accept d _ h, sub_12, sub_11, Option.bind_some, Option.map_some, kx0, kx1, kx2, sx0, sx1, sx2, sx3, sx4, sx5, sx6, sx7, nm1, List.contains_nil, List.contains_cons, List.all_nil, List.all_cons, List.isEmpty_nil, List.isEmpty_cons, List.map_cons, List.map_nil, Bool.decide_eq_true, Bool.and_true, Bool.true_and, Bool.and_false, Bool.false_and, Bool.or_true, Bool.true_or, Bool.or_false, Bool.false_or, Bool.not_true, Bool.not_false, Bool.false_eq_true, Bool.not_eq_true', decide_true, decide_false, if_true, if_false, decide_eq_true_eq, decide_eq_false_iff_not, Int.cast_ofNat_Int, true_and, false_and, and_true, and_false, not_true_eq_false, not_false_eq_true, Int.reduceAdd, Int.reduceSub, Int.reduceMul, Int.reduceLT, Int.reduceLE, Int.reduceEq, Int.reduceNe, List.length_cons, List.length_nil, ↓reduceIte, Nat.reduceAdd, Nat.reduceBEq, Nat.reduceEqDiff, Nat.reduceLeDiff, Int.reduceNeg, reduceCtorEq]
  | 4, _ => simp only [B__law_told, L__law_told_2, L__law_told_1, no_room d _ h, sub_12, sub_11, Option.bind_some, Option.map_some, kx0, kx1, kx2, sx0, sx1, sx2, sx3, sx4, sx5, sx6, sx7, nm1, List.contains_nil, List.contains_cons, List.all_nil, List.all_cons, List.isEmpty_nil, List.isEmpty_cons, List.map_cons, List.map_nil, Bool.decide_eq_true, Bool.and_true, Bool.true_and, Bool.and_false, Bool.false_and, Bool.or_true, Bool.true_or, Bool.or_false, Bool.false_or, Bool.not_true, Bool.not_false, Bool.false_eq_true, Bool.not_eq_true', decide_true, decide_false, if_true, if_false, decide_eq_true_eq, decide_eq_false_iff_not, Int.cast_ofNat_Int, true_and, false_and, and_true, and_false, not_true_eq_false, not_false_eq_true, Int.reduceAdd, Int.reduceSub, Int.reduceMul, Int.reduceLT, Int.reduceLE, Int.reduceEq, Int.reduceNe, List.length_cons, List.length_nil, ↓reduceIte, Nat.reduceAdd, Nat.reduceBEq, Nat.reduceEqDiff, Nat.reduceLeDiff, Int.reduceNeg, reduceCtorEq]
def rowA : D := .tuple [.str "a", .int 0, .int 5, .int 1]
def farT : D := .tuple ((List.range 13).map fun (n : Nat) => .tuple [.str (("n" : Str) ++ (Str.ofString (toString (n : Int)))), .int 0, .int 5, .int 1])
def wrongs : List D := [.none, .tuple [], .tuple [rowA, rowA], .tuple [rowA, .tuple [.str "b", .int 6, .int 5, .int 1]], .tuple [rowA, .tuple [.str "b", .int (-6), .int 5, .int 1]],
  .tuple [.tuple [.str "a", .int 0, .int 5]], .tuple [.tuple [.str "a", .int 0, .int 0, .int 1]], .tuple [.tuple [.str "a", .int 1001, .int 5, .int 1]],
  .tuple [.tuple [.str "a", .int 0, .int 1001, .int 1]], .tuple [.tuple [.str "a", .int 0, .int 5, .int 0]], .tuple [.tuple [.int 5, .int 0, .int 5, .int 1]], .tuple [.tuple [.str "a", .bool true, .int 5, .int 1]],
  farT, .str "tower", .tuple [.tuple [.str "a", .int 0, .int 5, .int 1000001]]]
theorem wrong_all : ∀ d ∈ wrongs, NoTower d := by
  unfold wrongs
  simp only [List.forall_mem_cons]
  refine ⟨fun m => ?_, fun m => ?_, fun m => ?_, fun m => ?_, fun m => ?_, fun m => ?_, fun m => ?_, fun m => ?_, fun m => ?_, fun m => ?_, fun m => ?_, fun m => ?_, fun m => ?_, fun m => ?_, fun m => ?_, fun _ h => nomatch h⟩ <;> kernel_rfl

/-! the towers that the law makes -/
def nmL : List Str := ["a", "", "A b", ⟨(List.replicate 30 (("x" : Str).cps)).foldl (· ++ ·) #[]⟩, "0"]
def nmAt (k : Nat) : Str := if k < 5 then nmL.getD k "" else ("n" : Str) ++ Str.ofString (toString (k : Int))
theorem nm_nodup : ((List.range 12).map nmAt).Nodup := by decide +kernel
theorem nm_ok : ∀ k, k < 12 → PyData.strOk (nmAt k) = true := by decide +kernel
theorem y_neg1 (i : Int) : op1 .neg (.int i) = .ok (.int (-i), false) := rfl
theorem mul30 : op2 .mul (.str "x") (.int 30) = .ok (.str ⟨(List.replicate 30 (("x" : Str).cps)).foldl (· ++ ·) #[]⟩, false) := by
  show (if 2 ≤ (30 : Int) ∧ (30 : Int) ≤ 1000 ∧ 1 ≤ ("x" : Str).length ∧ ("x" : Str).length ≤ 1000 then val (.str ⟨(List.replicate (30 : Int).toNat ("x" : Str).cps).foldl (· ++ ·) #[]⟩) else .no) = _
  rw [if_pos (by decide)]; rfl
/-- a tower so far, and the block that comes next -/
structure TS (t : List Blk) (l w : Int) : Prop where
  bt : ∀ b ∈ t, BOk b
  nm : t.map (·.nm) = (List.range t.length).map nmAt
  lr : -1000 ≤ l ∧ l ≤ 1000
  wr : 1 ≤ w ∧ w ≤ 1000
  ct : ∀ k, k < t.length → (ctc t k).1 ≤ (ctc t k).2
  nx : ∀ b, t.getLast? = some b → b.l ≤ l + w ∧ l ≤ b.l + b.w
theorem ctc_app {t : List Blk} {b : Blk} {k : Nat} (h : k < t.length) : ctc (t ++ [b]) k = ctc t k := by
  unfold ctc
  rw [List.getElem?_append_left h]
  by_cases h0 : k = 0
  · simp [h0]
  · simp only [h0, if_false]
    rw [List.getElem?_append_left (by omega)]
theorem ctc_last {t : List Blk} {b : Blk} : ctc (t ++ [b]) t.length = match t.getLast? with | none => (b.l, b.l + b.w) | some c => (max b.l c.l, min (b.l + b.w) (c.l + c.w)) := by
  unfold ctc
  rw [List.getElem?_append_right (Nat.le_refl _), Nat.sub_self]
  by_cases h0 : t.length = 0
  · have := List.eq_nil_of_length_eq_zero h0
    subst this; rfl
  · simp only [h0, if_false]
    rw [List.getElem?_append_left (by omega), List.getLast?_eq_getElem?]
    have : t[t.length - 1]? = some (t[t.length - 1]'(by omega)) := List.getElem?_eq_getElem _
    rw [this]; rfl
theorem TS.push {t : List Blk} {l w l' w' g : Int} (h : TS t l w) (ht : t.length < 12) (hg : 1 ≤ g ∧ g ≤ 1000000) (hl : -1000 ≤ l' ∧ l' ≤ 1000) (hw : 1 ≤ w' ∧ w' ≤ 1000)
    (hx : l ≤ l' + w' ∧ l' ≤ l + w) : TS (t ++ [⟨nmAt t.length, l, w, g⟩]) l' w' := by
  refine ⟨fun b hb => ?_, ?_, hl, hw, fun k hk => ?_, fun b hb => ?_⟩
  · rcases List.mem_append.mp hb with h1 | h1
    · exact h.bt b h1
    · cases List.mem_singleton.mp h1
      exact ⟨h.lr, h.wr, hg, nm_ok _ ht⟩
  · rw [List.map_append, h.nm, List.length_append, List.length_singleton, List.range_succ, List.map_append]; rfl
  · rw [List.length_append, List.length_singleton] at hk
    by_cases h1 : k < t.length
    · rw [ctc_app h1]; exact h.ct k h1
    · have : k = t.length := by omega
      subst this
      rw [ctc_last]
      have hw := h.wr
      cases hc : t.getLast? with
      | none => simp only; omega
      | some c =>
        have := h.nx c hc
        have hb := h.bt c (List.mem_of_getLast? hc)
        unfold BOk at hb
        simp only; omega
  · rw [List.getLast?_concat] at hb
    cases hb
    exact hx
theorem TS.valid {t : List Blk} {l w : Int} (h : TS t l w) (hn : t ≠ []) (ht : t.length ≤ 12) : TV t := by
  refine ⟨⟨h.bt, ht⟩, hn, ?_, h.ct⟩
  rw [h.nm]
  have : (List.range t.length).map nmAt = ((List.range 12).map nmAt).take t.length := by
    rw [← List.map_take, List.take_range, Nat.min_eq_left ht]
  rw [this]
  exact nm_nodup.sublist (List.take_sublist ..)
theorem nm_k (k : Nat) (h : k < 5) : ([PyData.str "a", .str "", .str "A b", .str ⟨(List.replicate 30 (("x" : Str).cps)).foldl (· ++ ·) #[]⟩, .str "0"])[k]? = some (.str (nmAt k)) := by
  match k, h with
  | 0, _ => rfl
  | 1, _ => rfl
  | 2, _ => rfl
  | 3, _ => rfl
  | 4, _ => rfl
theorem len_n (k : Nat) (h : k < 12) : ("n" : Str).length + (Str.ofString (toString (k : Int))).length ≤ lim := by
  have := PyProof.Rows.int_text_len_1921 (i := (k : Int)) (by have := log2_le (show (k : Int).natAbs < 2 ^ 4 by omega); omega)
  have h1 : ("n" : Str).length = 1 := rfl
  have := lim_ge
  unfold lim; omega
def nmsD : D := .list [.str "a", .str "", .str "A b", .str ⟨(List.replicate 30 (("x" : Str).cps)).foldl (· ++ ·) #[]⟩, .str "0"]
theorem tower_turn (m : Nat) (mo : D) (ds : List Int) (hd : DrOk ds) (far : Int) (hfar : 1 ≤ far ∧ far ≤ 200) (t : List Blk) (l w : Int) (h : TS t l w) (ht : t.length < 12) (p : Nat) (hp : p < 100000) (s6 s9 s10 s11 s12 : Option D) :
    ∃ t' l' w' q9 q10 q11 q12, TS t' l' w' ∧ t'.length = t.length + 1 ∧
    foT T (SF.run T sub 100 (m + 3)) sub 100 (Tg.n 6) L__law_tower_1 (.int t.length) [.val mo, .val (encI ds), .io (.list [.int p]), .val (.int far), .own nmsD, .own (.list (t.map encB)), .opt s6, .val (.int l), .val (.int w), .opt s9, .opt s10, .opt s11, .opt s12] =
      .ok (.nx, [.val mo, .val (encI ds), .io (.list [.int ((p + 5 : Nat) : Int)]), .val (.int far), .own nmsD, .own (.list (t'.map encB)), .val (.int t.length), .val (.int l'), .val (.int w'), .opt q9, .opt q10, .opt q11, .opt q12]) := by
  have hpl : ∀ k, k ≤ 10 → PlOk (p + k) := fun k hk => by unfold PlOk; omega
  obtain ⟨v1, hv1, e1⟩ := one_int ds p [1, 5, 1000000] hd (hpl 0 (by omega)) (by simp)
  have hv1 : 1 ≤ v1 ∧ v1 ≤ 1000000 := by simp at hv1; omega
  obtain ⟨v2, hv2, e2⟩ := take_ex ds (p + 1) v1 hd (hpl 1 (by omega)) (by omega)
  obtain ⟨v3, hv3, e3⟩ := take_ex ds (p + 1 + 1) far hd (hpl 2 (by omega)) (by omega)
  obtain ⟨v4, hv4, e4⟩ := take_ex ds (p + 1 + 1 + 1) (l + w - (l - (1 + v3)) + 1) hd (hpl 3 (by omega)) (by have := h.wr; omega)
  obtain ⟨nd, hnd, e5⟩ := one_l ds (p + 1 + 1 + 1 + 1) [.int (l + (w - (1 + v3)) / 2), .int (l - (1 + v3) + v4), .int l, .int (l + w), .int (l - (1 + v3))] hd (hpl 4 (by omega)) (by simp)
  obtain ⟨near, rfl⟩ : ∃ v, nd = .int v := by
    simp only [List.mem_cons, List.not_mem_nil, or_false] at hnd
    rcases hnd with h | h | h | h | h <;> exact ⟨_, h⟩
  have hlast : ∀ g, L2.atI (t.map encB ++ [.tuple [.str (nmAt t.length), .int l, .int w, .int g]]) (-1) = some (.tuple [.str (nmAt t.length), .int l, .int w, .int g]) := fun g => by
    rw [at_m1, List.getLast?_concat]
  have hlim : (t.map encB).length < lim := by rw [List.length_map]; have := lim_ge; omega
  have hname : ∀ nv : Nv, (evB T (SF.run T sub 100 (m + 3)) (CE.ite (CE.o2 Op2.lt (CE.v 6) (CE.k (.int 5))) (CE.o2 Op2.at (CE.v 4) (CE.v 6)) (CE.o2 Op2.add (CE.k (.str "n")) (CE.o1 Op1.str (CE.v 6))))).v [.val mo, .val (encI ds), .io (.list [.int p]), .val (.int far), .own nmsD, .own (.list (t.map encB)), .val (.int t.length), .val (.int l), .val (.int w), .opt s9, .opt s10, .opt s11, .opt s12] = .ok (.str (nmAt t.length), false, [.val mo, .val (encI ds), .io (.list [.int p]), .val (.int far), .own nmsD, .own (.list (t.map encB)), .val (.int t.length), .val (.int l), .val (.int w), .opt s9, .opt s10, .opt s11, .opt s12]) := by
    intro nv
    by_cases c : t.length < 5
    · have c' : (t.length : Int) < 5 := by omega
      have hk := nm_k t.length c
      simp only [c', nmsD, at_n, hk, sx0, sx1, sx2, sx3, sx4, sx5, sx6, sx7, nm1, List.contains_nil, List.contains_cons, List.all_nil, List.all_cons, List.isEmpty_nil, List.isEmpty_cons, List.map_cons, List.map_nil, Bool.decide_eq_true, Bool.and_true, Bool.true_and, Bool.and_false, Bool.false_and, Bool.or_true, Bool.true_or, Bool.or_false, Bool.false_or, Bool.not_true, Bool.not_false, Bool.false_eq_true, Bool.not_eq_true', decide_true, decide_false, if_true, if_false, decide_eq_true_eq, decide_eq_false_iff_not, Int.cast_ofNat_Int, true_and, false_and, and_true, and_false, not_true_eq_false, not_false_eq_true, Int.reduceAdd, Int.reduceSub, Int.reduceMul, Int.reduceLT, Int.reduceLE, Int.reduceEq, Int.reduceNe, List.length_cons, List.length_nil, ↓reduceIte, Nat.reduceAdd, Nat.reduceBEq, Nat.reduceEqDiff, Nat.reduceLeDiff, Int.reduceNeg, reduceCtorEq]
    · have c' : ¬ (t.length : Int) < 5 := by omega
      have hs := y_str (t.length : Int) (by have := log2_le (show (t.length : Int).natAbs < 2 ^ 4 by omega); omega)
      have hln := len_n t.length ht
      have ha := x_addS ("n" : Str) (Str.ofString (toString (t.length : Int))) hln
      have hn : nmAt t.length = ("n" : Str) ++ Str.ofString (toString (t.length : Int)) := by unfold nmAt; rw [if_neg c]
      simp only [c', hs, ha, hn, sx0, sx1, sx2, sx3, sx4, sx5, sx6, sx7, nm1, List.contains_nil, List.contains_cons, List.all_nil, List.all_cons, List.isEmpty_nil, List.isEmpty_cons, List.map_cons, List.map_nil, Bool.decide_eq_true, Bool.and_true, Bool.true_and, Bool.and_false, Bool.false_and, Bool.or_true, Bool.true_or, Bool.or_false, Bool.false_or, Bool.not_true, Bool.not_false, Bool.false_eq_true, Bool.not_eq_true', decide_true, decide_false, if_true, if_false, decide_eq_true_eq, decide_eq_false_iff_not, Int.cast_ofNat_Int, true_and, false_and, and_true, and_false, not_true_eq_false, not_false_eq_true, Int.reduceAdd, Int.reduceSub, Int.reduceMul, Int.reduceLT, Int.reduceLE, Int.reduceEq, Int.reduceNe, List.length_cons, List.length_nil, ↓reduceIte, Nat.reduceAdd, Nat.reduceBEq, Nat.reduceEqDiff, Nat.reduceLeDiff, Int.reduceNeg, reduceCtorEq]
  have hname := hname []
  generalize hgen : (CE.ite (CE.o2 Op2.lt (CE.v 6) (CE.k (.int 5))) (CE.o2 Op2.at (CE.v 4) (CE.v 6)) (CE.o2 Op2.add (CE.k (.str "n")) (CE.o1 Op1.str (CE.v 6)))) = ce at hname
  have hfd := x_fdiv (w - (1 + v3)) 2 (by decide) (by decide)
  have hB : (t ++ [(⟨nmAt t.length, l, w, 1 + v2⟩ : Blk)]).map encB = t.map encB ++ [.tuple [.str (nmAt t.length), .int l, .int w, .int (1 + v2)]] := by rw [List.map_append]; rfl
  have hw := h.wr
  have hlr := h.lr
  obtain ⟨l2, hl2⟩ : ∃ l2, l2 = max (-1000) (min 1000 near) := ⟨_, rfl⟩
  have hl2r : -1000 ≤ l2 ∧ l2 ≤ 1000 := by omega
  have em : ∀ q : Nat, ((q + 1 : Nat) : Int) = ((q + 1 : Nat) : Int) := fun _ => rfl
  by_cases c1 : l ≤ l2 + (1 + v3)
  · by_cases c2 : l2 ≤ l + w
    · refine ⟨t ++ [⟨nmAt t.length, l, w, 1 + v2⟩], l2, 1 + v3, some (.int (1 + v3)), some (.int near), some (.int (l - (1 + v3))), some (.int (l + w)), h.push ht ⟨by omega, by omega⟩ hl2r ⟨by omega, by omega⟩ ⟨c1, c2⟩, by simp, ?_⟩
      rw [hB]
      unfold L__law_tower_1
      rw [hgen]
      simp only [List.map_cons, List.map_nil] at e1
      rw [hl2] at c1 c2 ⊢
      simp only [foT, hname, e1, e2, e3, e4, e5, hfd, hlim, hlast, c1, c2, opt_some, kx0, kx1, kx2, sx0, sx1, sx2, sx3, sx4, sx5, sx6, sx7, nm1, List.contains_nil, List.contains_cons, List.all_nil, List.all_cons, List.isEmpty_nil, List.isEmpty_cons, List.map_cons, List.map_nil, Bool.decide_eq_true, Bool.and_true, Bool.true_and, Bool.and_false, Bool.false_and, Bool.or_true, Bool.true_or, Bool.or_false, Bool.false_or, Bool.not_true, Bool.not_false, Bool.false_eq_true, Bool.not_eq_true', decide_true, decide_false, if_true, if_false, decide_eq_true_eq, decide_eq_false_iff_not, Int.cast_ofNat_Int, true_and, false_and, and_true, and_false, not_true_eq_false, not_false_eq_true, Int.reduceAdd, Int.reduceSub, Int.reduceMul, Int.reduceLT, Int.reduceLE, Int.reduceEq, Int.reduceNe, List.length_cons, List.length_nil, ↓reduceIte, Nat.reduceAdd, Nat.reduceBEq, Nat.reduceEqDiff, Nat.reduceLeDiff, Int.reduceNeg, reduceCtorEq]
    · refine ⟨t ++ [⟨nmAt t.length, l, w, 1 + v2⟩], l, 1 + v3, some (.int (1 + v3)), some (.int near), some (.int (l - (1 + v3))), some (.int (l + w)), h.push ht ⟨by omega, by omega⟩ hlr ⟨by omega, by omega⟩ ⟨by omega, by omega⟩, by simp, ?_⟩
      rw [hB]
      unfold L__law_tower_1
      rw [hgen]
      simp only [List.map_cons, List.map_nil] at e1
      rw [hl2] at c1 c2
      simp only [foT, hname, e1, e2, e3, e4, e5, hfd, hlim, hlast, c1, c2, opt_some, kx0, kx1, kx2, sx0, sx1, sx2, sx3, sx4, sx5, sx6, sx7, nm1, List.contains_nil, List.contains_cons, List.all_nil, List.all_cons, List.isEmpty_nil, List.isEmpty_cons, List.map_cons, List.map_nil, Bool.decide_eq_true, Bool.and_true, Bool.true_and, Bool.and_false, Bool.false_and, Bool.or_true, Bool.true_or, Bool.or_false, Bool.false_or, Bool.not_true, Bool.not_false, Bool.false_eq_true, Bool.not_eq_true', decide_true, decide_false, if_true, if_false, decide_eq_true_eq, decide_eq_false_iff_not, Int.cast_ofNat_Int, true_and, false_and, and_true, and_false, not_true_eq_false, not_false_eq_true, Int.reduceAdd, Int.reduceSub, Int.reduceMul, Int.reduceLT, Int.reduceLE, Int.reduceEq, Int.reduceNe, List.length_cons, List.length_nil, ↓reduceIte, Nat.reduceAdd, Nat.reduceBEq, Nat.reduceEqDiff, Nat.reduceLeDiff, Int.reduceNeg, reduceCtorEq]
  · refine ⟨t ++ [⟨nmAt t.length, l, w, 1 + v2⟩], l, 1 + v3, some (.int (1 + v3)), some (.int near), some (.int (l - (1 + v3))), some (.int (l + w)), h.push ht ⟨by omega, by omega⟩ hlr ⟨by omega, by omega⟩ ⟨by omega, by omega⟩, by simp, ?_⟩
    rw [hB]
    unfold L__law_tower_1
    rw [hgen]
    simp only [List.map_cons, List.map_nil] at e1
    rw [hl2] at c1
    simp only [foT, hname, e1, e2, e3, e4, e5, hfd, hlim, hlast, c1, opt_some, kx0, kx1, kx2, sx0, sx1, sx2, sx3, sx4, sx5, sx6, sx7, nm1, List.contains_nil, List.contains_cons, List.all_nil, List.all_cons, List.isEmpty_nil, List.isEmpty_cons, List.map_cons, List.map_nil, Bool.decide_eq_true, Bool.and_true, Bool.true_and, Bool.and_false, Bool.false_and, Bool.or_true, Bool.true_or, Bool.or_false, Bool.false_or, Bool.not_true, Bool.not_false, Bool.false_eq_true, Bool.not_eq_true', decide_true, decide_false, if_true, if_false, decide_eq_true_eq, decide_eq_false_iff_not, Int.cast_ofNat_Int, true_and, false_and, and_true, and_false, not_true_eq_false, not_false_eq_true, Int.reduceAdd, Int.reduceSub, Int.reduceMul, Int.reduceLT, Int.reduceLE, Int.reduceEq, Int.reduceNe, List.length_cons, List.length_nil, ↓reduceIte, Nat.reduceAdd, Nat.reduceBEq, Nat.reduceEqDiff, Nat.reduceLeDiff, Int.reduceNeg, reduceCtorEq]

theorem tower_loop (m : Nat) (mo : D) (ds : List Int) (hd : DrOk ds) (far : Int) (hfar : 1 ≤ far ∧ far ≤ 200) (l w : Int) (h : TS [] l w) (p : Nat) (hp : p < 90000) (n : Nat) (hn : n ≤ 12) :
    ∃ t l' w' s6 s9 s10 s11 s12, TS t l' w' ∧ t.length = n ∧
    foR (foT T (SF.run T sub 100 (m + 3)) sub 100 (Tg.n 6) L__law_tower_1) ((List.range n).map fun (i : Nat) => PyData.int (i : Int)) [.val mo, .val (encI ds), .io (.list [.int p]), .val (.int far), .own nmsD, .own (.list []), .emp, .val (.int l), .val (.int w), .emp, .emp, .emp, .emp] =
      .ok (.nx, [.val mo, .val (encI ds), .io (.list [.int ((p + 5 * n : Nat) : Int)]), .val (.int far), .own nmsD, .own (.list (t.map encB)), .opt s6, .val (.int l'), .val (.int w'), .opt s9, .opt s10, .opt s11, .opt s12]) := by
  obtain ⟨nv', h1, t, l', w', s6, s9, s10, s11, s12, h2, h3, h4, h5⟩ := for_all (b := foT T (SF.run T sub 100 (m + 3)) sub 100 (Tg.n 6) L__law_tower_1) (fun (i : Nat) => PyData.int (i : Int))
    (fun rest nv => ∃ (t : List Blk) (l' w' : Int) (s6 s9 s10 s11 s12 : Option D), nv = [.val mo, .val (encI ds), .io (.list [.int ((p + 5 * t.length : Nat) : Int)]), .val (.int far), .own nmsD, .own (.list (t.map encB)), .opt s6, .val (.int l'), .val (.int w'), .opt s9, .opt s10, .opt s11, .opt s12] ∧ TS t l' w' ∧ t.length ≤ n ∧ rest = List.range' t.length (n - t.length))
    (List.range n) [.val mo, .val (encI ds), .io (.list [.int p]), .val (.int far), .own nmsD, .own (.list []), .emp, .val (.int l), .val (.int w), .emp, .emp, .emp, .emp]
    ⟨[], l, w, none, none, none, none, none, rfl, h, Nat.zero_le _, by rw [List.range_eq_range']; rfl⟩ (by
      rintro x rest nv ⟨t, l', w', s6, s9, s10, s11, s12, rfl, hts, hle, hr⟩
      have hlt : t.length < n := by
        rcases Nat.lt_or_ge t.length n with h | h
        · exact h
        · rw [show n - t.length = 0 by omega] at hr; cases hr
      rw [show n - t.length = (n - (t.length + 1)) + 1 by omega, List.range'_succ] at hr
      injection hr with hx hr
      subst hx
      obtain ⟨t', l2, w2, q9, q10, q11, q12, a1, a2, a3⟩ := tower_turn m mo ds hd far hfar t l' w' hts (by omega) (p + 5 * t.length) (by omega) s6 s9 s10 s11 s12
      refine ⟨_, a3, t', l2, w2, some (.int t.length), q9, q10, q11, q12, ?_, a1, by omega, by rw [a2]; exact hr⟩
      rw [a2, Nat.mul_add, ← Nat.add_assoc]; rfl)
  have : t.length = n := by
    have h5' := congrArg List.length h5
    rw [List.length_range'] at h5'
    have : ([] : List Nat).length = 0 := rfl
    omega
  rw [this] at h2
  exact ⟨t, l', w', s6, s9, s10, s11, s12, h3, this, by rw [h1, h2]⟩
theorem tower_ok (m : Nat) (ds : List Int) (hd : DrOk ds) (mx : Int) (hmx : 1 ≤ mx ∧ mx ≤ 12) (p : Nat) (hp : p < 80000) :
    ∃ t p', TV t ∧ p' ≤ p + 100 ∧ SF.run T sub 100 (m + 4) 31 [.int mx, encI ds, .list [.int p]] = .ok ⟨encT t, false, [.list [.int (p' : Nat)]]⟩ := by
  have hpl : ∀ k, k ≤ 10 → PlOk (p + k) := fun k hk => by unfold PlOk; omega
  obtain ⟨far, hfar, e1⟩ := one_int ds p [2, 10, 200] hd (hpl 0 (by omega)) (by simp)
  have hfar : 2 ≤ far ∧ far ≤ 200 := by simp at hfar; omega
  obtain ⟨v2, hv2, e2⟩ := take_ex ds (p + 1) 5 hd (hpl 1 (by omega)) (by omega)
  obtain ⟨v3, hv3, e3⟩ := take_ex ds (p + 1 + 1) far hd (hpl 2 (by omega)) (by omega)
  obtain ⟨v4, hv4, e4⟩ := take_ex ds (p + 1 + 1 + 1) mx hd (hpl 3 (by omega)) (by omega)
  obtain ⟨n, hn⟩ := Int.eq_ofNat_of_zero_le (show 0 ≤ 1 + v4 by omega)
  have hts : TS [] (v2 - 2) (1 + v3) := ⟨(fun _ h => nomatch h), rfl, by omega, by omega, (fun _ h => nomatch h), (fun _ h => nomatch h)⟩
  obtain ⟨t, l', w', s6, s9, s10, s11, s12, h1, h2, h3⟩ := tower_loop m (.int mx) ds hd far (by omega) (v2 - 2) (1 + v3) hts (p + 1 + 1 + 1 + 1) (by omega) n (by omega)
  refine ⟨t, p + 1 + 1 + 1 + 1 + 5 * n, h1.valid (fun e => by rw [e] at h2; have : ([] : List Blk).length = 0 := rfl; omega) (by omega), by omega, ?_⟩
  rw [r__law_tower]
  have hr := rangeL_0 n
  have hs := smallI_nat (show n < 2 ^ 40 by omega)
  simp only [List.map_cons, List.map_nil] at e1
  simp only [nmsD] at h3
  simp only [B__law_tower, L__law_tower_2, zs_for, e1, e2, e3, e4, mul30, hn, hr, hs, h3, encT, kx0, kx1, kx2, sx0, sx1, sx2, sx3, sx4, sx5, sx6, sx7, nm1, List.contains_nil, List.contains_cons, List.all_nil, List.all_cons, List.isEmpty_nil, List.isEmpty_cons, List.map_cons, List.map_nil, Bool.decide_eq_true, Bool.and_true, Bool.true_and, Bool.and_false, Bool.false_and, Bool.or_true, Bool.true_or, Bool.or_false, Bool.false_or, Bool.not_true, Bool.not_false, Bool.false_eq_true, Bool.not_eq_true', decide_true, decide_false, if_true, if_false, decide_eq_true_eq, decide_eq_false_iff_not, Int.cast_ofNat_Int, true_and, false_and, and_true, and_false, not_true_eq_false, not_false_eq_true, Int.reduceAdd, Int.reduceSub, Int.reduceMul, Int.reduceLT, Int.reduceLE, Int.reduceEq, Int.reduceNe, List.length_cons, List.length_nil, ↓reduceIte, Nat.reduceAdd, Nat.reduceBEq, Nat.reduceEqDiff, Nat.reduceLeDiff, Int.reduceNeg, reduceCtorEq]
theorem prs_sm {t : List Blk} (ht : TV t) {k : Nat} (hk : k < t.length) : Sm2 300 (prs t k) := by
  have hb := ht.bt
  have hc := ctr_sm hb hk
  have hl := ctc_sm hb k
  have hw := wt_sm hb k
  have hlt := ht.ct k hk
  have hcb := ctc_bound hb k
  unfold prs
  by_cases h : (ctc t k).1 = (ctc t k).2
  · rw [if_pos h]
    exact ⟨hw.mono (by decide), by
      refine ⟨?_, ?_⟩
      · exact Nat.two_pow_pos _
      · show 1 < 2 ^ 300; exact Nat.one_lt_two_pow (by decide)⟩
  · rw [if_neg h]
    have b1 := hc.sub hl.1
    have b2 := hw.mul b1
    have b3 : Sm 14 (((ctc t k).2 - (ctc t k).1 : Int) : Rat) := int_sm (by omega) (by decide)
    have b4 : Sm 200 ((wt t k : Rat) * (ctr t k - ((ctc t k).1 : Rat)) / (((ctc t k).2 - (ctc t k).1 : Int) : Rat)) := by
      rw [Rat.div_def]
      have : Sm 14 ((((ctc t k).2 - (ctc t k).1 : Int) : Rat)⁻¹) := by
        constructor
        · rw [Rat.num_inv]
          have : (((ctc t k).2 - (ctc t k).1 : Int) : Rat).num.sign = 1 := Int.sign_eq_one_of_pos (by show 0 < (ctc t k).2 - (ctc t k).1; omega)
          rw [this]; show (1 * ((1 : Nat) : Int)).natAbs < 2 ^ 14; decide
        · rw [Rat.den_inv]
          split
          · decide
          · exact b3.1
      exact (b2.mul this).mono (by decide)
    exact ⟨(hw.sub b4).mono (by decide), b4.mono (by decide)⟩
theorem sst_enc2 {p : Rat × Rat} {k : Nat} (h : Sm2 k p) (hk : k ≤ 990) : SSt (enc2 p) := sst_cons (sst_R h.1 hk) (sst_cons (sst_R h.2 hk) sst_nil)
theorem sst_side (t : List Blk) (k : Nat) : SSt (sideD t k) := by
  rcases side_cases t k with e | e | e <;> rw [e]
  · exact sst_str _
  · exact sst_str _
  · exact sst_none
theorem sst_nat {k : Nat} (h : k ≤ 100) : SSt (.int (k : Int)) := sst_int (Nat.lt_of_le_of_lt (show (k : Int).natAbs ≤ 100 by omega) (Nat.lt_of_lt_of_le (show 100 < 2 ^ 10 by decide) (Nat.pow_le_pow_right (by decide) (by decide))))
theorem sst_lit {i : Int} (h : i.natAbs < 2 ^ 10) : SSt (.int i) := sst_int (Nat.lt_of_lt_of_le h (Nat.pow_le_pow_right (by decide) (by decide)))
theorem sst_forces {t : List Blk} (ht : TV t) : SSt (forcesD t) := sst_tup fun x hx => by
  obtain ⟨k, hk, rfl⟩ := List.mem_map.mp hx
  exact sst_enc2 (prs_sm ht (List.mem_range.mp hk)) (by decide)
theorem sst_ones (n : Nat) : SSt (.tuple (List.replicate n [PyData.tuple [.tuple [.int 1, .int 1], .tuple [.int 1, .int 1]]]).flatten) := sst_tup fun x hx => by
  obtain ⟨l, hl, hx⟩ := List.mem_flatten.mp hx
  rw [List.eq_of_mem_replicate hl] at hx
  rw [List.mem_singleton.mp hx]
  exact ⟨rfl, rfl⟩
theorem lim_k {n : Nat} (h : n ≤ 100) : n ≤ lim := by have := lim_ge; omega
theorem ones2 : op2 .mul (.tuple [.tuple [.int 1, .int 1]]) (.int 2) = .ok (.tuple [.tuple [.int 1, .int 1], .tuple [.int 1, .int 1]], false) := by
  rw [x_mulT _ _ (by decide)]; rfl
/-- what the law tells of a tower in other words, where it tips -/
theorem bent_tips (ds : List Int) (hd : DrOk ds) (t : List Blk) (ht : TV t) (k0 : Nat) (hk0 : k0 < t.length) (p : Nat) (hp : p < 80000) :
    ∃ d p', SSt d ∧ p' ≤ p + 10 ∧ ∀ m, SF.run T sub 100 (m + 4) 44 [encT t, tipsD t k0, encI ds, .list [.int p]] = .ok ⟨d, false, [.list [.int (p' : Nat)]]⟩ := by
  have hpl : ∀ k, k ≤ 10 → PlOk (p + k) := fun k hk => by unfold PlOk; omega
  have hn : 0 < t.length := by omega
  have h12 := ht.bt.2
  obtain ⟨v1, hv1, e1⟩ := take_ex ds p t.length hd (hpl 0 (by omega)) (by omega)
  obtain ⟨k, rfl⟩ := Int.eq_ofNat_of_zero_le hv1.1
  obtain ⟨v2, hv2, e2⟩ := take_ex ds (p + 1) 5 hd (hpl 1 (by omega)) (by omega)
  by_cases c : v2 = 0
  · obtain ⟨d, hdm, e3⟩ := one_l ds (p + 1 + 1) ([.none, .tuple [.str "tips"], .tuple [.str "tips", .int k0, sideD t k0, .int 1], .tuple [.int 5, .int k0, sideD t k0], .tuple [.str "lies", .int k0, sideD t k0], .tuple [.str "tips", .int k, .str "left"], .tuple [.str "tips", .int k, .str "right"], .tuple [.str "tips", .bool true, .str "left"],
      .tuple [.str "tips", .int k, .none], .tuple [.str "tips", .int t.length, .str "left"], .tuple [.str "stands", .tuple []]]) hd (hpl 2 (by omega)) (by simp)
    refine ⟨d, p + 1 + 1 + 1, ?_, by omega, fun m => ?_⟩
    · have s1 := sst_nat (k := k0) (by omega)
      have s2 := sst_nat (k := k) (by omega)
      have s3 := sst_nat (k := t.length) (by omega)
      have s4 := sst_side t k0
      simp only [List.mem_cons, List.not_mem_nil, or_false] at hdm
      rcases hdm with h | h | h | h | h | h | h | h | h | h | h <;> rw [h]
      · exact sst_none
      · exact sst_cons (sst_str _) sst_nil
      · exact sst_cons (sst_str _) (sst_cons s1 (sst_cons s4 (sst_cons (sst_lit (by decide)) sst_nil)))
      · exact sst_cons (sst_lit (by decide)) (sst_cons s1 (sst_cons s4 sst_nil))
      · exact sst_cons (sst_str _) (sst_cons s1 (sst_cons s4 sst_nil))
      · exact sst_cons (sst_str _) (sst_cons s2 (sst_cons (sst_str _) sst_nil))
      · exact sst_cons (sst_str _) (sst_cons s2 (sst_cons (sst_str _) sst_nil))
      · exact sst_cons (sst_str _) (sst_cons (sst_bool _) (sst_cons (sst_str _) sst_nil))
      · exact sst_cons (sst_str _) (sst_cons s2 (sst_cons sst_none sst_nil))
      · exact sst_cons (sst_str _) (sst_cons s3 (sst_cons (sst_str _) sst_nil))
      · exact sst_cons (sst_str _) (sst_cons sst_nil sst_nil)
    · subst c
      rw [r__law_bent]
      simp only [encT, tipsD] at e1 e2 e3 ⊢
      have a1 := x_addT [.str "tips", .int k0, sideD t k0] [.int 1] (show 4 ≤ lim by decide)
      have a2 := x_addT [.int 5] [.int k0, sideD t k0] (show 3 ≤ lim by decide)
      have a3 := x_addT [.str "lies"] [.int k0, sideD t k0] (show 3 ≤ lim by decide)
      have a4 := x_addL [.none, .tuple [.str "tips"], .tuple [.str "tips", .int k0, sideD t k0, .int 1], .tuple [.int 5, .int k0, sideD t k0], .tuple [.str "lies", .int k0, sideD t k0], .tuple [.str "tips", .int k, .str "left"], .tuple [.str "tips", .int k, .str "right"], .tuple [.str "tips", .bool true, .str "left"]]
        [.tuple [.str "tips", .int k, .none], .tuple [.str "tips", .int t.length, .str "left"], .tuple [.str "stands", .tuple []]] (show 11 ≤ lim by decide)
      simp only [List.cons_append, List.nil_append] at a1 a2 a3 a4
      simp only [B__law_bent, e1, e2, e3, a1, a2, a3, a4, cutD_tt1, List.length_map, kx0, kx1, kx2, sx0, sx1, sx2, sx3, sx4, sx5, sx6, sx7, nm1, List.contains_nil, List.contains_cons, List.all_nil, List.all_cons, List.isEmpty_nil, List.isEmpty_cons, List.map_cons, List.map_nil, Bool.decide_eq_true, Bool.and_true, Bool.true_and, Bool.and_false, Bool.false_and, Bool.or_true, Bool.true_or, Bool.or_false, Bool.false_or, Bool.not_true, Bool.not_false, Bool.false_eq_true, Bool.not_eq_true', decide_true, decide_false, if_true, if_false, decide_eq_true_eq, decide_eq_false_iff_not, Int.cast_ofNat_Int, true_and, false_and, and_true, and_false, not_true_eq_false, not_false_eq_true, Int.reduceAdd, Int.reduceSub, Int.reduceMul, Int.reduceLT, Int.reduceLE, Int.reduceEq, Int.reduceNe, List.length_cons, List.length_nil, ↓reduceIte, Nat.reduceAdd, Nat.reduceBEq, Nat.reduceEqDiff, Nat.reduceLeDiff, Int.reduceNeg, reduceCtorEq]
  · obtain ⟨d, hdm, e3⟩ := one_l ds (p + 1 + 1) [.tuple [.str "tips", .int k, sideD t k0], .tuple [.str "tips", .int k0, .str "left"], .tuple [.str "tips", .int k0, .str "right"], .tuple [.str "stands", .tuple (List.replicate t.length [PyData.tuple [.tuple [.int 1, .int 1], .tuple [.int 1, .int 1]]]).flatten], .tuple [.str "tips", .int (-1), sideD t k0]] hd (hpl 2 (by omega)) (by simp)
    refine ⟨d, p + 1 + 1 + 1, ?_, by omega, fun m => ?_⟩
    · have s1 := sst_nat (k := k0) (by omega)
      have s2 := sst_nat (k := k) (by omega)
      have s4 := sst_side t k0
      simp only [List.mem_cons, List.not_mem_nil, or_false] at hdm
      rcases hdm with h | h | h | h | h <;> rw [h]
      · exact sst_cons (sst_str _) (sst_cons s2 (sst_cons s4 sst_nil))
      · exact sst_cons (sst_str _) (sst_cons s1 (sst_cons (sst_str _) sst_nil))
      · exact sst_cons (sst_str _) (sst_cons s1 (sst_cons (sst_str _) sst_nil))
      · exact sst_cons (sst_str _) (sst_cons (sst_ones _) sst_nil)
      · exact sst_cons (sst_str _) (sst_cons (sst_lit (by decide)) (sst_cons s4 sst_nil))
    · rw [r__law_bent]
      simp only [encT, tipsD] at e1 e2 e3 ⊢
      have a1 := x_mulT [.tuple [.tuple [.int 1, .int 1], .tuple [.int 1, .int 1]]] (t.length : Int) (by simp; omega)
      rw [Int.toNat_natCast] at a1
      simp only [B__law_bent, e1, e2, e3, c, ones2, a1, List.length_map, kx0, kx1, kx2, sx0, sx1, sx2, sx3, sx4, sx5, sx6, sx7, nm1, List.contains_nil, List.contains_cons, List.all_nil, List.all_cons, List.isEmpty_nil, List.isEmpty_cons, List.map_cons, List.map_nil, Bool.decide_eq_true, Bool.and_true, Bool.true_and, Bool.and_false, Bool.false_and, Bool.or_true, Bool.true_or, Bool.or_false, Bool.false_or, Bool.not_true, Bool.not_false, Bool.false_eq_true, Bool.not_eq_true', decide_true, decide_false, if_true, if_false, decide_eq_true_eq, decide_eq_false_iff_not, Int.cast_ofNat_Int, true_and, false_and, and_true, and_false, not_true_eq_false, not_false_eq_true, Int.reduceAdd, Int.reduceSub, Int.reduceMul, Int.reduceLT, Int.reduceLE, Int.reduceEq, Int.reduceNe, List.length_cons, List.length_nil, ↓reduceIte, Nat.reduceAdd, Nat.reduceBEq, Nat.reduceEqDiff, Nat.reduceLeDiff, Int.reduceNeg, reduceCtorEq]

theorem bent_stands (ds : List Int) (hd : DrOk ds) (t : List Blk) (ht : TV t) (p : Nat) (hp : p < 80000) :
    ∃ d p', SSt d ∧ p' ≤ p + 10 ∧ ∀ m, SF.run T sub 100 (m + 4) 44 [encT t, .tuple [.str "stands", forcesD t], encI ds, .list [.int p]] = .ok ⟨d, false, [.list [.int (p' : Nat)]]⟩ := by
  have hpl : ∀ k, k ≤ 10 → PlOk (p + k) := fun k hk => by unfold PlOk; omega
  have hn : 0 < t.length := by have := List.length_pos_iff.mpr ht.ne; omega
  have h12 := ht.bt.2
  obtain ⟨v1, hv1, e1⟩ := take_ex ds p t.length hd (hpl 0 (by omega)) (by omega)
  obtain ⟨k, rfl⟩ := Int.eq_ofNat_of_zero_le hv1.1
  obtain ⟨v2, hv2, e2⟩ := take_ex ds (p + 1) 5 hd (hpl 1 (by omega)) (by omega)
  have sf := sst_forces ht
  have s2 := sst_nat (k := k) (by omega)
  have s3 := sst_nat (k := t.length) (by omega)
  by_cases c : v2 = 0
  · obtain ⟨d, hdm, e3⟩ := one_l ds (p + 1 + 1) ([.none, .tuple [.str "stands"], .tuple [.str "stands", forcesD t, .int 1], .tuple [.int 5, forcesD t], .tuple [.str "lies", forcesD t], .tuple [.str "tips", .int k, .str "left"], .tuple [.str "tips", .int k, .str "right"], .tuple [.str "tips", .bool true, .str "left"],
      .tuple [.str "tips", .int k, .none], .tuple [.str "tips", .int t.length, .str "left"], .tuple [.str "stands", .tuple []]]) hd (hpl 2 (by omega)) (by simp)
    refine ⟨d, p + 1 + 1 + 1, ?_, by omega, fun m => ?_⟩
    · simp only [List.mem_cons, List.not_mem_nil, or_false] at hdm
      rcases hdm with h | h | h | h | h | h | h | h | h | h | h <;> rw [h]
      · exact sst_none
      · exact sst_cons (sst_str _) sst_nil
      · exact sst_cons (sst_str _) (sst_cons sf (sst_cons (sst_lit (by decide)) sst_nil))
      · exact sst_cons (sst_lit (by decide)) (sst_cons sf sst_nil)
      · exact sst_cons (sst_str _) (sst_cons sf sst_nil)
      · exact sst_cons (sst_str _) (sst_cons s2 (sst_cons (sst_str _) sst_nil))
      · exact sst_cons (sst_str _) (sst_cons s2 (sst_cons (sst_str _) sst_nil))
      · exact sst_cons (sst_str _) (sst_cons (sst_bool _) (sst_cons (sst_str _) sst_nil))
      · exact sst_cons (sst_str _) (sst_cons s2 (sst_cons sst_none sst_nil))
      · exact sst_cons (sst_str _) (sst_cons s3 (sst_cons (sst_str _) sst_nil))
      · exact sst_cons (sst_str _) (sst_cons sst_nil sst_nil)
    · subst c
      rw [r__law_bent]
      generalize forcesD t = F at e3 ⊢
      simp only [encT] at e1 e2 e3 ⊢
      have a1 := x_addT [.str "stands", F] [.int 1] (show 3 ≤ lim by decide)
      have a2 := x_addT [.int 5] [F] (show 2 ≤ lim by decide)
      have a3 := x_addT [.str "lies"] [F] (show 2 ≤ lim by decide)
      have a4 := x_addL [.none, .tuple [.str "stands"], .tuple [.str "stands", F, .int 1], .tuple [.int 5, F], .tuple [.str "lies", F], .tuple [.str "tips", .int k, .str "left"], .tuple [.str "tips", .int k, .str "right"], .tuple [.str "tips", .bool true, .str "left"]]
        [.tuple [.str "tips", .int k, .none], .tuple [.str "tips", .int t.length, .str "left"], .tuple [.str "stands", .tuple []]] (show 11 ≤ lim by decide)
      simp only [List.cons_append, List.nil_append] at a1 a2 a3 a4
      simp only [B__law_bent, e1, e2, e3, a1, a2, a3, a4, cutD_tt1, List.length_map, kx0, kx1, kx2, sx0, sx1, sx2, sx3, sx4, sx5, sx6, sx7, nm1, List.contains_nil, List.contains_cons, List.all_nil, List.all_cons, List.isEmpty_nil, List.isEmpty_cons, List.map_cons, List.map_nil, Bool.decide_eq_true, Bool.and_true, Bool.true_and, Bool.and_false, Bool.false_and, Bool.or_true, Bool.true_or, Bool.or_false, Bool.false_or, Bool.not_true, Bool.not_false, Bool.false_eq_true, Bool.not_eq_true', decide_true, decide_false, if_true, if_false, decide_eq_true_eq, decide_eq_false_iff_not, Int.cast_ofNat_Int, true_and, false_and, and_true, and_false, not_true_eq_false, not_false_eq_true, Int.reduceAdd, Int.reduceSub, Int.reduceMul, Int.reduceLT, Int.reduceLE, Int.reduceEq, Int.reduceNe, List.length_cons, List.length_nil, ↓reduceIte, Nat.reduceAdd, Nat.reduceBEq, Nat.reduceEqDiff, Nat.reduceLeDiff, Int.reduceNeg, reduceCtorEq]
  · have hk : k < t.length := by omega
    have hs := prs_sm ht hk
    obtain ⟨md, hmd, e3⟩ := one_l ds (p + 1 + 1) [.tuple [.int 1, .int 1], .tuple [.int 1, .int 2], .tuple [.int (-1), .int 1]] hd (hpl 2 (by omega)) (by simp)
    obtain ⟨q, rfl, hq⟩ : ∃ q, md = encR q ∧ Sm 3 q := by
      simp only [List.mem_cons, List.not_mem_nil, or_false] at hmd
      rcases hmd with h | h | h
      · exact ⟨1, h, by unfold Sm; decide⟩
      · refine ⟨mkRat 1 2, by rw [h, encR]; rfl, Sm.mkRat (by decide) (by decide) (by decide)⟩
      · exact ⟨((-1 : Int) : Rat), h, by unfold Sm; decide⟩
    have hm1 : Sm 3 ((-1 : Int) : Rat) := by unfold Sm; decide
    have b1 : Bd (prs t k).1 := Bd.of hs.1 (by decide)
    have b2 : Bd (prs t k).2 := Bd.of hs.2 (by decide)
    have bq : Bd q := Bd.of hq (by decide)
    have hl := hq.mul hm1
    have t1 := fun m => law_times_ok m q ((-1 : Int) : Rat) bq (Bd.of hm1 (by decide))
    have t2 := fun m => law_plus_ok m (prs t k).1 q b1 bq
    have t3 := fun m => law_plus_ok m (prs t k).2 (q * ((-1 : Int) : Rat)) b2 (Bd.of hl (by decide))
    have z1 := hs.1.add hq
    have z2 := hs.2.add hl
    have g1 := mul_guard (a := 2) (b := (prs t k).2.num) (i := 5) (j := 300) (by decide) hs.2.1 (by decide)
    have g2 := mul_guard (a := 2) (b := ((prs t k).2.den : Int)) (i := 5) (j := 300) (by decide) (by rw [Int.natAbs_natCast]; exact hs.2.2) (by decide)
    have m1 : (2 * (prs t k).2.num).natAbs < 2 ^ 990 := Nat.lt_of_lt_of_le (natAbs_mul_lt (i := 5) (by decide) hs.2.1) (Nat.pow_le_pow_right (by decide) (by decide))
    have m2 : (2 * ((prs t k).2.den : Int)).natAbs < 2 ^ 990 := Nat.lt_of_lt_of_le (natAbs_mul_lt (i := 5) (j := 300) (by decide) (by rw [Int.natAbs_natCast]; exact hs.2.2)) (Nat.pow_le_pow_right (by decide) (by decide))
    obtain ⟨d, hdm, e4⟩ := one_l ds (p + 1 + 1 + 1) [.tuple [encR ((prs t k).1 + q), encR ((prs t k).2 + q * ((-1 : Int) : Rat))], .tuple [encR ((prs t k).1 + q), encR (prs t k).2], .tuple [encR (prs t k).2, encR (prs t k).1],
      .tuple [encR (prs t k).1, .tuple [.int (2 * (prs t k).2.num), .int (2 * ((prs t k).2.den : Int))]], .tuple [encR (prs t k).1], .none, .tuple [.int (prs t k).1.num, encR (prs t k).2], .tuple [.bool true, encR (prs t k).2]] hd (hpl 3 (by omega)) (by simp)
    have sd : SSt d := by
      have r1 := sst_R hs.1 (by decide)
      have r2 := sst_R hs.2 (by decide)
      have r3 := sst_R z1 (by decide)
      have r4 := sst_R z2 (by decide)
      simp only [List.mem_cons, List.not_mem_nil, or_false] at hdm
      rcases hdm with h | h | h | h | h | h | h | h <;> rw [h]
      · exact sst_cons r3 (sst_cons r4 sst_nil)
      · exact sst_cons r3 (sst_cons r2 sst_nil)
      · exact sst_cons r2 (sst_cons r1 sst_nil)
      · exact sst_cons r1 (sst_cons (sst_cons (sst_int m1) (sst_cons (sst_int m2) sst_nil)) sst_nil)
      · exact sst_cons r1 sst_nil
      · exact sst_none
      · exact sst_cons (sst_int (Nat.lt_of_lt_of_le hs.1.1 (Nat.pow_le_pow_right (by decide) (by decide)))) (sst_cons r2 sst_nil)
      · exact sst_cons (sst_bool _) (sst_cons r2 sst_nil)
    have hF : ∀ (F : List D), F.length = t.length → SSt (.tuple F) → F[k]? = some (.tuple [encR (prs t k).1, encR (prs t k).2]) → ∃ d p', SSt d ∧ p' ≤ p + 10 ∧ ∀ m, SF.run T sub 100 (m + 4) 44 [encT t, .tuple [.str "stands", .tuple F], encI ds, .list [.int p]] = .ok ⟨d, false, [.list [.int (p' : Nat)]]⟩ := by
      intro F hFl hFs hFk
      refine ⟨.tuple [.str "stands", .tuple ((F.take k ++ [d]) ++ F.drop (k + 1))], p + 1 + 1 + 1 + 1, ?_, by omega, fun m => ?_⟩
      · refine sst_cons (sst_str _) (sst_cons (sst_tup fun x hx => ?_) sst_nil)
        rcases List.mem_append.mp hx with hx | hx
        · rcases List.mem_append.mp hx with hx | hx
          · exact sst_mem hFs x (List.mem_of_mem_take hx)
          · rw [List.mem_singleton.mp hx]; exact sd
        · exact sst_mem hFs x (List.mem_of_mem_drop hx)
      · rw [r__law_bent]
        have hx : L2.atI F (k : Int) = some (.tuple [encR (prs t k).1, encR (prs t k).2]) := by rw [at_n]; exact hFk
        have k1 : (k : Int) + 1 = ((k + 1 : Nat) : Int) := rfl
        have a1 := x_addT (F.take k) [d] (lim_k (by simp; omega))
        have a2 := x_addT (F.take k ++ [d]) (F.drop (k + 1)) (lim_k (by simp; omega))
        have q2 : op2 .at (encR (prs t k).2) (.int 0) = .ok (.int (prs t k).2.num, false) := by simp only [encR, sx0, sx1, sx2, sx3, sx4, sx5, sx6, sx7, nm1, List.contains_nil, List.contains_cons, List.all_nil, List.all_cons, List.isEmpty_nil, List.isEmpty_cons, List.map_cons, List.map_nil, Bool.decide_eq_true, Bool.and_true, Bool.true_and, Bool.and_false, Bool.false_and, Bool.or_true, Bool.true_or, Bool.or_false, Bool.false_or, Bool.not_true, Bool.not_false, Bool.false_eq_true, Bool.not_eq_true', decide_true, decide_false, if_true, if_false, decide_eq_true_eq, decide_eq_false_iff_not, Int.cast_ofNat_Int, true_and, false_and, and_true, and_false, not_true_eq_false, not_false_eq_true, Int.reduceAdd, Int.reduceSub, Int.reduceMul, Int.reduceLT, Int.reduceLE, Int.reduceEq, Int.reduceNe, List.length_cons, List.length_nil, ↓reduceIte, Nat.reduceAdd, Nat.reduceBEq, Nat.reduceEqDiff, Nat.reduceLeDiff, Int.reduceNeg, reduceCtorEq]
        have q3 : op2 .at (encR (prs t k).2) (.int 1) = .ok (.int ((prs t k).2.den : Int), false) := by simp only [encR, sx0, sx1, sx2, sx3, sx4, sx5, sx6, sx7, nm1, List.contains_nil, List.contains_cons, List.all_nil, List.all_cons, List.isEmpty_nil, List.isEmpty_cons, List.map_cons, List.map_nil, Bool.decide_eq_true, Bool.and_true, Bool.true_and, Bool.and_false, Bool.false_and, Bool.or_true, Bool.true_or, Bool.or_false, Bool.false_or, Bool.not_true, Bool.not_false, Bool.false_eq_true, Bool.not_eq_true', decide_true, decide_false, if_true, if_false, decide_eq_true_eq, decide_eq_false_iff_not, Int.cast_ofNat_Int, true_and, false_and, and_true, and_false, not_true_eq_false, not_false_eq_true, Int.reduceAdd, Int.reduceSub, Int.reduceMul, Int.reduceLT, Int.reduceLE, Int.reduceEq, Int.reduceNe, List.length_cons, List.length_nil, ↓reduceIte, Nat.reduceAdd, Nat.reduceBEq, Nat.reduceEqDiff, Nat.reduceLeDiff, Int.reduceNeg, reduceCtorEq]
        have q1 : op2 .at (encR (prs t k).1) (.int 0) = .ok (.int (prs t k).1.num, false) := by simp only [encR, sx0, sx1, sx2, sx3, sx4, sx5, sx6, sx7, nm1, List.contains_nil, List.contains_cons, List.all_nil, List.all_cons, List.isEmpty_nil, List.isEmpty_cons, List.map_cons, List.map_nil, Bool.decide_eq_true, Bool.and_true, Bool.true_and, Bool.and_false, Bool.false_and, Bool.or_true, Bool.true_or, Bool.or_false, Bool.false_or, Bool.not_true, Bool.not_false, Bool.false_eq_true, Bool.not_eq_true', decide_true, decide_false, if_true, if_false, decide_eq_true_eq, decide_eq_false_iff_not, Int.cast_ofNat_Int, true_and, false_and, and_true, and_false, not_true_eq_false, not_false_eq_true, Int.reduceAdd, Int.reduceSub, Int.reduceMul, Int.reduceLT, Int.reduceLE, Int.reduceEq, Int.reduceNe, List.length_cons, List.length_nil, ↓reduceIte, Nat.reduceAdd, Nat.reduceBEq, Nat.reduceEqDiff, Nat.reduceLeDiff, Int.reduceNeg, reduceCtorEq]
        simp only [encT] at e1 e2 e3 ⊢
        have ei : PyData.tuple [.int (-1), .int 1] = encR ((-1 : Int) : Rat) := rfl
        simp only [ei] at e3 t1
        have ne : ¬ ("stands" : Str) = "tips" := by decide
        simp only [B__law_bent, e1, e2, e3, e4, c, ne, sd.2, hx, k1, a1, a2, q1, q2, q3, t1, t2, t3, ei, x_mul _ _ g1, x_mul _ _ g2, List.length_map, kx0, kx1, kx2, sx0, sx1, sx2, sx3, sx4, sx5, sx6, sx7, nm1, List.contains_nil, List.contains_cons, List.all_nil, List.all_cons, List.isEmpty_nil, List.isEmpty_cons, List.map_cons, List.map_nil, Bool.decide_eq_true, Bool.and_true, Bool.true_and, Bool.and_false, Bool.false_and, Bool.or_true, Bool.true_or, Bool.or_false, Bool.false_or, Bool.not_true, Bool.not_false, Bool.false_eq_true, Bool.not_eq_true', decide_true, decide_false, if_true, if_false, decide_eq_true_eq, decide_eq_false_iff_not, Int.cast_ofNat_Int, true_and, false_and, and_true, and_false, not_true_eq_false, not_false_eq_true, Int.reduceAdd, Int.reduceSub, Int.reduceMul, Int.reduceLT, Int.reduceLE, Int.reduceEq, Int.reduceNe, List.length_cons, List.length_nil, ↓reduceIte, Nat.reduceAdd, Nat.reduceBEq, Nat.reduceEqDiff, Nat.reduceLeDiff, Int.reduceNeg, reduceCtorEq]
    exact hF _ (by rw [List.length_map, List.length_range]) sf (by rw [List.getElem?_map, List.getElem?_range hk]; rfl)

/-! the plain law -/
theorem rat_lt_int {a : Rat} {b : Int} : True := trivial
theorem tip_false {t : List Blk} {k : Nat} (h : tip? t k = false) : ((ctc t k).1 : Rat) ≤ ctr t k ∧ ctr t k ≤ ((ctc t k).2 : Rat) := by
  unfold tip? sideD at h
  by_cases h1 : ctr t k < ((ctc t k).1 : Rat)
  · rw [if_pos h1] at h; cases h
  · rw [if_neg h1] at h
    by_cases h2 : ((ctc t k).2 : Rat) < ctr t k
    · rw [if_pos h2] at h; cases h
    · exact ⟨Rat.not_lt.mp h1, Rat.not_lt.mp h2⟩
theorem prs_good {t : List Blk} (ht : TV t) {k : Nat} (hk : k < t.length) (h : tip? t k = false) : badAt t k (prs t k) = none := by
  obtain ⟨h1, h2⟩ := tip_false h
  have hw : (0 : Rat) < (wt t k : Rat) := by
    have := wt_pos ht.bt hk
    exact_mod_cast this
  have hc := ht.ct k hk
  unfold badAt prs
  by_cases e : (ctc t k).1 = (ctc t k).2
  · simp only [e, if_true]
    have e' : ctr t k = ((ctc t k).2 : Rat) := by
      rw [e] at h1
      grind
    have n1 : ¬ ((wt t k : Rat) < 0 ∨ (0 : Rat) < 0) := by grind
    rw [if_neg n1, if_neg (by grind), if_neg (by rw [e']; grind)]
  · simp only [e, if_false]
    have hd : ((ctc t k).1 : Rat) < ((ctc t k).2 : Rat) := by
      have : (ctc t k).1 < (ctc t k).2 := by omega
      exact_mod_cast this
    have hsub : (((ctc t k).2 - (ctc t k).1 : Int) : Rat) = ((ctc t k).2 : Rat) - ((ctc t k).1 : Rat) := by push_cast; rfl
    rw [hsub]
    generalize ((ctc t k).1 : Rat) = lo at *
    generalize ((ctc t k).2 : Rat) = hi at *
    generalize (wt t k : Rat) = w at *
    generalize ctr t k = c at *
    have hp : 0 < hi - lo := by grind
    have hne : hi - lo ≠ 0 := by grind
    obtain ⟨r, hr⟩ : ∃ r, r = w * (c - lo) / (hi - lo) := ⟨_, rfl⟩
    have hrm : r * (hi - lo) = w * (c - lo) := by rw [hr]; exact Rat.div_mul_cancel hne
    rw [← hr]
    have r0 : 0 ≤ r := by
      rcases Rat.le_total (a := 0) (b := r) with h | h
      · exact h
      · have h3 : 0 ≤ w * (c - lo) := Rat.mul_nonneg (by grind) (by grind)
        rw [← hrm] at h3
        have h4 : 0 ≤ -r * (hi - lo) := Rat.mul_nonneg (by grind) (by grind)
        have h5 : r * (hi - lo) = 0 := by grind
        rcases Rat.mul_eq_zero.mp h5 with h6 | h6
        · grind
        · exact absurd h6 hne
    have r1 : 0 ≤ w - r := by
      rcases Rat.le_total (a := 0) (b := w - r) with h | h
      · exact h
      · have h3 : 0 ≤ w * (hi - c) := Rat.mul_nonneg (by grind) (by grind)
        have h4 : 0 ≤ -(w - r) * (hi - lo) := Rat.mul_nonneg (by grind) (by grind)
        have h5 : (w - r) * (hi - lo) = 0 := by grind
        rcases Rat.mul_eq_zero.mp h5 with h6 | h6
        · grind
        · exact absurd h6 hne
    have n1 : ¬ (w - r < 0 ∨ r < 0) := by grind
    rw [if_neg n1, if_neg (by grind), if_neg (by grind)]
theorem firstTip_none {t : List Blk} (h : firstTip t = none) : ∀ k, k < t.length → tip? t k = false := by
  intro k hk
  have := List.find?_eq_none.mp h k (List.mem_range.mpr hk)
  simpa using this
theorem told_good {t : List Blk} (ht : TV t) : rsn t (standsD t) = none := by
  unfold standsD
  cases h : firstTip t with
  | some k =>
    have hk : k < t.length := List.mem_range.mp (List.mem_of_find?_eq_some h)
    have ht : tip? t k = true := List.find?_some h
    show rsn t (.tuple [.str "tips", .int k, sideD t k]) = none
    have e : ∃ s, sideD t k = .str s := by
      rcases side_cases t k with e | e | e
      · exact ⟨_, e⟩
      · exact ⟨_, e⟩
      · unfold tip? at ht; rw [e] at ht; cases ht
    obtain ⟨s, e⟩ := e
    rw [e]
    show (if isS (.str "tips") "tips" then (if 0 ≤ (k : Int) ∧ (k : Int) < t.length then (if isS (sideD t (k : Int).toNat) s then (none : Option Str) else some ("side" : Str)) else some ("form" : Str)) else some ("form" : Str)) = none
    rw [if_pos (by rfl), if_pos ⟨by omega, by omega⟩, Int.toNat_natCast, e, if_pos (by simp [isS])]
  | none =>
    show rsn t (.tuple [.str "stands", forcesD t]) = none
    show (if isS (.str "stands") "stands" then frs t (forcesD t) else some ("form" : Str)) = none
    rw [if_pos (by rfl)]
    show (if ((List.range t.length).map fun k => enc2 (prs t k)).length ≠ t.length then some ("form" : Str) else match frPairs ((List.range t.length).map fun k => enc2 (prs t k)) with
      | none => some ("form" : Str)
      | some ps => firstBad t ps) = none
    rw [if_neg (by simp)]
    have : ((List.range t.length).map fun k => enc2 (prs t k)) = ((List.range t.length).map (prs t)).map enc2 := by rw [List.map_map]; rfl
    rw [this, frPairs_map]
    show firstBad t ((List.range t.length).map (prs t)) = none
    unfold firstBad
    rw [List.findSome?_eq_none_iff]
    rintro ⟨a, i⟩ hx
    have := List.mem_zipIdx_iff_getElem?.mp hx
    rw [List.getElem?_map] at this
    obtain ⟨j, hj, e⟩ := Option.map_eq_some_iff.mp this
    have hi : i < t.length := by
      have := (List.getElem?_eq_some_iff.mp hj).1
      rwa [List.length_range] at this
    rw [List.getElem?_range hi] at hj
    cases hj
    subst e
    exact prs_good ht hi (firstTip_none h i hi)
theorem bad_ok {t : List Blk} {k : Nat} {p : Rat × Rat} {r : Str} (h : badAt t k p = some r) : PyData.strOk r = true := by
  unfold badAt at h
  split at h
  · cases h; decide +kernel
  · split at h
    · cases h; decide +kernel
    · split at h
      · cases h; decide +kernel
      · cases h
theorem frs_ok {t : List Blk} {d : D} {r : Str} (h : frs t d = some r) : PyData.strOk r = true := by
  unfold frs at h
  split at h
  · split at h
    · cases h; decide +kernel
    · split at h
      · cases h; decide +kernel
      · obtain ⟨x, _, hx⟩ := List.exists_of_findSome?_eq_some h
        exact bad_ok hx
  · cases h; decide +kernel
theorem rsn_ok {t : List Blk} {d : D} {r : Str} (h : rsn t d = some r) : PyData.strOk r = true := by
  unfold rsn at h
  split at h
  · split at h
    · exact frs_ok h
    · cases h; decide +kernel
  · split at h
    · split at h
      · split at h
        · split at h
          · cases h
          · cases h; decide +kernel
        · cases h; decide +kernel
      · cases h; decide +kernel
    · cases h; decide +kernel
  · cases h; decide +kernel

theorem still_encT (t : List Blk) : still (encT t) = true := still_tup fun x hx => by
  obtain ⟨b, _, rfl⟩ := List.mem_map.mp hx; rfl
theorem emp_any {α : Type} (p : α → Bool) (f : α → D) : ∀ l : List α, (!((l.filter p).map f).isEmpty) = l.any p
  | [] => rfl
  | x :: l => by
    rw [List.filter_cons, List.any_cons]
    cases p x with
    | true => rfl
    | false => simpa using emp_any p f l
theorem nice_tips (t : List Blk) {k : Nat} (hk : k ≤ 100) : Nice 1 60 (tipsD t k) := by
  refine (nice_tup (k := 0) (n := 15) (xs := [.str "tips", .int k, sideD t k]) fun x hx => ?_).mono (by decide) (by show 3 * (15 + 1) ≤ 60; decide)
  simp only [List.mem_cons, List.not_mem_nil, or_false] at hx
  rcases hx with rfl | rfl | rfl
  · exact nice_str (by decide +kernel) (by decide)
  · exact (nice_int (k := 10) (Nat.lt_of_le_of_lt (show (k : Int).natAbs ≤ 100 by omega) (by decide)) (by decide)).mono (by decide) (by decide)
  · rcases side_cases t k with e | e | e <;> rw [e]
    · exact nice_str (by decide +kernel) (by decide)
    · exact nice_str (by decide +kernel) (by decide)
    · exact nice_none.mono (by decide) (by decide)
theorem nice_raised (t : List Blk) (h : t.length ≤ 12) : Nice 0 20 (raisedD t) := by
  unfold raisedD
  split
  · rename_i c hc
    have := List.mem_range'_1.mp (List.mem_of_find?_eq_some hc)
    exact (nice_int (k := 10) (Nat.lt_of_le_of_lt (show (c : Int).natAbs ≤ 100 by omega) (by decide)) (by decide)).mono (by decide) (by decide)
  · exact nice_none.mono (by decide) (by decide)
theorem nice_centres {t : List Blk} (ht : BT t) : Nice 2 1200 (.tuple ((List.range t.length).map fun k => encR (ctr t k))) := by
  refine (nice_tup (k := 1) (n := 84) fun x hx => ?_).mono (by decide) ?_
  · obtain ⟨k, hk, rfl⟩ := List.mem_map.mp hx
    exact (nice_R (ctr_sm ht (List.mem_range.mp hk)) (by decide)).mono (by decide) (by decide)
  · rw [List.length_map, List.length_range]; have := ht.2; omega
theorem pap_ne {t : List Blk} {d : D} (e : D) (h : e = papD (rsn t d)) : op2 .ne (papD (rsn t d)) e = .ok (.bool false, false) := by
  subst h
  cases hr : rsn t d with
  | none => rfl
  | some r =>
    have hs : SeqAt.shaped (.tuple [.str "paper", .str r]) = true := by
      show ((PyData.strOk "paper" && (PyData.strOk r && true)) && decide (PyData.depth (.tuple [.str "paper", .str r]) ≤ 64)) = true
      rw [rsn_ok hr, show PyData.strOk "paper" = true by decide +kernel]; rfl
    have := x_ne_shaped (.tuple [.str "paper", .str r]) _ hs hs
    rw [PySem.SeqAt.eqv_refl _ (by
      show (PyData.strOk "paper" && (PyData.strOk r && true)) = true
      rw [rsn_ok hr, show PyData.strOk "paper" = true by decide +kernel]; rfl)] at this
    exact this
theorem pap_is (o : Option Str) : (if isNone (reaD o) then PyData.none else .tuple [.str "paper", reaD o]) = papD o := by cases o <;> rfl
theorem law_c1 (m : Nat) (t : List Blk) (ht : BT t) (a b c : Slot) (s : List Slot) : (evB T (SF.run T sub 100 (m + 3)) L_law_1).v ([a, b, c, .val (encT t), .emp, .emp, .emp, .emp, .emp, .emp, .emp, .emp, .emp, .emp, .emp, .emp, .emp]) =
    .ok (.list ((List.range t.length).map fun k => encR (ctr t k)), true, [a, b, c, .val (encT t), .emp, .emp, .emp, .emp, .emp, .emp, .emp, .emp, .emp, .emp, .emp, .emp, .emp]) := by
  have hr := rangeL_0 t.length
  refine lc_map (List.range t.length) (fun (i : Nat) => PyData.int (i : Int)) (fun k => encR (ctr t k)) (by simp only [encT, List.length_map, smallI_nat (show t.length < 2 ^ 40 by have := ht.2; omega), hr, sx0, sx1, sx2, sx3, sx4, sx5, sx6, sx7, nm1, List.contains_nil, List.contains_cons, List.all_nil, List.all_cons, List.isEmpty_nil, List.isEmpty_cons, List.map_cons, List.map_nil, Bool.decide_eq_true, Bool.and_true, Bool.true_and, Bool.and_false, Bool.false_and, Bool.or_true, Bool.true_or, Bool.or_false, Bool.false_or, Bool.not_true, Bool.not_false, Bool.false_eq_true, Bool.not_eq_true', decide_true, decide_false, if_true, if_false, decide_eq_true_eq, decide_eq_false_iff_not, Int.cast_ofNat_Int, true_and, false_and, and_true, and_false, not_true_eq_false, not_false_eq_true, Int.reduceAdd, Int.reduceSub, Int.reduceMul, Int.reduceLT, Int.reduceLE, Int.reduceEq, Int.reduceNe, List.length_cons, List.length_nil, ↓reduceIte, Nat.reduceAdd, Nat.reduceBEq, Nat.reduceEqDiff, Nat.reduceLeDiff, Int.reduceNeg, reduceCtorEq]) rfl (by rw [List.length_range]; exact lim_12 ht.2)
    (fun k hk => ⟨[a, b, c, .val (encT t), .emp, .emp, .emp, .emp, .emp, .emp, .emp, .emp, .emp, .emp, .emp, .val (.int k), .emp], by simp only [lcT, blank, blankOk, List.set_cons_zero, List.set_cons_succ, law_centre_ok _ t ht k (List.mem_range.mp hk), kx0, kx1, kx2, sx0, sx1, sx2, sx3, sx4, sx5, sx6, sx7, nm1, List.contains_nil, List.contains_cons, List.all_nil, List.all_cons, List.isEmpty_nil, List.isEmpty_cons, List.map_cons, List.map_nil, Bool.decide_eq_true, Bool.and_true, Bool.true_and, Bool.and_false, Bool.false_and, Bool.or_true, Bool.true_or, Bool.or_false, Bool.false_or, Bool.not_true, Bool.not_false, Bool.false_eq_true, Bool.not_eq_true', decide_true, decide_false, if_true, if_false, decide_eq_true_eq, decide_eq_false_iff_not, Int.cast_ofNat_Int, true_and, false_and, and_true, and_false, not_true_eq_false, not_false_eq_true, Int.reduceAdd, Int.reduceSub, Int.reduceMul, Int.reduceLT, Int.reduceLE, Int.reduceEq, Int.reduceNe, List.length_cons, List.length_nil, ↓reduceIte, Nat.reduceAdd, Nat.reduceBEq, Nat.reduceEqDiff, Nat.reduceLeDiff, Int.reduceNeg, reduceCtorEq], rfl⟩)
theorem law_c2 (m : Nat) (t : List Blk) (ht : BT t) (a b c : Slot) (n : Nat) (hn : n ≤ t.length) (s : Option D) : (evB T (SF.run T sub 100 (m + 3)) L_law_2).v ([a, b, c, .val (encT t), .emp, .emp, .emp, .emp, .emp, .emp, .emp, .emp, .emp, .emp, .val (.int n), .opt s, .emp]) =
    .ok (.list (((List.range n).filter fun k => tip? (t.take n) k).map fun (k : Nat) => .int k), true, [a, b, c, .val (encT t), .emp, .emp, .emp, .emp, .emp, .emp, .emp, .emp, .emp, .emp, .val (.int n), .opt s, .emp]) := by
  have hr := rangeL_0 n
  have h12 := ht.2
  refine lc_filter (List.range n) (fun (i : Nat) => PyData.int (i : Int)) (fun k => tip? (t.take n) k) (fun (k : Nat) => .int k) (by simp only [smallI_nat (show n < 2 ^ 40 by omega), hr, sx0, sx1, sx2, sx3, sx4, sx5, sx6, sx7, nm1, List.contains_nil, List.contains_cons, List.all_nil, List.all_cons, List.isEmpty_nil, List.isEmpty_cons, List.map_cons, List.map_nil, Bool.decide_eq_true, Bool.and_true, Bool.true_and, Bool.and_false, Bool.false_and, Bool.or_true, Bool.true_or, Bool.or_false, Bool.false_or, Bool.not_true, Bool.not_false, Bool.false_eq_true, Bool.not_eq_true', decide_true, decide_false, if_true, if_false, decide_eq_true_eq, decide_eq_false_iff_not, Int.cast_ofNat_Int, true_and, false_and, and_true, and_false, not_true_eq_false, not_false_eq_true, Int.reduceAdd, Int.reduceSub, Int.reduceMul, Int.reduceLT, Int.reduceLE, Int.reduceEq, Int.reduceNe, List.length_cons, List.length_nil, ↓reduceIte, Nat.reduceAdd, Nat.reduceBEq, Nat.reduceEqDiff, Nat.reduceLeDiff, Int.reduceNeg, reduceCtorEq]) (by cases s <;> rfl) (by rw [List.length_range]; exact lim_12 (by omega))
    (fun k hk => ⟨[a, b, c, .val (encT t), .emp, .emp, .emp, .emp, .emp, .emp, .emp, .emp, .emp, .emp, .val (.int n), .val (.int k), .emp], ?_, rfl⟩)
  have hs := fun m => law_side_ok m (t.take n) (ht.take n) k (by rw [len_take_le hn]; exact List.mem_range.mp hk)
  simp only [encT, List.map_take] at hs
  simp only [lcT, blank, blankOk, List.set_cons_zero, List.set_cons_succ, encT, hs, kx0, kx1, kx2, sx0, sx1, sx2, sx3, sx4, sx5, sx6, sx7, nm1, List.contains_nil, List.contains_cons, List.all_nil, List.all_cons, List.isEmpty_nil, List.isEmpty_cons, List.map_cons, List.map_nil, Bool.decide_eq_true, Bool.and_true, Bool.true_and, Bool.and_false, Bool.false_and, Bool.or_true, Bool.true_or, Bool.or_false, Bool.false_or, Bool.not_true, Bool.not_false, Bool.false_eq_true, Bool.not_eq_true', decide_true, decide_false, if_true, if_false, decide_eq_true_eq, decide_eq_false_iff_not, Int.cast_ofNat_Int, true_and, false_and, and_true, and_false, not_true_eq_false, not_false_eq_true, Int.reduceAdd, Int.reduceSub, Int.reduceMul, Int.reduceLT, Int.reduceLE, Int.reduceEq, Int.reduceNe, List.length_cons, List.length_nil, ↓reduceIte, Nat.reduceAdd, Nat.reduceBEq, Nat.reduceEqDiff, Nat.reduceLeDiff, Int.reduceNeg, reduceCtorEq]
  unfold tip?
  cases isNone (sideD (t.take n) k) <;> rfl
theorem law_c3 (m : Nat) (t : List Blk) (ht : BT t) (a b c : Slot) : (evB T (SF.run T sub 100 (m + 3)) L_law_3).v ([a, b, c, .val (encT t), .emp, .emp, .emp, .emp, .emp, .emp, .emp, .emp, .emp, .emp, .emp, .emp, .emp]) =
    .ok (.list (((List.range' 1 t.length).filter (falls t)).map fun (n : Nat) => .int n), true, [a, b, c, .val (encT t), .emp, .emp, .emp, .emp, .emp, .emp, .emp, .emp, .emp, .emp, .emp, .emp, .emp]) := by
  have hr : rangeL 1 ((t.length : Int) + 1) = (List.range' 1 t.length).map (fun (i : Nat) => PyData.int (i : Int)) := by
    have := rangeL_n 1 (t.length + 1)
    rw [show t.length + 1 - 1 = t.length by omega] at this
    exact this
  have hs1 : smallI ((t.length : Int) + 1) = true := smallI_nat (n := t.length + 1) (by have := ht.2; omega)
  have hs0 : smallI 1 = true := by decide
  refine lc_filter (List.range' 1 t.length) (fun (i : Nat) => PyData.int (i : Int)) (falls t) (fun (n : Nat) => .int n) (by simp only [encT, List.length_map, hs0, hs1, hr, sx0, sx1, sx2, sx3, sx4, sx5, sx6, sx7, nm1, List.contains_nil, List.contains_cons, List.all_nil, List.all_cons, List.isEmpty_nil, List.isEmpty_cons, List.map_cons, List.map_nil, Bool.decide_eq_true, Bool.and_true, Bool.true_and, Bool.and_false, Bool.false_and, Bool.or_true, Bool.true_or, Bool.or_false, Bool.false_or, Bool.not_true, Bool.not_false, Bool.false_eq_true, Bool.not_eq_true', decide_true, decide_false, if_true, if_false, decide_eq_true_eq, decide_eq_false_iff_not, Int.cast_ofNat_Int, true_and, false_and, and_true, and_false, not_true_eq_false, not_false_eq_true, Int.reduceAdd, Int.reduceSub, Int.reduceMul, Int.reduceLT, Int.reduceLE, Int.reduceEq, Int.reduceNe, List.length_cons, List.length_nil, ↓reduceIte, Nat.reduceAdd, Nat.reduceBEq, Nat.reduceEqDiff, Nat.reduceLeDiff, Int.reduceNeg, reduceCtorEq]) rfl (by rw [List.length_range']; exact lim_12 ht.2)
    (fun n hn => ⟨[a, b, c, .val (encT t), .emp, .emp, .emp, .emp, .emp, .emp, .emp, .emp, .emp, .emp, .val (.int n), .emp, .emp], ?_, rfl⟩)
  have h2 := law_c2 m t ht a b c n (by have := List.mem_range'_1.mp hn; omega) none
  simp only [opt_none] at h2
  simp only [lcT, blank, blankOk, List.set_cons_zero, List.set_cons_succ, h2, emp_any, kx0, kx1, kx2, sx0, sx1, sx2, sx3, sx4, sx5, sx6, sx7, nm1, List.contains_nil, List.contains_cons, List.all_nil, List.all_cons, List.isEmpty_nil, List.isEmpty_cons, List.map_cons, List.map_nil, Bool.decide_eq_true, Bool.and_true, Bool.true_and, Bool.and_false, Bool.false_and, Bool.or_true, Bool.true_or, Bool.or_false, Bool.false_or, Bool.not_true, Bool.not_false, Bool.false_eq_true, Bool.not_eq_true', decide_true, decide_false, if_true, if_false, decide_eq_true_eq, decide_eq_false_iff_not, Int.cast_ofNat_Int, true_and, false_and, and_true, and_false, not_true_eq_false, not_false_eq_true, Int.reduceAdd, Int.reduceSub, Int.reduceMul, Int.reduceLT, Int.reduceLE, Int.reduceEq, Int.reduceNe, List.length_cons, List.length_nil, ↓reduceIte, Nat.reduceAdd, Nat.reduceBEq, Nat.reduceEqDiff, Nat.reduceLeDiff, Int.reduceNeg, reduceCtorEq]
  unfold falls
  split <;> rfl
theorem law_c4 (m : Nat) (t : List Blk) (ht : BT t) (a b c d e : Slot) : (evB T (SF.run T sub 100 (m + 3)) L_law_4).v ([a, b, c, .val (encT t), d, e, .emp, .emp, .emp, .emp, .emp, .emp, .emp, .emp, .emp, .emp, .emp]) =
    .ok (.list (((List.range t.length).filter (tip? t)).map fun (k : Nat) => .tuple [.int k, sideD t k]), true, [a, b, c, .val (encT t), d, e, .emp, .emp, .emp, .emp, .emp, .emp, .emp, .emp, .emp, .emp, .emp]) := by
  have hr := rangeL_0 t.length
  refine lc_filter (List.range t.length) (fun (i : Nat) => PyData.int (i : Int)) (tip? t) (fun (k : Nat) => .tuple [.int k, sideD t k]) (by simp only [encT, List.length_map, smallI_nat (show t.length < 2 ^ 40 by have := ht.2; omega), hr, sx0, sx1, sx2, sx3, sx4, sx5, sx6, sx7, nm1, List.contains_nil, List.contains_cons, List.all_nil, List.all_cons, List.isEmpty_nil, List.isEmpty_cons, List.map_cons, List.map_nil, Bool.decide_eq_true, Bool.and_true, Bool.true_and, Bool.and_false, Bool.false_and, Bool.or_true, Bool.true_or, Bool.or_false, Bool.false_or, Bool.not_true, Bool.not_false, Bool.false_eq_true, Bool.not_eq_true', decide_true, decide_false, if_true, if_false, decide_eq_true_eq, decide_eq_false_iff_not, Int.cast_ofNat_Int, true_and, false_and, and_true, and_false, not_true_eq_false, not_false_eq_true, Int.reduceAdd, Int.reduceSub, Int.reduceMul, Int.reduceLT, Int.reduceLE, Int.reduceEq, Int.reduceNe, List.length_cons, List.length_nil, ↓reduceIte, Nat.reduceAdd, Nat.reduceBEq, Nat.reduceEqDiff, Nat.reduceLeDiff, Int.reduceNeg, reduceCtorEq]) rfl (by rw [List.length_range]; exact lim_12 ht.2)
    (fun k hk => ⟨[a, b, c, .val (encT t), d, e, .emp, .emp, .emp, .emp, .emp, .emp, .emp, .emp, .emp, .val (.int k), .emp], ?_, rfl⟩)
  have hs := fun m => law_side_ok m t ht k (List.mem_range.mp hk)
  simp only [lcT, blank, blankOk, List.set_cons_zero, List.set_cons_succ, hs, kx0, kx1, kx2, sx0, sx1, sx2, sx3, sx4, sx5, sx6, sx7, nm1, List.contains_nil, List.contains_cons, List.all_nil, List.all_cons, List.isEmpty_nil, List.isEmpty_cons, List.map_cons, List.map_nil, Bool.decide_eq_true, Bool.and_true, Bool.true_and, Bool.and_false, Bool.false_and, Bool.or_true, Bool.true_or, Bool.or_false, Bool.false_or, Bool.not_true, Bool.not_false, Bool.false_eq_true, Bool.not_eq_true', decide_true, decide_false, if_true, if_false, decide_eq_true_eq, decide_eq_false_iff_not, Int.cast_ofNat_Int, true_and, false_and, and_true, and_false, not_true_eq_false, not_false_eq_true, Int.reduceAdd, Int.reduceSub, Int.reduceMul, Int.reduceLT, Int.reduceLE, Int.reduceEq, Int.reduceNe, List.length_cons, List.length_nil, ↓reduceIte, Nat.reduceAdd, Nat.reduceBEq, Nat.reduceEqDiff, Nat.reduceLeDiff, Int.reduceNeg, reduceCtorEq]
  unfold tip?
  cases isNone (sideD t k) <;> rfl

theorem law_turns (m : Nat) (sc : D) (ds : List Int) (hd : DrOk ds) (t : List Blk) (ht : TV t) (p : Nat) (hp : p ≤ 1000) (d4 d6 : D) :
    ∃ p' s7 s12 s13, p' ≤ p + 100 ∧ exS T (SF.run T sub 100 (m + 7)) sub 100 L_law_6 [.val sc, .own (encI ds), .own (.list [.int p]), .val (encT t), .own d4, .val (standsD t), .own d6, .emp, .emp, .emp, .emp, .emp, .emp, .emp, .emp, .emp, .emp] =
      .ok (.nx, [.val sc, .own (encI ds), .own (.list [.int (p' : Nat)]), .val (encT t), .own d4, .val (standsD t), .own d6, .opt s7, .emp, .emp, .emp, .emp, .opt s12, .opt s13, .emp, .emp, .emp]) := by
  have hs6 : smallI 6 = true := by decide
  have hr := rangeL_0 6
  simp only [Int.cast_ofNat_Int] at hr
  have hsT := still_encT t
  have hsst : SSt (standsD t) := by
    unfold standsD
    cases h : firstTip t with
    | some k =>
      have hk : k < t.length := List.mem_range.mp (List.mem_of_find?_eq_some h)
      have := ht.bt.2
      exact sst_cons (sst_str _) (sst_cons (sst_nat (by omega)) (sst_cons (sst_side t k) sst_nil))
    | none => exact sst_cons (sst_str _) (sst_cons (sst_forces ht) sst_nil)
  have hbent : ∀ q : Nat, q ≤ 5000 → ∃ d p', SSt d ∧ p' ≤ q + 10 ∧ ∀ m, SF.run T sub 100 (m + 4) 44 [encT t, standsD t, encI ds, .list [.int q]] = .ok ⟨d, false, [.list [.int (p' : Nat)]]⟩ := by
    intro q hq
    unfold standsD
    cases h : firstTip t with
    | some k => exact bent_tips ds hd t ht k (List.mem_range.mp (List.mem_of_find?_eq_some h)) q (by omega)
    | none => exact bent_stands ds hd t ht q (by omega)
  unfold L_law_6
  simp only [zs_for, hs6, hr, sx0, sx1, sx2, sx3, sx4, sx5, sx6, sx7, nm1, List.contains_nil, List.contains_cons, List.all_nil, List.all_cons, List.isEmpty_nil, List.isEmpty_cons, List.map_cons, List.map_nil, Bool.decide_eq_true, Bool.and_true, Bool.true_and, Bool.and_false, Bool.false_and, Bool.or_true, Bool.true_or, Bool.or_false, Bool.false_or, Bool.not_true, Bool.not_false, Bool.false_eq_true, Bool.not_eq_true', decide_true, decide_false, if_true, if_false, decide_eq_true_eq, decide_eq_false_iff_not, Int.cast_ofNat_Int, true_and, false_and, and_true, and_false, not_true_eq_false, not_false_eq_true, Int.reduceAdd, Int.reduceSub, Int.reduceMul, Int.reduceLT, Int.reduceLE, Int.reduceEq, Int.reduceNe, List.length_cons, List.length_nil, ↓reduceIte, Nat.reduceAdd, Nat.reduceBEq, Nat.reduceEqDiff, Nat.reduceLeDiff, Int.reduceNeg, reduceCtorEq]
  obtain ⟨nv', h1, q, s7, s12, s13, h2, h3, h4⟩ := for_all (b := foT T (SF.run T sub 100 (m + 7)) sub 100 (Tg.n 7) L_law_5) (fun (i : Nat) => PyData.int (i : Int))
    (fun rest nv => ∃ (q : Nat) (s7 s12 s13 : Option D), nv = [.val sc, .own (encI ds), .own (.list [.int (q : Nat)]), .val (encT t), .own d4, .val (standsD t), .own d6, .opt s7, .emp, .emp, .emp, .emp, .opt s12, .opt s13, .emp, .emp, .emp] ∧ q + 10 * rest.length ≤ p + 60 ∧ rest.length ≤ 6)
    (List.range 6) [.val sc, .own (encI ds), .own (.list [.int p]), .val (encT t), .own d4, .val (standsD t), .own d6, .emp, .emp, .emp, .emp, .emp, .emp, .emp, .emp, .emp, .emp]
    ⟨p, none, none, none, rfl, by simp, by simp⟩ (by
      rintro i rest nv ⟨q, s7, s12, s13, rfl, hq, hl⟩
      rw [List.length_cons] at hq hl
      by_cases hi : 0 < i
      · obtain ⟨d, p', hds, hp', e⟩ := hbent q (by omega)
        have hi' : (0 : Int) < (i : Int) := by omega
        have a1 := fun m => law_reason_ok m t ht.bt d hds.1
        have a2 := fun m => told_3 m t ht d hds.1
        have a3 := pap_ne _ (pap_is (rsn t d))
        refine ⟨_, ?_, p', some (.int i), some d, some (reaD (rsn t d)), rfl, by omega, by omega⟩
        simp only [foT, L_law_5, hi', e, hds.2, a1, a2, a3, opt_some, kx0, kx1, kx2, sx0, sx1, sx2, sx3, sx4, sx5, sx6, sx7, nm1, List.contains_nil, List.contains_cons, List.all_nil, List.all_cons, List.isEmpty_nil, List.isEmpty_cons, List.map_cons, List.map_nil, Bool.decide_eq_true, Bool.and_true, Bool.true_and, Bool.and_false, Bool.false_and, Bool.or_true, Bool.true_or, Bool.or_false, Bool.false_or, Bool.not_true, Bool.not_false, Bool.false_eq_true, Bool.not_eq_true', decide_true, decide_false, if_true, if_false, decide_eq_true_eq, decide_eq_false_iff_not, Int.cast_ofNat_Int, true_and, false_and, and_true, and_false, not_true_eq_false, not_false_eq_true, Int.reduceAdd, Int.reduceSub, Int.reduceMul, Int.reduceLT, Int.reduceLE, Int.reduceEq, Int.reduceNe, List.length_cons, List.length_nil, ↓reduceIte, Nat.reduceAdd, Nat.reduceBEq, Nat.reduceEqDiff, Nat.reduceLeDiff, Int.reduceNeg, reduceCtorEq]
      · have hi' : ¬ (0 : Int) < (i : Int) := by omega
        have a1 := fun m => law_reason_ok m t ht.bt (standsD t) hsst.1
        have a2 := fun m => told_3 m t ht (standsD t) hsst.1
        have a3 := pap_ne _ (pap_is (rsn t (standsD t)))
        refine ⟨_, ?_, q, some (.int i), some (standsD t), some (reaD (rsn t (standsD t))), rfl, by omega, by omega⟩
        simp only [foT, L_law_5, hi', a1, a2, a3, opt_some, kx0, kx1, kx2, sx0, sx1, sx2, sx3, sx4, sx5, sx6, sx7, nm1, List.contains_nil, List.contains_cons, List.all_nil, List.all_cons, List.isEmpty_nil, List.isEmpty_cons, List.map_cons, List.map_nil, Bool.decide_eq_true, Bool.and_true, Bool.true_and, Bool.and_false, Bool.false_and, Bool.or_true, Bool.true_or, Bool.or_false, Bool.false_or, Bool.not_true, Bool.not_false, Bool.false_eq_true, Bool.not_eq_true', decide_true, decide_false, if_true, if_false, decide_eq_true_eq, decide_eq_false_iff_not, Int.cast_ofNat_Int, true_and, false_and, and_true, and_false, not_true_eq_false, not_false_eq_true, Int.reduceAdd, Int.reduceSub, Int.reduceMul, Int.reduceLT, Int.reduceLE, Int.reduceEq, Int.reduceNe, List.length_cons, List.length_nil, ↓reduceIte, Nat.reduceAdd, Nat.reduceBEq, Nat.reduceEqDiff, Nat.reduceLeDiff, Int.reduceNeg, reduceCtorEq])
  rw [h1, h2]
  exact ⟨q, s7, s12, s13, by omega, rfl⟩
theorem law_c7 (call : Call) (a b c d e f g h i j k l n : Slot) : (evB T call L_law_7).v [a, b, c, d, e, f, g, h, i, j, .emp, .emp, k, l, n, .emp, .emp] = .ok (.list ((List.range 13).map fun (n : Nat) => .tuple [.str (("n" : Str) ++ (Str.ofString (toString (n : Int)))), .int 0, .int 5, .int 1]), true, [a, b, c, d, e, f, g, h, i, j, .emp, .emp, k, l, n, .emp, .emp]) := by
  have hr := rangeL_0 13
  have hs : smallI 13 = true := by decide
  simp only [Int.cast_ofNat_Int] at hr
  refine lc_map (List.range 13) (fun (i : Nat) => PyData.int (i : Int)) _ (by simp only [hr, hs, sx0, sx1, sx2, sx3, sx4, sx5, sx6, sx7, nm1, List.contains_nil, List.contains_cons, List.all_nil, List.all_cons, List.isEmpty_nil, List.isEmpty_cons, List.map_cons, List.map_nil, Bool.decide_eq_true, Bool.and_true, Bool.true_and, Bool.and_false, Bool.false_and, Bool.or_true, Bool.true_or, Bool.or_false, Bool.false_or, Bool.not_true, Bool.not_false, Bool.false_eq_true, Bool.not_eq_true', decide_true, decide_false, if_true, if_false, decide_eq_true_eq, decide_eq_false_iff_not, Int.cast_ofNat_Int, true_and, false_and, and_true, and_false, not_true_eq_false, not_false_eq_true, Int.reduceAdd, Int.reduceSub, Int.reduceMul, Int.reduceLT, Int.reduceLE, Int.reduceEq, Int.reduceNe, List.length_cons, List.length_nil, ↓reduceIte, Nat.reduceAdd, Nat.reduceBEq, Nat.reduceEqDiff, Nat.reduceLeDiff, Int.reduceNeg, reduceCtorEq]) rfl (by rw [List.length_range]; exact lim_k (by decide))
    (fun q hq => ⟨[a, b, c, d, e, f, g, h, i, j, .emp, .emp, k, l, n, .val (.int q), .emp], ?_, rfl⟩)
  have hq := List.mem_range.mp hq
  have h1 := y_str (q : Int) (by have := log2_le (show (q : Int).natAbs < 2 ^ 4 by omega); omega)
  have h2 := x_addS ("n" : Str) (Str.ofString (toString (q : Int))) (by
    have := PyProof.Rows.int_text_len_1921 (i := (q : Int)) (by have := log2_le (show (q : Int).natAbs < 2 ^ 4 by omega); omega)
    have h1 : ("n" : Str).length = 1 := rfl
    unfold lim; omega)
  simp only [lcT, blank, blankOk, List.set_cons_zero, List.set_cons_succ, h1, h2, kx0, kx1, kx2, sx0, sx1, sx2, sx3, sx4, sx5, sx6, sx7, nm1, List.contains_nil, List.contains_cons, List.all_nil, List.all_cons, List.isEmpty_nil, List.isEmpty_cons, List.map_cons, List.map_nil, Bool.decide_eq_true, Bool.and_true, Bool.true_and, Bool.and_false, Bool.false_and, Bool.or_true, Bool.true_or, Bool.or_false, Bool.false_or, Bool.not_true, Bool.not_false, Bool.false_eq_true, Bool.not_eq_true', decide_true, decide_false, if_true, if_false, decide_eq_true_eq, decide_eq_false_iff_not, Int.cast_ofNat_Int, true_and, false_and, and_true, and_false, not_true_eq_false, not_false_eq_true, Int.reduceAdd, Int.reduceSub, Int.reduceMul, Int.reduceLT, Int.reduceLE, Int.reduceEq, Int.reduceNe, List.length_cons, List.length_nil, ↓reduceIte, Nat.reduceAdd, Nat.reduceBEq, Nat.reduceEqDiff, Nat.reduceLeDiff, Int.reduceNeg, reduceCtorEq]
theorem law_c8 (m : Nat) (a b c d e f g h i j k l n p q : Slot) (w : D) (hw : NoTower w) : (evB T (SF.run T sub 100 (m + 7)) L_law_8).v [a, b, c, d, e, f, g, h, i, j, k, .val w, l, n, p, q, .emp] = .ok (.list [.tuple [.str "argument", .str "tower"], .tuple [.str "argument", .str "tower"], .tuple [.str "argument", .str "tower"], .tuple [.str "argument", .str "tower"], .tuple [.str "argument", .str "tower"]], true, [a, b, c, d, e, f, g, h, i, j, k, .val w, l, n, p, q, .emp]) := by
  have hr := rangeL_0 5
  have hs : smallI 5 = true := by decide
  simp only [Int.cast_ofNat_Int] at hr
  have := lc_map (T := T) (call := SF.run T sub 100 (m + 7)) (own := [16]) (tg := (Tg.n 16)) (it := (CI.rng (CEs.cons (CE.k (.int 5)) CEs.nil))) (cond := (CE.k (.bool true))) (elt := (CE.call 43 (CEs.cons (CE.v 16) (CEs.cons (CE.v 11) (CEs.cons (CE.k .none) CEs.nil)))))
    (nv := [a, b, c, d, e, f, g, h, i, j, k, .val w, l, n, p, q, .emp]) (nv1 := [a, b, c, d, e, f, g, h, i, j, k, .val w, l, n, p, q, .emp])
    (List.range 5) (fun (i : Nat) => PyData.int (i : Int)) (fun _ => .tuple [.str "argument", .str "tower"]) (by simp only [hr, hs, sx0, sx1, sx2, sx3, sx4, sx5, sx6, sx7, nm1, List.contains_nil, List.contains_cons, List.all_nil, List.all_cons, List.isEmpty_nil, List.isEmpty_cons, List.map_cons, List.map_nil, Bool.decide_eq_true, Bool.and_true, Bool.true_and, Bool.and_false, Bool.false_and, Bool.or_true, Bool.true_or, Bool.or_false, Bool.false_or, Bool.not_true, Bool.not_false, Bool.false_eq_true, Bool.not_eq_true', decide_true, decide_false, if_true, if_false, decide_eq_true_eq, decide_eq_false_iff_not, Int.cast_ofNat_Int, true_and, false_and, and_true, and_false, not_true_eq_false, not_false_eq_true, Int.reduceAdd, Int.reduceSub, Int.reduceMul, Int.reduceLT, Int.reduceLE, Int.reduceEq, Int.reduceNe, List.length_cons, List.length_nil, ↓reduceIte, Nat.reduceAdd, Nat.reduceBEq, Nat.reduceEqDiff, Nat.reduceLeDiff, Int.reduceNeg, reduceCtorEq]) rfl (by rw [List.length_range]; exact lim_k (by decide))
    (fun x hx => ⟨[a, b, c, d, e, f, g, h, i, j, k, .val w, l, n, p, q, .val (.int x)], by simp only [lcT, blank, blankOk, List.set_cons_zero, List.set_cons_succ, told_no w hw x (List.mem_range.mp hx), kx0, kx1, kx2, sx0, sx1, sx2, sx3, sx4, sx5, sx6, sx7, nm1, List.contains_nil, List.contains_cons, List.all_nil, List.all_cons, List.isEmpty_nil, List.isEmpty_cons, List.map_cons, List.map_nil, Bool.decide_eq_true, Bool.and_true, Bool.true_and, Bool.and_false, Bool.false_and, Bool.or_true, Bool.true_or, Bool.or_false, Bool.false_or, Bool.not_true, Bool.not_false, Bool.false_eq_true, Bool.not_eq_true', decide_true, decide_false, if_true, if_false, decide_eq_true_eq, decide_eq_false_iff_not, Int.cast_ofNat_Int, true_and, false_and, and_true, and_false, not_true_eq_false, not_false_eq_true, Int.reduceAdd, Int.reduceSub, Int.reduceMul, Int.reduceLT, Int.reduceLE, Int.reduceEq, Int.reduceNe, List.length_cons, List.length_nil, ↓reduceIte, Nat.reduceAdd, Nat.reduceBEq, Nat.reduceEqDiff, Nat.reduceLeDiff, Int.reduceNeg, reduceCtorEq], rfl⟩)
  exact this
theorem list_eq_self {d : D} (h : d.canLay0 = true) (h2 : d.depth ≤ 64) : op2 .eq d d = .ok (.bool true, false) := by
  have hs : SeqAt.shaped d = true := by
    show (d.canLay0 && decide (d.depth ≤ 64)) = true
    rw [h, decide_eq_true h2]; rfl
  rw [x_eq_shaped d d hs hs, PySem.SeqAt.eqv_refl d h]
theorem law_ok (m : Nat) (ns : List Int) (hl : ns.length ≤ 63) : SF.run T sub 100 (m + 8) 45 [.list (ns.map .int)] = .ok ⟨.bool true, false, []⟩ := by
  obtain ⟨ds, hd, e0⟩ := draws_ok (m + 6) ns hl
  obtain ⟨mx, hmx, e1⟩ := one_int ds 0 [2, 5, 12] hd (by unfold PlOk; decide) (by simp)
  have hmx : 1 ≤ mx ∧ mx ≤ 12 := by simp at hmx; omega
  obtain ⟨t, p1, ht, hp1, e2⟩ := tower_ok (m + 3) ds hd mx hmx 1 (by decide)
  obtain ⟨p2, s7, s12, s13, hp2, e3⟩ := law_turns m (.list (ns.map .int)) ds hd t ht p1 (by omega)
    (.list (((List.range' 1 t.length).filter (falls t)).map fun (n : Nat) => .int n)) (.list (((List.range t.length).filter (tip? t)).map fun (k : Nat) => .tuple [.int k, sideD t k]))
  obtain ⟨w, hw, e4⟩ := one_l ds p2 wrongs hd (by unfold PlOk; omega) (by unfold wrongs; simp)
  have hnw := wrong_all w hw
  have hsw : still w = true := by
    have : ∀ d ∈ wrongs, still d = true := by
      unfold wrongs
      simp only [List.forall_mem_cons]
      refine ⟨rfl, rfl, rfl, rfl, rfl, rfl, rfl, rfl, rfl, rfl, rfl, rfl, ?_, rfl, rfl, fun _ h => nomatch h⟩
      exact still_tup fun x hx => by obtain ⟨n, _, rfl⟩ := List.mem_map.mp hx; rfl
    exact this w hw
  have hb := ht.bt
  have h12 := hb.2
  have c1 := law_c1 (m + 4) t hb (.val (.list (ns.map .int))) (.own (encI ds)) (.own (.list [.int p1])) []
  have c3 := law_c3 (m + 4) t hb (.val (.list (ns.map .int))) (.own (encI ds)) (.own (.list [.int p1]))
  have c4 := law_c4 (m + 4) t hb (.val (.list (ns.map .int))) (.own (encI ds)) (.own (.list [.int p1])) (.own (.list (((List.range' 1 t.length).filter (falls t)).map fun (n : Nat) => .int n))) (.val (standsD t))
  have f1 := fun m => told_1 m t ht
  have f2 := fun m => told_2 m t ht
  have f0 := fun m => told_0 m t ht
  have g1 := fun m => same_as_ok m _ _ _ (nice_centres hb) (by decide) (by decide)
  have g2 := fun m => same_as_ok m _ _ _ (nice_raised t h12) (by decide) (by decide)
  have hFL : ((((List.range' 1 t.length).filter (falls t)).map fun (n : Nat) => PyData.int n) = [] ∧ raisedD t = .none) ∨ ∃ x l, (((List.range' 1 t.length).filter (falls t)).map fun (n : Nat) => PyData.int n) = x :: l ∧ raisedD t = x := by
    unfold raisedD
    cases hf : ((List.range' 1 t.length).filter (falls t)) with
    | nil =>
      have : (List.range' 1 t.length).find? (falls t) = none := by
        rw [← List.head?_filter, hf]; rfl
      rw [this]; exact .inl ⟨rfl, rfl⟩
    | cons x l =>
      have : (List.range' 1 t.length).find? (falls t) = some x := by
        rw [← List.head?_filter, hf]; rfl
      rw [this]; exact .inr ⟨_, _, rfl, rfl⟩
  have hSL : ((((List.range t.length).filter (tip? t)).map fun (k : Nat) => PyData.tuple [.int k, sideD t k]) = [] ∧ ∃ F, standsD t = .tuple [.str "stands", F]) ∨ ∃ k l, k < 13 ∧ (((List.range t.length).filter (tip? t)).map fun (k : Nat) => PyData.tuple [.int k, sideD t k]) = .tuple [.int (k : Nat), sideD t k] :: l ∧ standsD t = tipsD t k := by
    cases hf : ((List.range t.length).filter (tip? t)) with
    | nil =>
      have : firstTip t = none := by
        unfold firstTip; rw [← List.head?_filter, hf]; rfl
      refine .inl ⟨rfl, forcesD t, ?_⟩
      unfold standsD; rw [this]
    | cons x l =>
      have h : firstTip t = some x := by
        unfold firstTip; rw [← List.head?_filter, hf]; rfl
      have hk : x < t.length := List.mem_range.mp (List.mem_of_find?_eq_some h)
      refine .inr ⟨x, _, by omega, rfl, ?_⟩
      unfold standsD; rw [h]
  have gr := fun m => law_reason_ok m t hb (standsD t) (by
    unfold standsD
    cases h : firstTip t with
    | some k =>
      have hk : k < t.length := List.mem_range.mp (List.mem_of_find?_eq_some h)
      exact (sst_cons (sst_str _) (sst_cons (sst_nat (by omega)) (sst_cons (sst_side t k) sst_nil))).1
    | none => exact (sst_cons (sst_str _) (sst_cons (sst_forces ht) sst_nil)).1)
  rw [told_good ht] at gr
  have hsT := still_encT t
  have m5 := x_mulL [.tuple [.str "argument", .str "tower"]] 5 (by decide)
  have m5' : (List.replicate (5 : Int).toNat [PyData.tuple [.str "argument", .str "tower"]]).flatten = [.tuple [.str "argument", .str "tower"], .tuple [.str "argument", .str "tower"], .tuple [.str "argument", .str "tower"], .tuple [.str "argument", .str "tower"], .tuple [.str "argument", .str "tower"]] := rfl
  rw [m5'] at m5
  have eq5 := list_eq_self (d := .list [.tuple [.str "argument", .str "tower"], .tuple [.str "argument", .str "tower"], .tuple [.str "argument", .str "tower"], .tuple [.str "argument", .str "tower"], .tuple [.str "argument", .str "tower"]]) (by decide +kernel) (by decide +kernel)
  have ga : ∀ k : Nat, k < 13 → ∀ m, SF.run T sub 100 (m + 1) 39 [tipsD t k, tipsD t k] = .ok ⟨.bool true, false, []⟩ := fun k hk m => same_as_ok m _ _ _ (nice_tips t (by omega)) (by decide) (by decide)
  have at3 : ∀ k : Nat, op2 .add (.tuple [.str "tips"]) (.tuple [.int (k : Nat), sideD t k]) = .ok (tipsD t k, false) := fun k => x_addT _ _ (show 3 ≤ lim by decide)
  have ct3 : cutD (.tuple [.str "a", .int 0, .int 5, .int 1]) none (some 3) = .ok (.tuple [.str "a", .int 0, .int 5], false) := cutD_tt _ 3
  have ad1 := x_addL [.none, .tuple [], .tuple [rowA, rowA], .tuple [rowA, .tuple [.str "b", .int 6, .int 5, .int 1]], .tuple [rowA, .tuple [.str "b", .int (-6), .int 5, .int 1]],
    .tuple [.tuple [.str "a", .int 0, .int 5]], .tuple [.tuple [.str "a", .int 0, .int 0, .int 1]], .tuple [.tuple [.str "a", .int 1001, .int 5, .int 1]]]
    [.tuple [.tuple [.str "a", .int 0, .int 1001, .int 1]], .tuple [.tuple [.str "a", .int 0, .int 5, .int 0]], .tuple [.tuple [.int 5, .int 0, .int 5, .int 1]], .tuple [.tuple [.str "a", .bool true, .int 5, .int 1]]] (show 12 ≤ lim by decide)
  have ad2 := x_addL [.none, .tuple [], .tuple [rowA, rowA], .tuple [rowA, .tuple [.str "b", .int 6, .int 5, .int 1]], .tuple [rowA, .tuple [.str "b", .int (-6), .int 5, .int 1]],
    .tuple [.tuple [.str "a", .int 0, .int 5]], .tuple [.tuple [.str "a", .int 0, .int 0, .int 1]], .tuple [.tuple [.str "a", .int 1001, .int 5, .int 1]],
    .tuple [.tuple [.str "a", .int 0, .int 1001, .int 1]], .tuple [.tuple [.str "a", .int 0, .int 5, .int 0]], .tuple [.tuple [.int 5, .int 0, .int 5, .int 1]], .tuple [.tuple [.str "a", .bool true, .int 5, .int 1]]]
    [farT, .str "tower", .tuple [.tuple [.str "a", .int 0, .int 5, .int 1000001]]] (show 15 ≤ lim by decide)
  simp only [List.cons_append, List.nil_append] at ad1 ad2
  simp only [rowA] at ad1 ad2
  simp only [wrongs, rowA] at e4
  have c7 := law_c7 (SF.run T sub 100 (m + 7))
  rw [show PyData.list ((List.range 13).map fun (n : Nat) => PyData.tuple [.str (("n" : Str) ++ (Str.ofString (toString (n : Int)))), .int 0, .int 5, .int 1]) = PyData.list ((List.range 13).map fun (n : Nat) => PyData.tuple [.str (("n" : Str) ++ (Str.ofString (toString (n : Int)))), .int 0, .int 5, .int 1]) from rfl] at c7
  have far_eq : PyData.tuple ((List.range 13).map fun (n : Nat) => PyData.tuple [.str (("n" : Str) ++ (Str.ofString (toString (n : Int)))), .int 0, .int 5, .int 1]) = farT := rfl
  have c8 := fun a b c d e f g h i j k l n p q => law_c8 m a b c d e f g h i j k l n p q w hnw
  simp only [List.map_cons, List.map_nil, Int.cast_ofNat_Int] at e1
  simp only [Int.cast_ofNat_Int] at e2
  generalize (((List.range' 1 t.length).filter (falls t)).map fun (n : Nat) => PyData.int n) = FL at hFL c3 c4 e3
  generalize (((List.range t.length).filter (tip? t)).map fun (k : Nat) => PyData.tuple [.int k, sideD t k]) = SL at hSL c4 e3
  generalize ((List.range t.length).map fun k => encR (ctr t k)) = CL at c1 f1 g1
  rw [r_law]
  rcases hFL with ⟨rfl, hR⟩ | ⟨x, l, rfl, hR⟩
  · rw [hR] at f2 g2
    rcases hSL with ⟨rfl, F, hS⟩ | ⟨k, l2, hk, rfl, hS⟩
    · rw [hS] at c4 e3 f0 gr
      simp only [B_law, e0, e1, e2, e3, e4, c1, c3, c4, c7, c8, f0, f1, f2, g1, g2, gr, hsT, hsw, at3, ct3, ad1, ad2, far_eq, m5, eq5, reaD, kx0, kx1, kx2, sx0, sx1, sx2, sx3, sx4, sx5, sx6, sx7, nm1, List.contains_nil, List.contains_cons, List.all_nil, List.all_cons, List.isEmpty_nil, List.isEmpty_cons, List.map_cons, List.map_nil, Bool.decide_eq_true, Bool.and_true, Bool.true_and, Bool.and_false, Bool.false_and, Bool.or_true, Bool.true_or, Bool.or_false, Bool.false_or, Bool.not_true, Bool.not_false, Bool.false_eq_true, Bool.not_eq_true', decide_true, decide_false, if_true, if_false, decide_eq_true_eq, decide_eq_false_iff_not, Int.cast_ofNat_Int, true_and, false_and, and_true, and_false, not_true_eq_false, not_false_eq_true, Int.reduceAdd, Int.reduceSub, Int.reduceMul, Int.reduceLT, Int.reduceLE, Int.reduceEq, Int.reduceNe, List.length_cons, List.length_nil, ↓reduceIte, Nat.reduceAdd, Nat.reduceBEq, Nat.reduceEqDiff, Nat.reduceLeDiff, Int.reduceNeg, reduceCtorEq]
    · rw [hS] at c4 e3 f0 gr
      simp only [B_law, e0, e1, e2, e3, e4, c1, c3, c4, c7, c8, f0, f1, f2, g1, g2, gr, ga k hk, hsT, hsw, at3, ct3, ad1, ad2, far_eq, m5, eq5, reaD, kx0, kx1, kx2, sx0, sx1, sx2, sx3, sx4, sx5, sx6, sx7, nm1, List.contains_nil, List.contains_cons, List.all_nil, List.all_cons, List.isEmpty_nil, List.isEmpty_cons, List.map_cons, List.map_nil, Bool.decide_eq_true, Bool.and_true, Bool.true_and, Bool.and_false, Bool.false_and, Bool.or_true, Bool.true_or, Bool.or_false, Bool.false_or, Bool.not_true, Bool.not_false, Bool.false_eq_true, Bool.not_eq_true', decide_true, decide_false, if_true, if_false, decide_eq_true_eq, decide_eq_false_iff_not, Int.cast_ofNat_Int, true_and, false_and, and_true, and_false, not_true_eq_false, not_false_eq_true, Int.reduceAdd, Int.reduceSub, Int.reduceMul, Int.reduceLT, Int.reduceLE, Int.reduceEq, Int.reduceNe, List.length_cons, List.length_nil, ↓reduceIte, Nat.reduceAdd, Nat.reduceBEq, Nat.reduceEqDiff, Nat.reduceLeDiff, Int.reduceNeg, reduceCtorEq]
  · rw [hR] at f2 g2
    rcases hSL with ⟨rfl, F, hS⟩ | ⟨k, l2, hk, rfl, hS⟩
    · rw [hS] at c4 e3 f0 gr
      simp only [B_law, e0, e1, e2, e3, e4, c1, c3, c4, c7, c8, f0, f1, f2, g1, g2, gr, hsT, hsw, at3, ct3, ad1, ad2, far_eq, m5, eq5, reaD, kx0, kx1, kx2, sx0, sx1, sx2, sx3, sx4, sx5, sx6, sx7, nm1, List.contains_nil, List.contains_cons, List.all_nil, List.all_cons, List.isEmpty_nil, List.isEmpty_cons, List.map_cons, List.map_nil, Bool.decide_eq_true, Bool.and_true, Bool.true_and, Bool.and_false, Bool.false_and, Bool.or_true, Bool.true_or, Bool.or_false, Bool.false_or, Bool.not_true, Bool.not_false, Bool.false_eq_true, Bool.not_eq_true', decide_true, decide_false, if_true, if_false, decide_eq_true_eq, decide_eq_false_iff_not, Int.cast_ofNat_Int, true_and, false_and, and_true, and_false, not_true_eq_false, not_false_eq_true, Int.reduceAdd, Int.reduceSub, Int.reduceMul, Int.reduceLT, Int.reduceLE, Int.reduceEq, Int.reduceNe, List.length_cons, List.length_nil, ↓reduceIte, Nat.reduceAdd, Nat.reduceBEq, Nat.reduceEqDiff, Nat.reduceLeDiff, Int.reduceNeg, reduceCtorEq]
    · rw [hS] at c4 e3 f0 gr
      simp only [B_law, e0, e1, e2, e3, e4, c1, c3, c4, c7, c8, f0, f1, f2, g1, g2, gr, ga k hk, hsT, hsw, at3, ct3, ad1, ad2, far_eq, m5, eq5, reaD, kx0, kx1, kx2, sx0, sx1, sx2, sx3, sx4, sx5, sx6, sx7, nm1, List.contains_nil, List.contains_cons, List.all_nil, List.all_cons, List.isEmpty_nil, List.isEmpty_cons, List.map_cons, List.map_nil, Bool.decide_eq_true, Bool.and_true, Bool.true_and, Bool.and_false, Bool.false_and, Bool.or_true, Bool.true_or, Bool.or_false, Bool.false_or, Bool.not_true, Bool.not_false, Bool.false_eq_true, Bool.not_eq_true', decide_true, decide_false, if_true, if_false, decide_eq_true_eq, decide_eq_false_iff_not, Int.cast_ofNat_Int, true_and, false_and, and_true, and_false, not_true_eq_false, not_false_eq_true, Int.reduceAdd, Int.reduceSub, Int.reduceMul, Int.reduceLT, Int.reduceLE, Int.reduceEq, Int.reduceNe, List.length_cons, List.length_nil, ↓reduceIte, Nat.reduceAdd, Nat.reduceBEq, Nat.reduceEqDiff, Nat.reduceLeDiff, Int.reduceNeg, reduceCtorEq]

theorem plain (ns : List Int) (hl : ns.length ≤ 63) : ∃ ow, SF.run T L.sub L.W 38 45 [.list (ns.map .int)] = .ok ⟨.bool true, ow, []⟩ := ⟨_, law_ok 30 ns hl⟩
end LT
open PySem PySem.W PySem.Calls PyProof.Rows
theorem PySem.Challenge.cw_standsfirm_k56_whole_towers_holds : PySem.Challenge.rw_standsfirm_k56_whole_towers.Holds := by
  w_on; o_law
  refine HandSHeadRun.head_any (r := OpenLaw.row PySem.Challenge.rw_standsfirm_k56_whole_towers) (q := view (OpenLaw.row PySem.Challenge.rw_standsfirm_k56_whole_towers).prog [59]) (H := LT.hk) (ob := LT.ob) (M := 8000) (loose := LT.loose) (d := HandSHeadRun.topDef (OpenLaw.row PySem.Challenge.rw_standsfirm_k56_whole_towers).prog 59) (kwd := []) LT.ob_eq
    (by kernel_rfl) (fun s => by kernel_rfl) LT.head_run (by kernel_rfl) (by kernel_rfl) (by kernel_rfl) (by rfl) (by first | assumption | decide +kernel) (by decide +kernel) ⟨rfl, rfl, rfl, rfl, rfl, by decide +kernel⟩ ?hw ?hc
  case hw => w_witness2
  case hc =>
    refine SF.walk_ofF (l := PySem.Challenge.rw_standsfirm_k56_whole_towers) (n := 63) (k := 38 + 2) (x := "script") rfl (by decide) (by kernel_rfl) ⟨rfl, by decide, by decide⟩ ?F
    intro w mg fa h Y G hmg0
    have hmg : mg ("law" : PySem.Str) = some (.ref fa) := by
      have e : (HandSHeadRun.topDef (OpenLaw.row PySem.Challenge.rw_standsfirm_k56_whole_towers).prog 59).name = ("law" : PySem.Str) := by kernel_rfl
      rw [← e]
      exact hmg0
    exact SF.facts_of (P := PySem.Challenge.pw_standsfirm_k56_whole_towers) (li := 45) (M := 38) (n := 63) (sl := LT.s_law) (x := "script") (w := w) LT.hT rfl rfl rfl rfl rfl (by kernel_rfl) (by decide) LT.binds LT.plain Y G hmg
