import PyProof.Rows.All
import Wide.All
import OpenK.AllK
import Wide.FinOn
import PySem.Challenge.RW_corrigenda_k03_how_many_values
import KE.KeyNested
import KE.LtSeq
import HandS.ForMost
import HandS.Exc
import HandS.ExcValue
import HandS.TupAny
import HandS.Flow
import HandS.TupMul
import HandS.Zip
import HandS.RaiseMore
import HandS.ExcIs
import KE.GoesEnum
import HandS.Style
import HandS.IsInst
import HandS.Lambda
import HandS.ExcCtx
import HandS.HotCalls
import KE.KExcStr
import HandS.GenList
import HandS.AnyAll
import HandS.Defaults
import HandS.HeadEnd
import HandS.Head2
import HandS.HeadHook4
import HandS.HeadWalk
import HandS.HeadHook1
import PyProof.ExcBaseAll.ValueError
set_option Elab.async false
set_option linter.all false
set_option warn.classDefReducibility false
set_option linter.all false
set_option autoImplicit false
namespace Cg
/-- the texts that stand in the program and the laws -/
inductive W
  | number | record | choice | row | set | bag | table | same | only | turn | keep | cut | add | mend | in_ | out | nothing | end_ | none_
  | value | kind | patch | unfit | all_ | empty | let_ | several | x | change | made | refused | told | rows | zero | other | quarrel
  deriving DecidableEq, Repr
/-- data -/
inductive D
  | non | bool (b : Bool) | int (i : Int) | str (w : W) | tup (l : List D) | lst (l : List D) | dct (l : List (D × D)) | exc (c : Nat) | rep (d : D) | scr (l : List Int)
  deriving Repr, Inhabited
inductive R (α : Type)
  | ok (a : α) | exc (c : Nat) | bad
  deriving Repr
namespace R
@[inline] def bind {α β : Type} : R α → (α → R β) → R β
  | ok a, f => f a
  | exc c, _ => exc c
  | bad, _ => bad
instance : Monad R where
  pure := ok
  bind := bind
@[simp] theorem bind_ok {α β : Type} (a : α) (f : α → R β) : (ok a >>= f) = f a := rfl
@[simp] theorem bind_exc {α β : Type} (c : Nat) (f : α → R β) : (exc c >>= f) = exc c := rfl
@[simp] theorem bind_bad {α β : Type} (f : α → R β) : (bad >>= f) = bad := rfl
def guard (b : Bool) : R Unit := if b then ok () else bad
end R
open R

/-! ### data: equality, order, truth -/
def b2i (b : Bool) : Int := if b then 1 else 0
namespace D
mutual
def eqv : D → D → Bool
  | .non, .non => true
  | .bool a, .bool b => a == b
  | .bool a, .int j => b2i a == j
  | .int i, .bool b => i == b2i b
  | .int i, .int j => i == j
  | .str a, .str b => a == b
  | .tup a, .tup b => eqvs a b
  | .lst a, .lst b => eqvs a b
  | _, _ => false
def eqvs : List D → List D → Bool
  | [], [] => true
  | a :: as, b :: bs => eqv a b && eqvs as bs
  | _, _ => false
end
mutual
/-- what == and < may be asked of: no dict, no error in it -/
def plain : D → Bool
  | .tup a => plains a
  | .lst a => plains a
  | .dct _ => false
  | .exc _ => false
  | .rep _ => false
  | .scr _ => false
  | _ => true
def plains : List D → Bool
  | [] => true
  | a :: as => plain a && plains as
end
mutual
def depth : D → Nat
  | .tup a => depths a + 1
  | .lst a => depths a + 1
  | _ => 0
def depths : List D → Nat
  | [] => 0
  | a :: as => max (depth a) (depths as)
end
mutual
/-- a < b; none: not asked here -/
def lt : D → D → Option Bool
  | .int i, .int j => some (i < j)
  | .tup a, .tup b => lts a b
  | _, _ => Option.none
def lts : List D → List D → Option Bool
  | [], b => some (!b.isEmpty)
  | _ :: _, [] => some false
  | a :: as, b :: bs => if eqv a b then lts as bs else lt a b
end
/-- a list or a dict -/
def isMut : D → Bool
  | .lst _ => true
  | .dct _ => true
  | _ => false
def truth : D → R Bool
  | .non => ok false
  | .bool b => ok b
  | .int i => ok (i != 0)
  | .str w => ok (w != .empty)
  | .tup l => ok (!l.isEmpty)
  | .lst l => ok (!l.isEmpty)
  | .dct _ => bad
  | .exc _ => bad
  | .rep _ => bad
  | .scr _ => bad
def toInt : D → R Int
  | .int i => ok i
  | _ => bad
def toBool : D → R Bool
  | .bool b => ok b
  | _ => bad
/-- an int or a truth value as a number -/
def toNum : D → R Int
  | .int i => ok i
  | .bool b => ok (b2i b)
  | _ => bad
end D
def maxLen : Nat := 16777216
mutual
def sameD : D → D → Bool
  | .non, .non => true
  | .bool a, .bool b => a == b
  | .int i, .int j => i == j
  | .str a, .str b => a == b
  | .tup a, .tup b => sameDs a b
  | .lst a, .lst b => sameDs a b
  | _, _ => false
def sameDs : List D → List D → Bool
  | [], [] => true
  | a :: as, b :: bs => sameD a b && sameDs as bs
  | _, _ => false
end
/-- whose repr is told: scalars -/
def reprOk : D → Bool
  | .non => true
  | .bool _ => true
  | .int i => decide (i.natAbs < 2 ^ 1000)
  | .str _ => true
  | _ => false

def eqR : D → D → R Bool
  | .rep a, .rep b => if sameD a b then ok true else bad
  | .rep (.int i), .str .zero => if i = 0 then ok true else bad
  | a, b => if a.plain && b.plain && decide (min a.depth b.depth ≤ 60) then ok (a.eqv b) else bad
def ltR (a b : D) : R Bool := if a.plain && b.plain && decide (min a.depth b.depth ≤ 60) then (match a.lt b with | some c => ok c | none => bad) else bad
def mkTup (l : List D) : R D := if l.length ≤ maxLen then ok (.tup l) else bad
def mkLst (l : List D) : R D := if l.length ≤ maxLen then ok (.lst l) else bad

inductive BO | add | sub | mul | fdiv | mod | pow
  deriving DecidableEq, Repr
inductive CO | eq | ne | lt | le | gt | ge | is_ | isNot | in_ | notIn
  deriving DecidableEq, Repr
inductive TY | int | bool | tuple | str
  deriving DecidableEq, Repr

def smallMul (i j : Int) : Bool := (decide (i.natAbs < 2 ^ 64) || decide (j.natAbs < 2 ^ 64))
def repL (l : List D) (n : Int) : List D := (List.replicate n.toNat l).flatten
def binR : BO → D → D → R D
  | .add, .int i, .int j => ok (.int (i + j))
  | .add, .tup a, .tup b => mkTup (a ++ b)
  | .add, .lst a, .lst b => mkLst (a ++ b)
  | .sub, .int i, .int j => ok (.int (i - j))
  | .mul, .int i, .int j => if smallMul i j then ok (.int (i * j)) else bad
  | .mul, .lst a, .int n => if n < 2 ^ 62 ∧ -(2 ^ 62) < n ∧ a.length * n.toNat ≤ maxLen then ok (.lst (repL a n)) else bad
  | .mul, .tup a, .int n => if -1000 ≤ n ∧ n ≤ 1000 ∧ a.length ≤ 1000 then ok (.tup (repL a n)) else bad
  | .fdiv, .int i, .int j => if 0 < j ∧ j < 1073741824 then ok (.int (i / j)) else bad
  | .mod, .int i, .int j => if 0 < j then ok (.int (i % j)) else bad
  | .pow, .int i, .int j => if 0 ≤ j ∧ j ≤ 1000 ∧ i.natAbs < 2 ^ 64 then ok (.int (i ^ j.toNat)) else bad
  | _, _, _ => bad
/-- x in the items -/
def inR (x : D) (l : List D) : R Bool := if x.plain && D.plains l && (decide (x.depth ≤ 60) || decide (D.depths l ≤ 60)) then ok (l.any fun y => y.eqv x) else bad
def keysOf (l : List (D × D)) : List D := l.map (·.1)
def hasKey (l : List (D × D)) (k : D) : Bool := l.any fun p => p.1.eqv k
def look (l : List (D × D)) (k : D) : Option D := (l.find? fun p => p.1.eqv k).map (·.2)
def putKey (l : List (D × D)) (k v : D) : List (D × D) := if hasKey l k then l.map fun p => if p.1.eqv k then (p.1, v) else p else l ++ [(k, v)]
mutual
/-- a key of a dict: of what == tells apart by value -/
def keyOk : D → Bool
  | .int _ => true
  | .str _ => true
  | .tup l => keyOks l
  | _ => false
def keyOks : List D → Bool
  | [] => true
  | a :: as => keyOk a && keyOks as
end
def asKey (k : D) : R D := if keyOk k && decide (k.depth ≤ 8) then ok k else bad
def isR (a b : D) : R Bool := match b with
  | .non => ok (match a with | .non => true | _ => false)
  | .bool c => (match a with | .bool b => ok (b == c) | _ => bad)
  | _ => bad
def cmpR : CO → D → D → R Bool
  | .eq, a, b => eqR a b
  | .ne, a, b => do ok (!(← eqR a b))
  | .lt, a, b => ltR a b
  | .le, .int i, .int j => ok (decide (i ≤ j))
  | .gt, .int i, .int j => ok (decide (j < i))
  | .ge, .int i, .int j => ok (decide (j ≤ i))
  | .is_, a, b => isR a b
  | .isNot, a, b => do ok (!(← isR a b))
  | .in_, a, .tup l => inR a l
  | .in_, a, .lst l => inR a l
  | .notIn, a, .tup l => do ok (!(← inR a l))
  | .notIn, a, .lst l => do ok (!(← inR a l))
  | _, _, _ => bad
def cmpD (o : CO) (a b : D) : R D := do ok (.bool (← cmpR o a b))
/-- a place in n items -/
def place (n : Nat) (i : Int) : Option Nat := if 0 ≤ i then (if i < n then some i.toNat else none) else if -(n : Int) ≤ i then some (i + n).toNat else none
def nthR (l : List D) (i : Int) : R D := match place l.length i with
  | some k => (match l[k]? with | some d => ok d | none => bad)
  | none => bad
def idxR : D → D → R D
  | .tup l, .int i => nthR l i
  | .lst l, .int i => nthR l i
  | _, _ => bad
def idxDR : D → D → R D
  | .dct l, k => do let k ← asKey k; match look l k with | some d => ok d | none => bad
  | _, _ => bad
def inDR (neg : Bool) : D → D → R D
  | a, .dct l => do let k ← asKey a; ok (.bool (if neg then !hasKey l k else hasKey l k))
  | _, _ => bad
/-- a bound of a slice -/
def bnd (n : Nat) (i : Int) : Nat := if i < 0 then (i + n).toNat else min i.toNat n
def sliceL (l : List D) (lo hi : Option Int) : List D :=
  let a := match lo with | some i => bnd l.length i | none => 0
  let b := match hi with | some i => bnd l.length i | none => l.length
  (l.drop a).take (b - a)
def smallI (i : Int) : Bool := decide (i < 2 ^ 62) && decide (-(2 ^ 62) < i)
def sliceR (d : D) (a b : Option Int) : R D := match d with
  | .tup l => ok (.tup (sliceL l a b))
  | .lst l => ok (.lst (sliceL l a b))
  | _ => bad
def itemsR : D → R (List D)
  | .tup l => ok l
  | .lst l => ok l
  | .scr l => ok (l.map .int)
  | _ => bad
def isTy : TY → D → R Bool
  | _, .exc _ => bad
  | _, .rep _ => bad
  | _, .scr _ => bad
  | _, .dct _ => bad
  | .int, .int _ => ok true
  | .int, .bool _ => ok true
  | .int, _ => ok false
  | .bool, .bool _ => ok true
  | .bool, _ => ok false
  | .tuple, .tup _ => ok true
  | .tuple, _ => ok false
  | .str, .str _ => ok true
  | .str, _ => ok false
def allPairs (p : D → D → Bool) (l : List D) : Bool := l.all fun a => l.all fun b => p a b
def ltOk (a b : D) : Bool := a.eqv b || (a.lt b).isSome
/-- in a rising order, equal ones as they came -/
def insR (key : D → D) (x : D) : List D → List D
  | [] => [x]
  | y :: ys => if ((key y).lt (key x)).getD false then y :: insR key x ys else x :: y :: ys
def sortL (key : D → D) (l : List D) : List D := l.foldr (insR key) []
mutual
/-- what sorted may meet: whole numbers and tuples -/
def sortable : D → Bool
  | .int _ => true
  | .str _ => true
  | .tup l => sortables l
  | _ => false
def sortables : List D → Bool
  | [] => true
  | a :: as => sortable a && sortables as
end
def sortR (l : List D) : R (List D) := if l.all sortable && allPairs ltOk l && l.all (fun a => decide (a.depth ≤ 60)) then ok (sortL id l) else bad
def head0 : D → R D
  | .tup (a :: _) => ok a
  | _ => bad
def key0 : D → D
  | .tup (a :: _) => a
  | d => d
def sortKeyR (l : List D) : R (List D) :=
  if l.all (fun d => match d with | .tup (_ :: _) => true | _ => false) && (l.map key0).all sortable && allPairs ltOk (l.map key0) && l.all (fun a => decide (a.depth ≤ 60)) then ok (sortL key0 l) else bad
def dedup : List D → List D
  | [] => []
  | a :: as => a :: (dedup as).filter fun b => !a.eqv b
def setR (l : List D) : R (List D) := if l.all keyOk && l.all (fun a => decide (a.depth ≤ 8)) then ok (dedup l) else bad
def intsR : List D → R (List Int)
  | [] => ok []
  | d :: ds => do let i ← d.toInt; let r ← intsR ds; ok (i :: r)
def anyR : List D → R Bool
  | [] => ok false
  | d :: ds => do if (← d.truth) then ok true else anyR ds
def minL (a : Int) (l : List Int) : Int := l.foldl (fun m x => if x < m then x else m) a
def maxL (a : Int) (l : List Int) : Int := l.foldl (fun m x => if m < x then x else m) a
def minR : List D → R D
  | [] => bad
  | d :: ds => do let i ← d.toInt; let r ← intsR ds; ok (.int (minL i r))
def maxR : List D → R D
  | [] => bad
  | d :: ds => do let i ← d.toInt; let r ← intsR ds; ok (.int (maxL i r))
def pairOf : D → R (D × D)
  | .tup [a, b] => ok (a, b)
  | _ => bad
def dictR (acc : List (D × D)) : List D → R (List (D × D))
  | [] => ok acc
  | d :: ds => do let (k, v) ← pairOf d; let k ← asKey k; dictR (putKey acc k v) ds
def pairsL (l : List (D × D)) : List D := l.map fun p => .tup [p.1, p.2]
def rangeL (lo hi : Int) : List D := (List.range (hi - lo).toNat).map fun (k : Nat) => .int (lo + (k : Int))
def zip2 : List D → List D → List D
  | a :: as, b :: bs => .tup [a, b] :: zip2 as bs
  | _, _ => []
def zip3 : List D → List D → List D → List D
  | a :: as, b :: bs, c :: cs => .tup [a, b, c] :: zip3 as bs cs
  | _, _, _ => []
def enumL (k : Nat) : List D → List D
  | [] => []
  | a :: as => .tup [.int k, a] :: enumL (k + 1) as
/-! ### the language -/
inductive B1   -- built-in of one value
  | len | int | abs | sum | min | max | any | tupleOf | listOf | listRange | sorted | sortedKey | sortedSet | lenSet | repr | dictOf | itemsOf | strExc | neg | revOf
  deriving DecidableEq, Repr
inductive B2 | min | max
  deriving DecidableEq, Repr
mutual
inductive E
  | k (d : D)                                    -- a constant
  | v (i : Nat)                                  -- a name's value
  | b (i : Nat)                                  -- a name's value, looked at on the spot
  | tup (es : Es) | lst (es : Es)
  | dict (ks vs : Es)
  | bin (o : BO) (a b : E)
  | cmp (o : CO) (a b : E)
  | chain (o p : CO) (a b c : E)
  | not (a : E) | and (a b : E) | or (a b : E)
  | ite (t : T) (a b : E)
  | idx (a i : E)
  | idxd (a i : E)                               -- .. of a dict
  | ind (neg : Bool) (a d : E)                   -- a in d, a not in d, d a dict
  | idx2 (n : Nat) (a b : E)                     -- x[a][b] of its own rows
  | any2 (n : Nat)                               -- any(x) of its own rows
  | slice (a lo hi : E)                          -- E.omit: left out
  | omit
  | call (f : Nat) (as : Es)
  | io (i : Nat)                                 -- a name handed over to be changed
  | b1 (o : B1) (a : E)
  | b2 (o : B2) (a b : E)
  | b3 (o : B2) (a b c : E)
  | get (d k z : E)                              -- d.get(k, z)
  | count (a x : E) | index (a x : E)
  | isa (t : TY) (a : E)
  | isExc (c : Nat) (a : E)
  | mkExc (c : Nat)
  | tmp (e : E)                                  -- a new list or dict handed over to be changed
  | lc (t : Tg) (it : It) (c : T) (e : E)
  | lc2 (t : Tg) (it : It) (t2 : Tg) (it2 : It) (c : T) (e : E)
  | gsum (t : Tg) (it : It) (c : T) (e : E)
  | gall (t : Tg) (it : It) (e : E)
  | gall2 (t : Tg) (it : It) (t2 : Tg) (it2 : It) (e : E)
  | grid (n m : E)                               -- [[0] * n for _ in range(m)]
  | empties (a : E)                              -- [[] for _ in a] + [[]]
inductive T                                      -- a test
  | of (e : E) | not (a : T) | and (a b : T) | or (a b : T)
inductive Es
  | nil | cons (e : E) (es : Es)
inductive It
  | val (e : E)
  | range (e : E) | range2 (a b : E)
  | zip2 (a b : E) | zip3 (a b c : E)
  | enum (it : It)
  | rev (e : E)
inductive Tg
  | nm (i : Nat) | tup (ts : Tgs)
inductive Tgs
  | nil | cons (t : Tg) (ts : Tgs)
end
mutual
inductive S
  | set (l : List Nat) (i : Nat) (g : Nat) (e : E)       -- names let go, the name, how it is held, the value
  | par (l : List Nat) (is : List (Nat × Nat)) (es : Es) -- a, b = e, f: the names and how each is held
  | swap (i : Nat) (a b c d : E)                         -- x[a], x[b] = x[c], x[d]
  | unpack (l : List Nat) (t : Tg) (e : E)
  | aug (i : Nat) (o : BO) (e : E)
  | put (l : List Nat) (i : Nat) (a e : E)               -- x[a] = e
  | putd (l : List Nat) (i : Nat) (a e : E)              -- x[a] = e, of a dict
  | put2 (l : List Nat) (i : Nat) (a b e : E)            -- x[a][b] = e
  | app (l : List Nat) (i : Nat) (e : E)
  | app2 (l : List Nat) (i : Nat) (a e : E)              -- x[a].append(e)
  | ext (l : List Nat) (i : Nat) (e : E)
  | ins (l : List Nat) (i : Nat) (a e : E)
  | rem (i : Nat) (e : E)
  | ex (e : E)
  | ifs (t : T) (a b : Ss)
  | for_ (l : List Nat) (t : Tg) (it : It) (b : Ss)
  | while_ (t : T) (b : Ss)
  | ret (l : List Nat) (e : E)
  | retv (i : Nat)                                       -- return of a list that is the def's own
  | retN
  | raise (c : Nat)
  | try_ (b : Ss) (m : Nat) (f : Nat)                    -- try: b except CorrigendaError as e: return f(e) (1: ("refused", f(e)); 2: whether Unfit)
  | brk | cont | pass
inductive Ss
  | nil | cons (s : S) (ss : Ss)
end

structure Fn where
  n : Nat            -- names in all
  ps : List Bool     -- parameters: which are changed
  fresh : Bool       -- hands back a list of its own
  body : Ss

/-! ### what it means -/
/-- a name's value and how it is held: 0 as it is, 1 its own list or dict, 2 its own list of its own lists, 3 the caller's, to be changed, 4 its own, walked -/
abbrev Slot := Option (D × Nat)
abbrev Env := List Slot
abbrev CallF := Nat → List D → R (D × List D)

def getS (ρ : Env) (i : Nat) : R (D × Nat) := match ρ[i]? with
  | some (some p) => ok p
  | _ => bad
def valS (ρ : Env) (i : Nat) : R D := do
  let (d, g) ← getS ρ i
  if g = 0 then ok d else bad
/-- looked at on the spot -/
def seeS (ρ : Env) (i : Nat) : R D := do
  let (d, g) ← getS ρ i
  if g = 2 then bad else ok d
def ownG (g : Nat) : Bool := g == 1 || g == 3
/-- to be changed -/
def ownS (ρ : Env) (i : Nat) : R D := do
  let (d, g) ← getS ρ i
  if ownG g && d.isMut then ok d else bad
def own2S (ρ : Env) (i : Nat) : R (List D) := do
  match (← getS ρ i) with
  | (.lst l, 2) => ok l
  | _ => bad
def putS (ρ : Env) (i : Nat) (d : D) : Env := match ρ[i]? with
  | some (some (_, g)) => ρ.set i (some (d, g))
  | _ => ρ
def letGo (ρ : Env) : List Nat → Env
  | [] => ρ
  | i :: is => letGo (match ρ[i]? with
    | some (some (d, g)) => if g = 1 ∨ g = 2 then ρ.set i (some (d, 0)) else ρ
    | _ => ρ) is
/-- a name may be bound anew: it is not the caller's, and not walked -/
def freeS (ρ : Env) (i : Nat) : Bool := match ρ[i]? with
  | some (some (_, g)) => g != 3 && g != 4
  | some none => true
  | none => false
def bindS (ρ : Env) (i : Nat) (d : D) (g : Nat) : R Env := if freeS ρ i then ok (ρ.set i (some (d, g))) else bad
mutual
def bindT (ρ : Env) : Tg → D → R Env
  | .nm i, d => bindS ρ i d 0
  | .tup ts, d => match d with
    | .tup l => bindTs ρ ts l
    | _ => bad
def bindTs (ρ : Env) : Tgs → List D → R Env
  | .nil, [] => ok ρ
  | .cons t ts, d :: ds => do let ρ ← bindT ρ t d; bindTs ρ ts ds
  | _, _ => bad
end
mutual
def namesT : Tg → List Nat
  | .nm i => [i]
  | .tup ts => namesTs ts
def namesTs : Tgs → List Nat
  | .nil => []
  | .cons t ts => namesT t ++ namesTs ts
end
def wipeS (ρ : Env) : List Nat → Env
  | [] => ρ
  | i :: is => wipeS (ρ.set i none) is
/-- the names of a comprehension, ahead of it: unset, or as they are -/
def plainS (ρ : Env) (is : List Nat) : Bool := is.all fun i => match ρ[i]? with
  | some none => true
  | some (some (_, g)) => g == 0
  | none => false
def backS (ρ old : Env) : List Nat → Env
  | [] => ρ
  | i :: is => backS (match old[i]? with | some s => ρ.set i s | none => ρ) old is
def lockS (ρ : Env) (i : Nat) : R Env := do
  let (d, g) ← getS ρ i
  if g = 1 then ok (ρ.set i (some (d, 4))) else if g = 0 ∨ g = 4 then ok ρ else bad
/-- back to how it was held -/
def unlockS (ρ old : Env) (i : Nat) : Env := match ρ[i]?, old[i]? with
  | some (some (d, 4)), some (some (_, g)) => ρ.set i (some (d, g))
  | _, _ => ρ
def b1R : B1 → D → R D
  | .len, d => match d with
    | .tup l => ok (.int l.length)
    | .lst l => ok (.int l.length)
    | _ => bad
  | .int, .int i => ok (.int i)
  | .int, .bool b => ok (.int (b2i b))
  | .abs, .int i => ok (.int (if i < 0 then -i else i))
  | .neg, .int i => ok (.int (-i))
  | .sum, .lst l => do ok (.int (← intsR l).sum)
  | .min, .lst l => minR l
  | .max, .lst l => maxR l
  | .any, .lst l => do ok (.bool (← anyR l))
  | .any, .tup l => do ok (.bool (← anyR l))
  | .tupleOf, .lst l => ok (.tup l)
  | .tupleOf, .tup l => ok (.tup l)
  | .listOf, .tup l => ok (.lst l)
  | .listOf, .lst l => ok (.lst l)
  | .listRange, .int n => if n ≤ maxLen ∧ -(2 ^ 62) < n then ok (.lst (rangeL 0 n)) else bad
  | .sorted, .lst l => do ok (.lst (← sortR l))
  | .sorted, .tup l => do ok (.lst (← sortR l))
  | .sortedKey, .lst l => do ok (.lst (← sortKeyR l))
  | .sortedSet, .lst l => do ok (.lst (← sortR (← setR l)))
  | .lenSet, .lst l => do ok (.int (← setR l).length)
  | .dictOf, .tup l => do ok (.dct (← dictR [] l))
  | .dictOf, .lst l => do ok (.dct (← dictR [] l))
  | .itemsOf, .dct l => ok (.lst (pairsL l))
  | .revOf, .tup l => ok (.tup l.reverse)
  | .revOf, .lst l => ok (.lst l.reverse)
  | .repr, d => if reprOk d then ok (.rep d) else bad
  | .strExc, .exc e => if e < 5 then ok (.str .empty) else bad
  | _, _ => bad
def b2R : B2 → D → D → R D
  | .min, .int i, .int j => ok (.int (if j < i then j else i))
  | .max, .int i, .int j => ok (.int (if i < j then j else i))
  | _, _, _ => bad
def b3R (o : B2) (a b c : D) : R D := do b2R o (← b2R o a b) c
def getR : D → D → D → R D
  | .dct l, k, z => do let k ← asKey k; ok ((look l k).getD z)
  | _, _, _ => bad
/-- it is a list -/
def isLstR : D → R Unit
  | .lst _ => ok ()
  | _ => bad
def boolsR : List D → R (List Bool)
  | [] => ok []
  | .bool b :: ds => do let r ← boolsR ds; ok (b :: r)
  | _ => bad
/-- of a list of truth values alone -/
def countR : D → D → R D
  | .lst l, .bool b => do let bs ← boolsR l; ok (.int (bs.count b))
  | _, _ => bad
def indexR : D → D → R D
  | .lst l, .bool b => do
    let bs ← boolsR l
    if bs.contains b then ok (.int (bs.idxOf b)) else bad
  | _, _ => bad
def isExcR (c : Nat) : D → R Bool
  | .exc e => if e < 5 then ok (c == e || c == 0 || c == 5) else bad
  | _ => bad
def dictE : List D → List D → List (D × D) → R (List (D × D))
  | [], [], acc => ok acc
  | k :: ks, v :: vs, acc => do let k ← asKey k; dictE ks vs (putKey acc k v)
  | _, _, _ => bad
/-- each in turn, the names threaded -/
def eachR {α : Type} (f : D → Env → R (Option α × Env)) : List D → Env → R (List α × Env)
  | [], ρ => ok ([], ρ)
  | x :: xs, ρ => do
    let (o, ρ) ← f x ρ
    let (r, ρ) ← eachR f xs ρ
    ok (match o with | some a => a :: r | none => r, ρ)
/-- .. lists put behind one another -/
def eachR2 (f : D → Env → R (List D × Env)) : List D → Env → R (List D × Env)
  | [], ρ => ok ([], ρ)
  | x :: xs, ρ => do
    let (l, ρ) ← f x ρ
    let (r, ρ) ← eachR2 f xs ρ
    ok (l ++ r, ρ)
/-- in turn while each holds -/
def allR (f : D → Env → R (Bool × Env)) : List D → Env → R (Bool × Env)
  | [], ρ => ok (true, ρ)
  | x :: xs, ρ => do
    let (b, ρ) ← f x ρ
    if b then allR f xs ρ else ok (false, ρ)
/-- no error leaves a comprehension -/
def quiet {α : Type} : R α → R α
  | .exc _ => bad
  | r => r
def itSlots : It → List Nat
  | .val (.b i) => [i]
  | _ => []
def lockAll (ρ : Env) : List Nat → R Env
  | [] => ok ρ
  | i :: is => do let ρ ← lockS ρ i; lockAll ρ is
def unlockAll (ρ old : Env) : List Nat → Env
  | [] => ρ
  | i :: is => unlockAll (unlockS ρ old i) old is
/-- what is handed back of those that were handed over to be changed -/
def outsS : Es → List D → Env → Env
  | .nil, _, ρ => ρ
  | .cons e es, ds, ρ => match e with
    | .io i => (match ds with | d :: ds => outsS es ds (putS ρ i d) | [] => ρ)
    | .tmp _ => (match ds with | _ :: ds => outsS es ds ρ | [] => ρ)
    | _ => outsS es ds ρ
/-- a value, or what a name holds, to be looked at on the spot -/
def seeW (e : E) (f : Env → R (D × Env)) (ρ : Env) : R (D × Env) := match e with
  | .b i => do ok (← seeS ρ i, ρ)
  | _ => f ρ
/-- what a name holds by now -/
def nowE : E → D → Env → R D
  | .b i, _, ρ => seeS ρ i
  | _, d, _ => ok d
def optW (e : E) (f : Env → R (D × Env)) (ρ : Env) : R (Option Int × Env) := match e with
  | .omit => ok (none, ρ)
  | _ => do let (d, ρ) ← f ρ; ok (some (← d.toInt), ρ)
mutual
def evalE (call : CallF) : E → Env → R (D × Env)
  | .k d, ρ => ok (d, ρ)
  | .v i, ρ => do ok (← valS ρ i, ρ)
  | .b _, _ => bad
  | .tup es, ρ => do let (ds, ρ) ← evalEs call es ρ; ok (← mkTup ds, ρ)
  | .lst es, ρ => do let (ds, ρ) ← evalEs call es ρ; ok (← mkLst ds, ρ)
  | .dict ks vs, ρ => do
    let (a, ρ) ← evalEs call ks ρ
    let (b, ρ) ← evalEs call vs ρ
    ok (.dct (← dictE a b []), ρ)
  | .bin o a b, ρ => do
    let (x, ρ) ← seeW a (evalE call a) ρ
    let (y, ρ) ← seeW b (evalE call b) ρ
    let x ← nowE a x ρ
    let y ← nowE b y ρ
    ok (← binR o x y, ρ)
  | .cmp o a b, ρ => do
    let (x, ρ) ← seeW a (evalE call a) ρ
    let (y, ρ) ← seeW b (evalE call b) ρ
    let x ← nowE a x ρ
    let y ← nowE b y ρ
    ok (← cmpD o x y, ρ)
  | .chain o p a b c, ρ => do
    let (x, ρ) ← evalE call a ρ
    let (y, ρ) ← evalE call b ρ
    if (← cmpR o x y) then
      let (z, ρ) ← evalE call c ρ
      ok (.bool (← cmpR p y z), ρ)
    else ok (.bool false, ρ)
  | .not a, ρ => do let (d, ρ) ← seeW a (evalE call a) ρ; ok (.bool (!(← d.truth)), ρ)
  | .and a b, ρ => do
    let (x, ρ) ← evalE call a ρ
    match x with
    | .bool true => evalE call b ρ
    | .bool false => ok (.bool false, ρ)
    | _ => bad
  | .or a b, ρ => do
    let (x, ρ) ← evalE call a ρ
    match x with
    | .bool true => ok (.bool true, ρ)
    | .bool false => evalE call b ρ
    | _ => bad
  | .ite t a b, ρ => do
    let (c, ρ) ← evalT call t ρ
    if c then evalE call a ρ else evalE call b ρ
  | .idx a i, ρ => do
    let (x, ρ) ← seeW a (evalE call a) ρ
    let (j, ρ) ← seeW i (evalE call i) ρ
    let x ← nowE a x ρ
    let j ← nowE i j ρ
    ok (← idxR x j, ρ)
  | .idxd a i, ρ => do
    let (x, ρ) ← seeW a (evalE call a) ρ
    let (j, ρ) ← evalE call i ρ
    let x ← nowE a x ρ
    ok (← idxDR x j, ρ)
  | .ind neg a b, ρ => do
    let (x, ρ) ← evalE call a ρ
    let (y, ρ) ← seeW b (evalE call b) ρ
    ok (← inDR neg x y, ρ)
  | .idx2 n a b, ρ => do
    let (x, ρ) ← evalE call a ρ
    let (y, ρ) ← evalE call b ρ
    let xs ← own2S ρ n
    let r ← nthR xs (← x.toInt)
    match r with
    | .lst r => do ok (← nthR r (← y.toInt), ρ)
    | _ => bad
  | .any2 n, ρ => do
    let xs ← own2S ρ n
    ok (.bool (← anyR xs), ρ)
  | .slice a lo hi, ρ => do
    let (x, ρ) ← seeW a (evalE call a) ρ
    let (l, ρ) ← optW lo (evalE call lo) ρ
    let (h, ρ) ← optW hi (evalE call hi) ρ
    let x ← nowE a x ρ
    ok (← sliceR x l h, ρ)
  | .omit, _ => bad
  | .call f as, ρ => do
    let (ds, ρ) ← evalAs call as ρ
    let (d, outs) ← call f ds
    ok (d, outsS as outs ρ)
  | .io _, _ => bad
  | .b1 o a, ρ => do
    let (x, ρ) ← seeW a (evalE call a) ρ
    ok (← b1R o x, ρ)
  | .b2 o a b, ρ => do
    let (x, ρ) ← evalE call a ρ
    let (y, ρ) ← evalE call b ρ
    ok (← b2R o x y, ρ)
  | .b3 o a b c, ρ => do
    let (x, ρ) ← evalE call a ρ
    let (y, ρ) ← evalE call b ρ
    let (z, ρ) ← evalE call c ρ
    ok (← b3R o x y z, ρ)
  | .get d k z, ρ => do
    let (x, ρ) ← seeW d (evalE call d) ρ
    let (y, ρ) ← evalE call k ρ
    let (w, ρ) ← evalE call z ρ
    let x ← nowE d x ρ
    ok (← getR x y w, ρ)
  | .count a x, ρ => do
    let (l, ρ) ← seeW a (evalE call a) ρ
    let _ ← isLstR l
    let (d, ρ) ← evalE call x ρ
    let l ← nowE a l ρ
    ok (← countR l d, ρ)
  | .index a x, ρ => do
    let (l, ρ) ← seeW a (evalE call a) ρ
    let _ ← isLstR l
    let (d, ρ) ← evalE call x ρ
    let l ← nowE a l ρ
    ok (← indexR l d, ρ)
  | .isa t a, ρ => do
    let (x, ρ) ← evalE call a ρ
    ok (.bool (← isTy t x), ρ)
  | .isExc c a, ρ => do
    let (x, ρ) ← evalE call a ρ
    ok (.bool (← isExcR c x), ρ)
  | .mkExc c, ρ => if c < 5 then ok (.exc c, ρ) else bad
  | .tmp _, _ => bad
  | .lc t it c e, ρ0 => do
    let (xs, ρ) ← evalIt call it ρ0
    let ns := namesT t
    if plainS ρ ns then
      let ρ1 ← lockAll ρ (itSlots it)
      let (l, ρ2) ← eachR (fun x ρ => quiet do
        let ρ ← bindT (wipeS ρ ns) t x
        let (b, ρ) ← evalT call c ρ
        if b then
          let (d, ρ) ← evalE call e ρ
          ok (some d, ρ)
        else ok (none, ρ)) xs ρ1
      ok (← mkLst l, unlockAll (backS ρ2 ρ ns) ρ (itSlots it))
    else bad
  | .lc2 t it t2 it2 c e, ρ0 => do
    let (xs, ρ) ← evalIt call it ρ0
    let ns := namesT t
    let ms := namesT t2
    if plainS ρ (ns ++ ms) then
      let ρ1 ← lockAll ρ (itSlots it)
      let (l, ρ2) ← eachR2 (fun x ρ => quiet do
        let ρ ← bindT (wipeS ρ (ns ++ ms)) t x
        let (ys, ρ) ← evalIt call it2 ρ
        let ρi ← lockAll ρ (itSlots it2)
        let (r, ρj) ← eachR (fun y ρ => do
          let ρ ← bindT (wipeS ρ ms) t2 y
          let (b, ρ) ← evalT call c ρ
          if b then
            let (d, ρ) ← evalE call e ρ
            ok (some d, ρ)
          else ok (none, ρ)) ys ρi
        ok (r, unlockAll ρj ρ (itSlots it2))) xs ρ1
      ok (← mkLst l, unlockAll (backS ρ2 ρ (ns ++ ms)) ρ (itSlots it))
    else bad
  | .gsum t it c e, ρ0 => do
    let (xs, ρ) ← evalIt call it ρ0
    let ns := namesT t
    if plainS ρ ns then
      let ρ1 ← lockAll ρ (itSlots it)
      let (l, ρ2) ← eachR (fun x ρ => quiet do
        let ρ ← bindT (wipeS ρ ns) t x
        let (b, ρ) ← evalT call c ρ
        if b then
          let (d, ρ) ← evalE call e ρ
          ok (some d, ρ)
        else ok (none, ρ)) xs ρ1
      ok (.int (← intsR l).sum, unlockAll (backS ρ2 ρ ns) ρ (itSlots it))
    else bad
  | .gall t it e, ρ0 => do
    let (xs, ρ) ← evalIt call it ρ0
    let ns := namesT t
    if plainS ρ ns then
      let ρ1 ← lockAll ρ (itSlots it)
      let (b, ρ2) ← allR (fun x ρ => quiet do
        let ρ ← bindT (wipeS ρ ns) t x
        let (d, ρ) ← evalE call e ρ
        ok (← d.toBool, ρ)) xs ρ1
      ok (.bool b, unlockAll (backS ρ2 ρ ns) ρ (itSlots it))
    else bad
  | .gall2 t it t2 it2 e, ρ0 => do
    let (xs, ρ) ← evalIt call it ρ0
    let ns := namesT t
    let ms := namesT t2
    if plainS ρ (ns ++ ms) then
      let ρ1 ← lockAll ρ (itSlots it)
      let (b, ρ2) ← allR (fun x ρ => quiet do
        let ρ ← bindT (wipeS ρ (ns ++ ms)) t x
        let (ys, ρ) ← evalIt call it2 ρ
        let ρi ← lockAll ρ (itSlots it2)
        let (r, ρj) ← allR (fun y ρ => do
          let ρ ← bindT (wipeS ρ ms) t2 y
          let (d, ρ) ← evalE call e ρ
          ok (← d.toBool, ρ)) ys ρi
        ok (r, unlockAll ρj ρ (itSlots it2))) xs ρ1
      ok (.bool b, unlockAll (backS ρ2 ρ (ns ++ ms)) ρ (itSlots it))
    else bad
  | .grid n m, ρ => do
    let (y, ρ) ← evalE call m ρ
    let (x, ρ) ← evalE call n ρ
    match x, y with
    | .int a, .int b => if 0 ≤ a ∧ a ≤ maxLen ∧ 0 ≤ b ∧ b ≤ maxLen then ok (.lst (List.replicate b.toNat (.lst (List.replicate a.toNat (.int 0)))), ρ) else bad
    | _, _ => bad
  | .empties a, ρ => do
    let (x, ρ) ← evalE call a ρ
    match x with
    | .tup l => if l.length < maxLen then ok (.lst (List.replicate (l.length + 1) (.lst [])), ρ) else bad
    | _ => bad
def evalT (call : CallF) : T → Env → R (Bool × Env)
  | .not a, ρ => do let (t, ρ) ← evalT call a ρ; ok (!t, ρ)
  | .and a b, ρ => do
    let (x, ρ) ← evalT call a ρ
    if x then evalT call b ρ else ok (false, ρ)
  | .or a b, ρ => do
    let (x, ρ) ← evalT call a ρ
    if x then ok (true, ρ) else evalT call b ρ
  | .of e, ρ => do let (d, ρ) ← seeW e (evalE call e) ρ; ok (← d.truth, ρ)
def evalEs (call : CallF) : Es → Env → R (List D × Env)
  | .nil, ρ => ok ([], ρ)
  | .cons e es, ρ => do
    let (d, ρ) ← evalE call e ρ
    let (ds, ρ) ← evalEs call es ρ
    ok (d :: ds, ρ)
/-- arguments: what is handed over to be changed is looked at when all are there -/
def evalAs (call : CallF) : Es → Env → R (List D × Env)
  | .nil, ρ => ok ([], ρ)
  | .cons e es, ρ => match e with
    | .io i => do
      let _ ← ownS ρ i
      let (ds, ρ) ← evalAs call es ρ
      ok ((← ownS ρ i) :: ds, ρ)
    | .tmp e' => do
      let (d, ρ) ← evalE call e' ρ
      let (ds, ρ) ← evalAs call es ρ
      ok (d :: ds, ρ)
    | e => do
      let (d, ρ) ← evalE call e ρ
      let (ds, ρ) ← evalAs call es ρ
      ok (d :: ds, ρ)
/-- what is walked -/
def evalIt (call : CallF) : It → Env → R (List D × Env)
  | .val e, ρ => do let (d, ρ) ← seeW e (evalE call e) ρ; ok (← itemsR d, ρ)
  | .range e, ρ => do
    let (d, ρ) ← evalE call e ρ
    match d with
    | .int n => if smallI n then ok (rangeL 0 n, ρ) else bad
    | _ => bad
  | .range2 a b, ρ => do
    let (x, ρ) ← evalE call a ρ
    let (y, ρ) ← evalE call b ρ
    match x, y with
    | .int i, .int j => if smallI i && smallI j then ok (rangeL i j, ρ) else bad
    | _, _ => bad
  | .zip2 a b, ρ => do
    let (x, ρ) ← evalE call a ρ
    let (y, ρ) ← evalE call b ρ
    ok (zip2 (← itemsR x) (← itemsR y), ρ)
  | .zip3 a b c, ρ => do
    let (x, ρ) ← evalE call a ρ
    let (y, ρ) ← evalE call b ρ
    let (z, ρ) ← evalE call c ρ
    ok (zip3 (← itemsR x) (← itemsR y) (← itemsR z), ρ)
  | .enum it, ρ => do let (l, ρ) ← evalIt call it ρ; ok (enumL 0 l, ρ)
  | .rev e, ρ => do
    let (d, ρ) ← evalE call e ρ
    match d with
    | .lst l => ok (l.reverse, ρ)
    | _ => bad
end

/-- how a statement ends -/
inductive Ctl
  | next | brk | cont | ret (d : D)
  deriving Repr
/-- a loop over items -/
def forR (f : D → Env → R (Ctl × Env)) : List D → Env → R (Ctl × Env)
  | [], ρ => ok (.next, ρ)
  | x :: xs, ρ => do
    let (c, ρ) ← f x ρ
    match c with
    | .next => forR f xs ρ
    | .cont => forR f xs ρ
    | .brk => ok (.next, ρ)
    | .ret d => ok (.ret d, ρ)
def whileR (t : Env → R (Bool × Env)) (f : Env → R (Ctl × Env)) : Nat → Env → R (Ctl × Env)
  | 0, _ => bad
  | n + 1, ρ => do
    let (b, ρ) ← t ρ
    if b then
      let (c, ρ) ← f ρ
      match c with
      | .next => whileR t f n ρ
      | .cont => whileR t f n ρ
      | .brk => ok (.next, ρ)
      | .ret d => ok (.ret d, ρ)
    else ok (.next, ρ)
def bindPar (ρ : Env) : List (Nat × Nat) → List D → R Env
  | [], [] => ok ρ
  | (i, g) :: is, d :: ds => do let ρ ← bindS ρ i d g; bindPar ρ is ds
  | _, _ => bad
def setNth (l : List D) (i : Int) (d : D) : R (List D) := match place l.length i with
  | some k => ok (l.set k d)
  | none => bad
/-- how a new value is held: only lists and dicts can be its own -/
def listOwn (ρ : Env) (i : Nat) : R (List D) := do
  match (← ownS ρ i) with
  | .lst l => ok l
  | _ => bad
def remL (x : D) : List D → R (List D)
  | [] => bad
  | y :: ys => do if (← eqR y x) then ok ys else ok (y :: (← remL x ys))
def insAt (l : List D) (i : Int) (d : D) : List D := let k := bnd l.length i; l.take k ++ d :: l.drop k
mutual
def evalS (call : CallF) (w : Nat) : S → Env → R (Ctl × Env)
  | .set l i g e, ρ => do
    let (d, ρ) ← evalE call e (letGo ρ l)
    ok (.next, ← bindS ρ i d g)
  | .par l is es, ρ => do
    let (ds, ρ) ← evalEs call es (letGo ρ l)
    ok (.next, ← bindPar ρ is ds)
  | .swap i a b c d, ρ => do
    let (x, ρ) ← evalE call c ρ
    let (y, ρ) ← evalE call d ρ
    let l ← listOwn ρ i
    let u ← idxR (.lst l) x
    let v ← idxR (.lst l) y
    let (z, ρ) ← evalE call a ρ
    let l ← setNth l (← z.toInt) u
    let ρ := putS ρ i (.lst l)
    let (z, ρ) ← evalE call b ρ
    let l ← setNth l (← z.toInt) v
    ok (.next, putS ρ i (.lst l))
  | .unpack l t e, ρ => do
    let (d, ρ) ← evalE call e (letGo ρ l)
    ok (.next, ← bindT ρ t d)
  | .aug i o e, ρ => do
    let x ← valS ρ i
    let (d, ρ) ← evalE call e ρ
    match x with
    | .int _ => ok (.next, ← bindS ρ i (← binR o x d) 0)
    | _ => bad
  | .put l i a e, ρ => do
    let (d, ρ) ← evalE call e (letGo ρ l)
    let _ ← ownS ρ i
    let (j, ρ) ← evalE call a ρ
    match (← ownS ρ i) with
    | .lst l => ok (.next, putS ρ i (.lst (← setNth l (← j.toInt) d)))
    | _ => bad
  | .putd l i a e, ρ => do
    let (d, ρ) ← evalE call e (letGo ρ l)
    let _ ← ownS ρ i
    let (j, ρ) ← evalE call a ρ
    match (← ownS ρ i) with
    | .dct l => do
      let k ← asKey j
      if l.length < maxLen then ok (.next, putS ρ i (.dct (putKey l k d))) else bad
    | _ => bad
  | .put2 l i a b e, ρ => do
    let (d, ρ) ← evalE call e (letGo ρ l)
    let (x, ρ) ← evalE call a ρ
    let (y, ρ) ← evalE call b ρ
    let xs ← own2S ρ i
    match (← nthR xs (← x.toInt)) with
    | .lst r => ok (.next, putS ρ i (.lst (← setNth xs (← x.toInt) (.lst (← setNth r (← y.toInt) d)))))
    | _ => bad
  | .app l i e, ρ => do
    let (d, ρ) ← evalE call e (letGo ρ l)
    let xs ← listOwn ρ i
    if xs.length < maxLen then ok (.next, putS ρ i (.lst (xs ++ [d]))) else bad
  | .app2 l i a e, ρ => do
    let ρ := letGo ρ l
    let (x, ρ) ← evalE call a ρ
    let (d, ρ) ← evalE call e ρ
    let xs ← own2S ρ i
    match (← nthR xs (← x.toInt)) with
    | .lst r => if r.length < maxLen then ok (.next, putS ρ i (.lst (← setNth xs (← x.toInt) (.lst (r ++ [d]))))) else bad
    | _ => bad
  | .ext l i e, ρ => do
    let (d, ρ) ← seeW e (evalE call e) (letGo ρ l)
    let xs ← listOwn ρ i
    let ys ← itemsR d
    if xs.length + ys.length ≤ maxLen then ok (.next, putS ρ i (.lst (xs ++ ys))) else bad
  | .ins l i a e, ρ => do
    let ρ := letGo ρ l
    let (x, ρ) ← evalE call a ρ
    let (d, ρ) ← evalE call e ρ
    let xs ← listOwn ρ i
    let j ← x.toInt
    if smallI j && decide (xs.length < maxLen) then ok (.next, putS ρ i (.lst (insAt xs j d))) else bad
  | .rem i e, ρ => do
    let (d, ρ) ← evalE call e ρ
    let xs ← listOwn ρ i
    ok (.next, putS ρ i (.lst (← remL d xs)))
  | .ex e, ρ => do
    let (_, ρ) ← evalE call e ρ
    ok (.next, ρ)
  | .ifs t a b, ρ => do
    let (c, ρ) ← evalT call t ρ
    if c then evalSs call w a ρ else evalSs call w b ρ
  | .for_ l t it b, ρ => do
    let (xs, ρ) ← evalIt call it (letGo ρ l)
    forR (fun x ρ => do
      let ρ ← bindT ρ t x
      evalSs call w b ρ) xs ρ
  | .while_ t b, ρ => whileR (evalT call t) (evalSs call w b) w ρ
  | .ret l e, ρ => do
    let (d, ρ) ← evalE call e (letGo ρ l)
    ok (.ret d, ρ)
  | .retv i, ρ => do
    match (← getS ρ i) with
    | (d, g) => if g = 1 ∨ g = 2 then ok (.ret d, ρ.set i none) else bad
  | .retN, ρ => ok (.ret .non, ρ)
  | .raise c, _ => exc c
  | .try_ b m f, ρ => match evalSs call w b ρ with
    | .ok (.ret d, ρ) => ok (.ret d, ρ)
    | .ok (.next, ρ) => ok (.next, ρ)
    | .ok _ => bad
    | .exc c => if c < 5 then
        (if m = 2 then ok (.ret (.str (if c = 4 then .unfit else .other)), []) else
          match call f [.exc c] with
          | .ok (.str w, _) => ok (.ret (if m = 1 then .tup [.str .refused, .str w] else .str w), [])
          | _ => bad)
      else bad
    | .bad => bad
  | .brk, ρ => ok (.brk, ρ)
  | .cont, ρ => ok (.cont, ρ)
  | .pass, ρ => ok (.next, ρ)
def evalSs (call : CallF) (w : Nat) : Ss → Env → R (Ctl × Env)
  | .nil, ρ => ok (.next, ρ)
  | .cons s ss, ρ => do
    let (c, ρ) ← evalS call w s ρ
    match c with
    | .next => evalSs call w ss ρ
    | c => ok (c, ρ)
end

def startS (f : Fn) (ds : List D) : R Env :=
  if ds.length = f.ps.length then ok ((List.zipWith (fun d b => some (d, if b then 3 else 0)) ds f.ps) ++ List.replicate (f.n - f.ps.length) none) else bad
def outsOf (ps : List Bool) (ρ : Env) : List D :=
  (List.zip ps ρ).filterMap fun p => if p.1 then p.2.map (·.1) else none
def runF (call : CallF) (w : Nat) (f : Fn) (ds : List D) : R (D × List D) := do
  let ρ ← startS f ds
  let (c, ρ) ← evalSs call w f.body ρ
  if (outsOf f.ps ρ).all D.isMut then
    match c with
    | .next => ok (.non, outsOf f.ps ρ)
    | .ret d => ok (d, outsOf f.ps ρ)
    | _ => bad
  else bad
def callN (T : Nat → Option Fn) (w : Nat) : Nat → CallF
  | 0 => fun _ _ => bad
  | n + 1 => fun f ds => match T f with
    | some fn => runF (callN T w n) w fn ds
    | none => bad
end Cg
set_option Elab.async false
set_option linter.all false
set_option maxRecDepth 100000
set_option maxHeartbeats 4000000
namespace Cg
open PySem PySem.Spec PyProof.Rows L2

def W.txt : W → Str
  | .number => "number" | .record => "record" | .choice => "choice" | .row => "row" | .set => "set" | .bag => "bag" | .table => "table" | .same => "same" | .only => "only" | .turn => "turn"
  | .keep => "keep" | .cut => "cut" | .add => "add" | .mend => "mend" | .in_ => "in" | .out => "out" | .nothing => "nothing" | .end_ => "end" | .none_ => "none" | .value => "value" | .kind => "kind"
  | .patch => "patch" | .unfit => "unfit" | .all_ => "all" | .empty => "" | .let_ => "let" | .several => "several" | .x => "x" | .change => "change" | .made => "made" | .refused => "refused"
  | .told => "told" | .rows => "rows" | .zero => "0" | .other => "other" | .quarrel => "quarrel"
theorem W.txt_inj : ∀ a b : W, a.txt = b.txt → a = b := by
  have h : ∀ a b : W, (if a.txt = b.txt then decide (a = b) else true) = true := by
    intro a b
    cases a <;> cases b <;> decide +kernel
  intro a b e
  have q := h a b
  rw [if_pos e] at q
  exact of_decide_eq_true q
theorem W.txt_eq (a b : W) : (a.txt == b.txt) = (a == b) := by
  by_cases h : a = b
  · subst h; simp
  · have h2 : a.txt ≠ b.txt := fun e => h (W.txt_inj _ _ e)
    rw [beq_eq_false_iff_ne.mpr h, beq_eq_false_iff_ne.mpr h2]
theorem W.txt_len (a : W) : a.txt.length ≤ 16 := by
  cases a <;> decide +kernel
theorem W.txt_truth (a : W) : ((a.txt.length : Int) != 0) = (a != .empty) := by
  cases a <;> decide +kernel

/-! ### what stands for what -/
def Arg0 (t : Addr) (o : Obj) : Prop := ∀ vs : Array Value, o.data = .fields vs → vs[0]? = some (.ref t)
theorem Arg0.steady {t : Addr} : PXN.Steady1 (Arg0 t) := fun o v h => by
  obtain ⟨cl, di, da, sl⟩ := o
  cases da <;> first
    | (intro vs e; exact Data.noConfusion e)
    | (intro vs e; cases e; done)
    | skip
  rename_i ws
  intro vs e
  have q : ws.setIfInBounds 1 v = vs := Data.fields.inj e
  have q2 : (ws.setIfInBounds 1 v)[0]? = ws[0]? := by simp [Array.getElem?_setIfInBounds]
  rw [← q, q2]
  exact h ws rfl
def Zx (cls : Value) (t : Addr) : Obj → Prop := fun o => (o.cls = cls ∧ o.dict = none) ∧ PXN.CtxN o ∧ Arg0 t o
theorem Zx.steady {cls : Value} {t : Addr} : PXN.Steady1 (Zx cls t) := fun o v h => ⟨⟨PXN.steady_cls o v h.1.1, PXN.steady_dict o v h.1.2⟩, PXN.steady_ctx o v h.2.1, Arg0.steady o v h.2.2⟩
theorem Zx.zc {cls : Value} {t : Addr} {o : Obj} (h : Zx cls t o) : Zc cls none o := h.1
/-- an exception's own object -/
def ExV (cls : Value) (a t : Addr) : HO := .ext fun h => ∃ (oe : Obj) (vs : Array Value), h.get? a = some oe ∧ Zx cls t oe ∧ oe.data = .fields vs

mutual
def keyN : D → NestedKey
  | .int i => .num i
  | .bool b => .num (b2i b)
  | .str w => .text w.txt
  | .tup l => .tup (keyNs l)
  | _ => .none
def keyNs : List D → List NestedKey
  | [] => []
  | d :: ds => keyN d :: keyNs ds
end
/-- a dict's object: key, its value's stand-ins -/
def dctO (w : World) (a : Addr) (ps : List (NestedKey × V × V)) : HO := .ext fun h =>
  ∃ (o : Obj) (es : Array DictEntry) (ep : Nat), h.get? a = some o ∧ o.ExactDict ∧ o.data = .dict es ep ∧
    Paired (fun (p : NestedKey × V × V) (e : DictEntry) => e.hash = p.1.hash w ∧ RelV p.2.1 e.key ∧ RelV p.2.2 e.val) ps es.toList
structure Kx where
  K : PySem.W.Frag
  w : World
  xc : Nat → Value
  rt : D → Str
  pin : Addr → Value → Addr → Prop
/-- the script: read, never written -/
def Scr (k : Kx) (A : Addr → Prop) (H : Hp) (a : Addr) (xs : List V) : Prop := (A a ∧ H a = some (.lst xs)) ∨ (∃ o, H a = some (.frz o (.lst xs))) ∨
  ∃ (o : Obj) (its : Array Value) (n : Nat), k.K.lookup a = some o ∧ o.cls = .type "list" ∧ o.dict = none ∧ o.data = .seq its n ∧ its.size ≤ sizeLine ∧ Vals xs its.toList
section
variable (k : Kx) (A : Addr → Prop) (H : Hp)
mutual
/-- the value v stands for d; its lists and dicts lie where A allows -/
def Rep : D → V → Prop
  | .non, v => v = .non
  | .bool b, v => v = .bl b
  | .int i, v => v = .int i
  | .str x, v => v = .str x.txt
  | .tup ds, v => ∃ a vs, v = .ref a ∧ SqT k.K H a vs ∧ Reps ds vs
  | .lst ds, v => ∃ a vs, v = .ref a ∧ A a ∧ H a = some (.lst vs) ∧ Reps ds vs
  | .dct kvs, v => ∃ a ps, v = .ref a ∧ A a ∧ H a = some (dctO k.w a ps) ∧ Repk kvs ps
  | .exc c, v => ∃ a t, v = .ref a ∧ SqT k.K H t [] ∧ (k.pin a (k.xc c) t ∨ (A a ∧ H a = some (ExV (k.xc c) a t)))
  | .rep d, v => v = .str (k.rt d)
  | .scr l, v => ∃ a, v = .ref a ∧ Scr k A H a (l.map V.int)
def Reps : List D → List V → Prop
  | [], vs => vs = []
  | d :: ds, vs => ∃ v r, vs = v :: r ∧ Rep d v ∧ Reps ds r
def Repk : List (D × D) → List (NestedKey × V × V) → Prop
  | [], ps => ps = []
  | p :: kvs, ps => ∃ x y r, ps = (keyN p.1, x, y) :: r ∧ Rep p.1 x ∧ Rep p.2 y ∧ Repk kvs r
end
end
section
variable {k : Kx} {A B : Addr → Prop} {H H' : Hp}
def notTbl (o : HO) : Prop := ∀ ps, o ≠ .tbl ps
/-- what Rep leans on is kept -/
def KeepA (A : Addr → Prop) (H H' : Hp) : Prop := ∀ b o, H b = some o → notTbl o → (A b ∨ ∃ ys, o = .tup ys ∨ ∃ u w, o = .frz u w) → H' b = some o
theorem SqT.keep' {a : Addr} {xs : List V} (h : KeepA A H H') (x : SqT k.K H a xs) : SqT k.K H' a xs := by
  rcases x with (x | ⟨o, x⟩) | x
  · exact .inl (.inl (h _ _ x (fun _ z => by cases z) (.inr ⟨xs, .inl rfl⟩)))
  · exact .inl (.inr ⟨o, h _ _ x (fun _ z => by cases z) (.inr ⟨xs, .inr ⟨o, _, rfl⟩⟩)⟩)
  · exact .inr x
theorem Scr.keep {a : Addr} {xs : List V} (h : KeepA A H H') (x : Scr k A H a xs) : Scr k A H' a xs := by
  rcases x with ⟨z, x⟩ | ⟨o, x⟩ | x
  · exact .inl ⟨z, h _ _ x (fun _ q => by cases q) (.inl z)⟩
  · exact .inr (.inl ⟨o, h _ _ x (fun _ q => by cases q) (.inr ⟨[], .inr ⟨o, _, rfl⟩⟩)⟩)
  · exact .inr (.inr x)
mutual
theorem Rep.keep (h : KeepA A H H') : ∀ (d : D) (v : V), Rep k A H d v → Rep k A H' d v
  | .non, _, r => r
  | .bool _, _, r => r
  | .int _, _, r => r
  | .str _, _, r => r
  | .tup ds, _, ⟨a, vs, e, s, r⟩ => ⟨a, vs, e, SqT.keep' h s, Reps.keep h ds vs r⟩
  | .lst ds, _, ⟨a, vs, e, z, s, r⟩ => ⟨a, vs, e, z, h _ _ s (fun _ q => by cases q) (.inl z), Reps.keep h ds vs r⟩
  | .dct kvs, _, ⟨a, ps, e, z, s, r⟩ => ⟨a, ps, e, z, h _ _ s (fun _ q => by cases q) (.inl z), Repk.keep h kvs ps r⟩
  | .exc c, _, ⟨a, t, e, s, z⟩ => ⟨a, t, e, SqT.keep' h s, z.imp id fun z => ⟨z.1, h _ _ z.2 (fun _ q => by cases q) (.inl z.1)⟩⟩
  | .rep _, _, r => r
  | .scr _, _, ⟨a, e, s⟩ => ⟨a, e, s.keep h⟩
theorem Reps.keep (h : KeepA A H H') : ∀ (ds : List D) (vs : List V), Reps k A H ds vs → Reps k A H' ds vs
  | [], _, r => r
  | d :: ds, _, ⟨v, r, e, h1, h2⟩ => ⟨v, r, e, Rep.keep h d v h1, Reps.keep h ds r h2⟩
theorem Repk.keep (h : KeepA A H H') : ∀ (ds : List (D × D)) (vs : List (NestedKey × V × V)), Repk k A H ds vs → Repk k A H' ds vs
  | [], _, r => r
  | p :: ds, _, ⟨x, y, r, e, h1, h2, h3⟩ => ⟨x, y, r, e, Rep.keep h p.1 x h1, Rep.keep h p.2 y h2, Repk.keep h ds r h3⟩
end
mutual
theorem Rep.mono (h : ∀ b, A b → B b) : ∀ (d : D) (v : V), Rep k A H d v → Rep k B H d v
  | .non, _, r => r
  | .bool _, _, r => r
  | .int _, _, r => r
  | .str _, _, r => r
  | .tup ds, _, ⟨a, vs, e, s, r⟩ => ⟨a, vs, e, s, Reps.mono h ds vs r⟩
  | .lst ds, _, ⟨a, vs, e, z, s, r⟩ => ⟨a, vs, e, h _ z, s, Reps.mono h ds vs r⟩
  | .dct kvs, _, ⟨a, ps, e, z, s, r⟩ => ⟨a, ps, e, h _ z, s, Repk.mono h kvs ps r⟩
  | .exc c, _, ⟨a, t, e, s, z⟩ => ⟨a, t, e, s, z.imp id fun z => ⟨h _ z.1, z.2⟩⟩
  | .rep _, _, r => r
  | .scr _, _, ⟨a, e, s⟩ => ⟨a, e, s.imp (fun z => ⟨h _ z.1, z.2⟩) id⟩
theorem Reps.mono (h : ∀ b, A b → B b) : ∀ (ds : List D) (vs : List V), Reps k A H ds vs → Reps k B H ds vs
  | [], _, r => r
  | d :: ds, _, ⟨v, r, e, h1, h2⟩ => ⟨v, r, e, Rep.mono h d v h1, Reps.mono h ds r h2⟩
theorem Repk.mono (h : ∀ b, A b → B b) : ∀ (ds : List (D × D)) (vs : List (NestedKey × V × V)), Repk k A H ds vs → Repk k B H ds vs
  | [], _, r => r
  | p :: ds, _, ⟨x, y, r, e, h1, h2, h3⟩ => ⟨x, y, r, e, Rep.mono h p.1 x h1, Rep.mono h p.2 y h2, Repk.mono h ds r h3⟩
end
mutual
/-- only what is tracked -/
theorem Rep.restrict : ∀ (d : D) (v : V), Rep k A H d v → Rep k (fun b => A b ∧ H b ≠ none) H d v
  | .non, _, r => r
  | .bool _, _, r => r
  | .int _, _, r => r
  | .str _, _, r => r
  | .tup ds, _, ⟨a, vs, e, s, r⟩ => ⟨a, vs, e, s, Reps.restrict ds vs r⟩
  | .lst ds, _, ⟨a, vs, e, z, s, r⟩ => ⟨a, vs, e, ⟨z, by rw [s]; simp⟩, s, Reps.restrict ds vs r⟩
  | .dct kvs, _, ⟨a, ps, e, z, s, r⟩ => ⟨a, ps, e, ⟨z, by rw [s]; simp⟩, s, Repk.restrict kvs ps r⟩
  | .exc c, _, ⟨a, t, e, s, z⟩ => ⟨a, t, e, s, z.imp id fun z => ⟨⟨z.1, by rw [z.2]; simp⟩, z.2⟩⟩
  | .rep _, _, r => r
  | .scr _, _, ⟨a, e, s⟩ => ⟨a, e, s.imp (fun z => ⟨⟨z.1, by rw [z.2]; simp⟩, z.2⟩) id⟩
theorem Reps.restrict : ∀ (ds : List D) (vs : List V), Reps k A H ds vs → Reps k (fun b => A b ∧ H b ≠ none) H ds vs
  | [], _, r => r
  | d :: ds, _, ⟨v, r, e, h1, h2⟩ => ⟨v, r, e, Rep.restrict d v h1, Reps.restrict ds r h2⟩
theorem Repk.restrict : ∀ (ds : List (D × D)) (vs : List (NestedKey × V × V)), Repk k A H ds vs → Repk k (fun b => A b ∧ H b ≠ none) H ds vs
  | [], _, r => r
  | p :: ds, _, ⟨x, y, r, e, h1, h2, h3⟩ => ⟨x, y, r, e, Rep.restrict p.1 x h1, Rep.restrict p.2 y h2, Repk.restrict ds r h3⟩
end
theorem KeepA.same (h : Same H H') : KeepA A H H' := fun b o e _ _ => h b o e
theorem Rep.same (h : Same H H') {d : D} {v : V} (r : Rep k A H d v) : Rep k A H' d v := Rep.keep (KeepA.same h) d v r
theorem Reps.same (h : Same H H') {d : List D} {v : List V} (r : Reps k A H d v) : Reps k A H' d v := Reps.keep (KeepA.same h) d v r
theorem Reps.length : ∀ {ds : List D} {vs : List V}, Reps k A H ds vs → vs.length = ds.length
  | [], _, r => by rw [show _ = [] from r]; rfl
  | d :: ds, _, ⟨v, r, e, _, h2⟩ => by rw [e, List.length_cons, Reps.length h2]; rfl
theorem Repk.length : ∀ {ds : List (D × D)} {vs : List (NestedKey × V × V)}, Repk k A H ds vs → vs.length = ds.length
  | [], _, r => by rw [show _ = [] from r]; rfl
  | d :: ds, _, ⟨x, y, r, e, _, _, h2⟩ => by rw [e, List.length_cons, Repk.length h2]; rfl
theorem Reps.get : ∀ {ds : List D} {vs : List V} {i : Nat} {d : D}, Reps k A H ds vs → ds[i]? = some d → ∃ v, vs[i]? = some v ∧ Rep k A H d v
  | [], _, _, _, _, e => by simp at e
  | d :: ds, _, 0, _, ⟨v, r, e, h1, _⟩, q => by subst e; simp at q; subst q; exact ⟨v, rfl, h1⟩
  | d :: ds, _, i + 1, _, ⟨v, r, e, _, h2⟩, q => by
    subst e
    obtain ⟨u, h3, h4⟩ := Reps.get (i := i) h2 (by simpa using q)
    exact ⟨u, by simpa using h3, h4⟩
theorem Reps.app : ∀ {ds es : List D} {vs us : List V}, Reps k A H ds vs → Reps k A H es us → Reps k A H (ds ++ es) (vs ++ us)
  | [], _, _, _, r, s => by rw [show _ = [] from r]; exact s
  | d :: ds, _, _, _, ⟨v, r, e, h1, h2⟩, s => by subst e; exact ⟨v, _, rfl, h1, Reps.app h2 s⟩
theorem Reps.take : ∀ {ds : List D} {vs : List V} (n : Nat), Reps k A H ds vs → Reps k A H (ds.take n) (vs.take n)
  | [], _, n, r => by rw [show _ = [] from r]; simp [Reps]
  | d :: ds, _, 0, _ => by simp [Reps]
  | d :: ds, _, n + 1, ⟨v, r, e, h1, h2⟩ => by subst e; exact ⟨v, _, rfl, h1, Reps.take n h2⟩
theorem Reps.drop : ∀ {ds : List D} {vs : List V} (n : Nat), Reps k A H ds vs → Reps k A H (ds.drop n) (vs.drop n)
  | [], _, n, r => by rw [show _ = [] from r]; simp [Reps]
  | d :: ds, _, 0, r => r
  | d :: ds, _, n + 1, ⟨v, r, e, h1, h2⟩ => by subst e; exact Reps.drop n h2
theorem Reps.rev : ∀ {ds : List D} {vs : List V}, Reps k A H ds vs → Reps k A H ds.reverse vs.reverse
  | [], _, r => by rw [show _ = [] from r]; simp [Reps]
  | d :: ds, _, ⟨v, r, e, h1, h2⟩ => by subst e; rw [List.reverse_cons, List.reverse_cons]; exact Reps.app (Reps.rev h2) ⟨v, [], rfl, h1, rfl⟩
theorem Reps.set : ∀ {ds : List D} {vs : List V} {d : D} {v : V} (i : Nat), Reps k A H ds vs → Rep k A H d v → Reps k A H (ds.set i d) (vs.set i v)
  | [], _, _, _, i, r, _ => by rw [show _ = [] from r]; simp [Reps]
  | d :: ds, _, _, _, 0, ⟨v, r, e, h1, h2⟩, s => by subst e; exact ⟨_, _, rfl, s, h2⟩
  | d :: ds, _, _, _, i + 1, ⟨v, r, e, h1, h2⟩, s => by subst e; exact ⟨_, _, rfl, h1, Reps.set i h2 s⟩
theorem Reps.nil : Reps k A H [] [] := rfl
theorem Reps.cons {d : D} {ds : List D} {v : V} {vs : List V} (h : Rep k A H d v) (t : Reps k A H ds vs) : Reps k A H (d :: ds) (v :: vs) := ⟨v, vs, rfl, h, t⟩
theorem Reps.one {d : D} {vs : List V} (h : Reps k A H [d] vs) : ∃ v, vs = [v] ∧ Rep k A H d v := by
  obtain ⟨v, r, e, h1, h2⟩ := h
  exact ⟨v, by rw [e, show r = [] from h2], h1⟩
theorem Reps.flat {l : List D} {vs : List V} (h : Reps k A H l vs) : ∀ n : Nat, Reps k A H (List.replicate n l).flatten (List.replicate n vs).flatten
  | 0 => by simp [Reps]
  | n + 1 => by rw [List.replicate_succ, List.replicate_succ, List.flatten_cons, List.flatten_cons]; exact h.app (h.flat n)
end

/-! ### in the machine's heap -/
mutual
/-- plain data in the machine's heap -/
def RepH (h : Heap) : D → Value → Prop
  | .non, u => u = .none
  | .bool b, u => u = .bool b
  | .int i, u => ∃ t, u = .int i t
  | .str x, u => ∃ t, u = .str x.txt t
  | .tup ds, u => ∃ a vs, u = .ref a ∧ IsTup h a vs.toArray ∧ RepHs h ds vs
  | .lst ds, u => ∃ a vs, u = .ref a ∧ h.IsList a vs.toArray ∧ RepHs h ds vs
  | _, _ => False
def RepHs (h : Heap) : List D → List Value → Prop
  | [], us => us = []
  | d :: ds, us => ∃ u r, us = u :: r ∧ RepH h d u ∧ RepHs h ds r
end
section
variable {X : Cx} {pins : List (Addr × Obj)} {σ : L2.St} {H : Hp} {s : Shared} {k : Kx} {A : Addr → Prop}
mutual
theorem Rep.heap (I : Inv X pins σ H s) (e : X.K = k.K) : ∀ (d : D) (v : V) (u : Value), d.plain = true → Rep k A H d v → RelV v u → RepH s.heap d u
  | .non, _, _, _, r, q => by rw [show _ = V.non from r] at q; exact q
  | .bool b, _, _, _, r, q => by rw [show _ = V.bl b from r] at q; exact q
  | .int i, _, _, _, r, q => by rw [show _ = V.int i from r] at q; exact q
  | .str x, _, _, _, r, q => by rw [show _ = V.str _ from r] at q; exact q
  | .tup ds, _, _, p, ⟨a, vs, e', z, r⟩, q => by
    subst e'
    rw [← e] at z
    obtain ⟨its, rv, t, _⟩ := I.tuple z
    exact ⟨a, its, q, t, Reps.heap I e ds vs its p r rv⟩
  | .lst ds, _, _, p, ⟨a, vs, e', _, z, r⟩, q => by
    subst e'
    obtain ⟨its, rv, t, _⟩ := I.list (SqL.of z)
    exact ⟨a, its, q, t.isList, Reps.heap I e ds vs its p r rv⟩
  | .dct _, _, _, p, _, _ => by simp [D.plain] at p
  | .exc _, _, _, p, _, _ => by simp [D.plain] at p
  | .rep _, _, _, p, _, _ => by simp [D.plain] at p
  | .scr _, _, _, p, _, _ => by simp [D.plain] at p
theorem Reps.heap (I : Inv X pins σ H s) (e : X.K = k.K) : ∀ (ds : List D) (vs : List V) (us : List Value), D.plains ds = true → Reps k A H ds vs → Vals vs us → RepHs s.heap ds us
  | [], _, _, _, r, q => by rw [show _ = [] from r] at q; cases q; rfl
  | d :: ds, _, _, p, ⟨v, r, e', h1, h2⟩, q => by
    subst e'
    cases q with
    | cons q1 q2 =>
      simp only [D.plains, Bool.and_eq_true] at p
      exact ⟨_, _, rfl, Rep.heap I e d v _ p.1 h1 q1, Reps.heap I e ds r _ p.2 h2 q2⟩
end
end
theorem RepHs.length {h : Heap} : ∀ {ds : List D} {us : List Value}, RepHs h ds us → us.length = ds.length
  | [], _, r => by rw [show _ = [] from r]; rfl
  | d :: ds, _, ⟨u, r, e, _, h2⟩ => by rw [e, List.length_cons, RepHs.length h2]; rfl
theorem RepHs.at {h : Heap} : ∀ {ds : List D} {us : List Value}, RepHs h ds us → ∀ j (hj : j < us.length), RepH h (ds.getD j .non) us[j]
  | [], _, r, j, hj => by rw [show _ = [] from r] at hj; exact absurd hj (Nat.not_lt_zero _)
  | d :: ds, _, ⟨u, r, e, h1, h2⟩, j, hj => by
    subst e
    cases j with
    | zero => exact h1
    | succ j => exact RepHs.at h2 j (Nat.lt_of_succ_lt_succ hj)
end Cg
set_option Elab.async false
set_option linter.all false
set_option maxRecDepth 100000
set_option maxHeartbeats 4000000
namespace Cg
open PySem PySem.Spec PyProof.Rows L2

/-- what stays through a def's run: its entry, what its arguments may lead to, what it may change, how it may be left -/
structure Fc where
  k : Kx
  H0 : Hp
  A0 : Addr → Prop
  F : Addr → Prop
  pr : List (Nat × Addr)
  tb : List Addr
  tl : List (Addr × Str)
  E : XK
  Z : Addr → Prop
/-- who owns a list or a dict -/
abbrev Ow := Addr → Option Nat
def TabG (H : Hp) (P : Addr) : Prop := ∃ ps : Array Value, H P = some (.tbl ps) ∧ TriplesOk ps.toList
def TabsOk (c : Fc) (H : Hp) : Prop := (∀ P ∈ c.tb, TabG H P) ∧ LamX.Tabs c.tl H
def Al (c : Fc) (O : Ow) (a : Addr) : Prop := O a = none ∧ ¬ c.Z a ∧ (c.A0 a ∨ c.H0 a = none)
def Own (c : Fc) (O : Ow) (i : Nat) (H : Hp) : D → V → Prop
  | .lst ds, v => ∃ a vs, v = .ref a ∧ O a = some i ∧ H a = some (.lst vs) ∧ Reps c.k (Al c O) H ds vs
  | .dct kvs, v => ∃ a ps, v = .ref a ∧ O a = some i ∧ H a = some (dctO c.k.w a ps) ∧ Repk c.k (Al c O) H kvs ps
  | d, v => Rep c.k (Al c O) H d v
/-- rows of its own: their addresses -/
def Rows (c : Fc) (O : Ow) (i : Nat) (H : Hp) : List D → List V → List Addr → Prop
  | [], vs, as => vs = [] ∧ as = []
  | d :: ds, vs, as => ∃ b r bs es ws, d = .lst es ∧ vs = .ref b :: r ∧ as = b :: bs ∧ O b = some i ∧ H b = some (.lst ws) ∧ Reps c.k (Al c O) H es ws ∧ Rows c O i H ds r bs
def Own2 (c : Fc) (O : Ow) (i : Nat) (H : Hp) (d : D) (v : V) : Prop := ∃ ds a vs as, d = .lst ds ∧ v = .ref a ∧ O a = some i ∧ H a = some (.lst vs) ∧ Rows c O i H ds vs as ∧ (a :: as).Nodup
def SlotOk (c : Fc) (O : Ow) (i : Nat) (H : Hp) (d : D) (g : Nat) (v : V) : Prop :=
  if g = 0 then Rep c.k (Al c O) H d v else if g = 2 then Own2 c O i H d v else Own c O i H d v
structure Rel (c : Fc) (O : Ow) (ρ : Env) (σ : L2.St) (H : Hp) : Prop where
  len : ρ.length = σ.length
  slot : ∀ i d g, ρ[i]? = some (some (d, g)) → ∃ v, σ[i]? = some (some v) ∧ SlotOk c O i H d g v
  dom : ∀ a i, O a = some i → (∃ xs, H a = some (.lst xs)) ∨ ∃ ps, H a = some (dctO c.k.w a ps)
  own : ∀ a i, O a = some i → c.F a ∨ c.H0 a = none
  ent : ∀ a o, c.H0 a = some o → notTbl o → ¬ c.F a → H a = some o
  tbl : ∀ a ps, c.H0 a = some (.tbl ps) → ∃ more, H a = some (.tbl (ps ++ more))
  root : ∀ a, c.F a → ∃ i, O a = some i ∧ (i, a) ∈ c.pr
  par : ∀ p ∈ c.pr, (∃ d, ρ[p.1]? = some (some (d, 3))) ∧ σ[p.1]? = some (some (.ref p.2)) ∧ O p.2 = some p.1
  tabs : TabsOk c H
  zed : ∀ a, c.Z a → O a = none ∧ ∃ xs, H a = some (.lst xs)
  zed0 : ∀ a, c.Z a → c.H0 a = none
/-- all but the tables stays, the tables grow -/
structure Ext (H H' : Hp) : Prop where
  keep : ∀ a o, H a = some o → notTbl o → H' a = some o
  tbl : ∀ a ps, H a = some (.tbl ps) → ∃ more, H' a = some (.tbl (ps ++ more))
theorem Ext.refl (H : Hp) : Ext H H := ⟨fun _ _ h _ => h, fun _ ps h => ⟨#[], by rw [h]; simp⟩⟩
theorem Ext.trans {H H1 H2 : Hp} (a : Ext H H1) (b : Ext H1 H2) : Ext H H2 := ⟨fun x o h n => b.keep x o (a.keep x o h n) n, fun x ps h => by
  obtain ⟨m, e⟩ := a.tbl x ps h
  obtain ⟨m', e'⟩ := b.tbl x _ e
  exact ⟨m ++ m', by rw [e', Array.append_assoc]⟩⟩
theorem Ext.new {H : Hp} {p : Addr} {o : HO} (h : H p = none) : Ext H (upd H p o) :=
  ⟨fun a u e _ => by rw [upd_ne (ne_of_none e h)]; exact e, fun a ps e => ⟨#[], by rw [upd_ne (ne_of_none e h), e]; simp⟩⟩
theorem Ext.same {H H' : Hp} (h : Same H H') : Ext H H' := ⟨fun a o e _ => h a o e, fun a ps e => ⟨#[], by rw [h a _ e]; simp⟩⟩
theorem Ext.keepA {A : Addr → Prop} {H H' : Hp} (e : Ext H H') : KeepA A H H' := fun b o h n _ => e.keep b o h n
/-- what no one owns is kept -/
def Keep (O : Ow) (H H' : Hp) : Prop := ∀ a o, H a = some o → notTbl o → O a = none → H' a = some o
theorem Keep.refl (O : Ow) (H : Hp) : Keep O H H := fun _ _ h _ _ => h
theorem Keep.trans {O : Ow} {H H1 H2 : Hp} (a : Keep O H H1) (b : Keep O H1 H2) : Keep O H H2 := fun x o h n z => b x o (a x o h n z) n z
theorem Ext.toKeep {O : Ow} {H H' : Hp} (e : Ext H H') : Keep O H H' := fun a o h n _ => e.keep a o h n
def TabsOk.ext {c : Fc} {H H' : Hp} (t : TabsOk c H) (e : Same H H') : TabsOk c H' := ⟨fun P hP => by
  obtain ⟨ps, h1, h2⟩ := t.1 P hP
  exact ⟨ps, e _ _ h1, h2⟩, t.2.ext e⟩
section
variable {c : Fc} {O : Ow} {ρ : Env} {σ : L2.St} {H H' : Hp}
theorem Rel.nown (R : Rel c O ρ σ H) {a : Addr} {ys : List V} {o : HO} (h : H a = some o) (e : o = .tup ys ∨ ∃ u w, o = .frz u w) : O a = none := by
  cases q : O a with
  | none => rfl
  | some i =>
    rcases R.dom a i q with ⟨xs, z⟩ | ⟨ps, z⟩ <;> rw [h] at z <;> rcases e with e | ⟨u, w, e⟩ <;> rw [e] at z <;> cases z
theorem Rel.keepA (R : Rel c O ρ σ H) (k : Keep O H H') : KeepA (Al c O) H H' := fun b o h n z => k b o h n (by
  rcases z with z | ⟨ys, z⟩
  · exact z.1
  · exact R.nown h z)
theorem Rel.rep (R : Rel c O ρ σ H) (k : Keep O H H') {d : D} {v : V} (r : Rep c.k (Al c O) H d v) : Rep c.k (Al c O) H' d v := Rep.keep (R.keepA k) d v r
theorem Rel.reps (R : Rel c O ρ σ H) (k : Keep O H H') {d : List D} {v : List V} (r : Reps c.k (Al c O) H d v) : Reps c.k (Al c O) H' d v := Reps.keep (R.keepA k) d v r
theorem Rel.repk (R : Rel c O ρ σ H) (k : Keep O H H') {d : List (D × D)} {v : List (NestedKey × V × V)} (r : Repk c.k (Al c O) H d v) : Repk c.k (Al c O) H' d v := Repk.keep (R.keepA k) d v r
theorem Rel.grow (R : Rel c O ρ σ H) {a : Addr} (h : H a = none) : c.H0 a = none := by
  cases q : c.H0 a with
  | none => rfl
  | some o =>
    by_cases t : notTbl o
    · by_cases f : c.F a
      · obtain ⟨i, e, _⟩ := R.root a f
        rcases R.dom a i e with ⟨xs, z⟩ | ⟨ps, z⟩ <;> rw [h] at z <;> cases z
      · have z := R.ent a o q t f
        rw [h] at z; cases z
    · obtain ⟨ps, e⟩ : ∃ ps, o = .tbl ps := Classical.byContradiction fun z => t fun ps e => z ⟨ps, e⟩
      subst e
      obtain ⟨m, z⟩ := R.tbl a ps q
      rw [h] at z; cases z
theorem Rel.onew (R : Rel c O ρ σ H) {a : Addr} (h : H a = none) : O a = none := by
  cases q : O a with
  | none => rfl
  | some i => rcases R.dom a i q with ⟨xs, z⟩ | ⟨ps, z⟩ <;> rw [h] at z <;> cases z
theorem Rel.alNew (R : Rel c O ρ σ H) {a : Addr} (h : H a = none) : Al c O a := by
  refine ⟨R.onew h, fun q => ?_, .inr (R.grow h)⟩
  obtain ⟨_, xs, z⟩ := R.zed a q
  rw [h] at z
  cases z
theorem Rows.keep (h : KeepA (Al c O) H H') (hk : ∀ b i xs, O b = some i → H b = some (.lst xs) → H' b = some (.lst xs)) {i : Nat} : ∀ {ds : List D} {vs : List V} {as : List Addr}, Rows c O i H ds vs as → Rows c O i H' ds vs as
  | [], _, _, r => r
  | d :: ds, _, _, ⟨b, r, bs, es, ws, e1, e2, e3, e4, e5, e6, e7⟩ => ⟨b, r, bs, es, ws, e1, e2, e3, e4, hk _ _ _ e4 e5, Reps.keep h _ _ e6, Rows.keep h hk e7⟩
theorem Own.keep (h : KeepA (Al c O) H H') (hk : ∀ b i o, O b = some i → H b = some o → notTbl o → H' b = some o) {i : Nat} {d : D} {v : V} (r : Own c O i H d v) : Own c O i H' d v := by
  cases d with
  | lst ds =>
    obtain ⟨a, vs, e1, e2, e3, e4⟩ := r
    exact ⟨a, vs, e1, e2, hk _ _ _ e2 e3 (fun _ z => by cases z), Reps.keep h _ _ e4⟩
  | dct kvs =>
    obtain ⟨a, ps, e1, e2, e3, e4⟩ := r
    exact ⟨a, ps, e1, e2, hk _ _ _ e2 e3 (fun _ z => by cases z), Repk.keep h _ _ e4⟩
  | _ => exact Rep.keep h _ _ r
theorem SlotOk.keep (h : KeepA (Al c O) H H') (hk : ∀ b i o, O b = some i → H b = some o → notTbl o → H' b = some o) {i g : Nat} {d : D} {v : V} (r : SlotOk c O i H d g v) : SlotOk c O i H' d g v := by
  unfold SlotOk at r ⊢
  split
  · rename_i q
    rw [if_pos q] at r
    exact Rep.keep h _ _ r
  · rename_i q
    rw [if_neg q] at r
    split
    · rename_i q
      rw [if_pos q] at r
      obtain ⟨ds, a, vs, as, e1, e2, e3, e4, e5, e6⟩ := r
      exact ⟨ds, a, vs, as, e1, e2, e3, hk _ _ _ e3 e4 (fun _ z => by cases z), Rows.keep h (fun b i xs z1 z2 => hk b i _ z1 z2 fun _ z => by cases z) e5, e6⟩
    · rename_i q
      rw [if_neg q] at r
      exact Own.keep h hk r
/-- all that was there is kept -/
theorem Rel.ext (R : Rel c O ρ σ H) (e : Ext H H') (t : TabsOk c H') : Rel c O ρ σ H' where
  len := R.len
  slot := fun i d g h => by
    obtain ⟨v, h1, h2⟩ := R.slot i d g h
    exact ⟨v, h1, h2.keep e.keepA fun b i o _ q n => e.keep b o q n⟩
  dom := fun a i h => by
    rcases R.dom a i h with ⟨xs, z⟩ | ⟨ps, z⟩
    · exact .inl ⟨xs, e.keep _ _ z fun _ z => by cases z⟩
    · exact .inr ⟨ps, e.keep _ _ z fun _ z => by cases z⟩
  own := R.own
  ent := fun a o h n f => e.keep _ _ (R.ent a o h n f) n
  tbl := fun a ps h => by
    obtain ⟨m, z⟩ := R.tbl a ps h
    obtain ⟨m', z'⟩ := e.tbl a _ z
    exact ⟨m ++ m', by rw [z', Array.append_assoc]⟩
  root := R.root
  par := R.par
  tabs := t
  zed := fun a q => by
    obtain ⟨z1, xs, z2⟩ := R.zed a q
    exact ⟨z1, xs, e.keep _ _ z2 fun _ z => by cases z⟩
  zed0 := R.zed0
theorem Rel.laid (R : Rel c O ρ σ H) {p : Addr} {o : HO} (h : H p = none) : Rel c O ρ σ (upd H p o) :=
  R.ext (.new h) (R.tabs.ext fun a u e => by rw [upd_ne (ne_of_none e h)]; exact e)
def setO (O : Ow) (a : Addr) (t : Nat) : Ow := fun b => if b = a then some t else O b
theorem setO_same {O : Ow} {a : Addr} {t : Nat} : setO O a t a = some t := if_pos rfl
theorem setO_ne {O : Ow} {a b : Addr} {t : Nat} (h : b ≠ a) : setO O a t b = O b := if_neg h
end
/-- the result is a list or dict of its own -/
def New (B : Hp) (a : Addr) : Prop := ∀ o, B a = some o → ¬ notTbl o
theorem New.of {B : Hp} {a : Addr} (h : B a = none) : New B a := fun o e => by rw [h] at e; cases e
theorem New.lower {O : Ow} {B B' : Hp} {a : Addr} (h : New B' a) (k : Keep O B B') (n : O a = none) : New B a := fun o e t => h o (k a o e t n) t
def FreshR (c : Fc) (B : Hp) (O : Ow) (ρ : Env) (σ : L2.St) (H : Hp) (d : D) (v : V) : Prop :=
  d.isMut = true → ∃ a, v = .ref a ∧ O a = none ∧ c.H0 a = none ∧ New B a ∧ ∀ t, Rel c (setO O a t) ρ σ H ∧ Own c (setO O a t) t H d v
structure Res (g : Bool) (c : Fc) (B : Hp) (O : Ow) (ρ : Env) (σ : L2.St) (H : Hp) (d : D) (v : V) : Prop where
  rel : Rel c O ρ σ H
  rep : Rep c.k (Al c O) H d v
  fr : g = true → FreshR c B O ρ σ H d v
/-- the def may be left by an error of the class e -/
def Out (c : Fc) (H : Hp) : Prop := (∀ a o, c.H0 a = some o → notTbl o → ¬ c.F a → H a = some o) ∧ (∀ a ps, c.H0 a = some (.tbl ps) → ∃ more, H a = some (.tbl (ps ++ more))) ∧ TabsOk c H
def Fc.exits (c : Fc) (e : Nat) : Prop := ∀ dx H, Out c H → c.E (c.k.xc e) dx H
theorem Res.lower {g : Bool} {c : Fc} {B B' : Hp} {O : Ow} {ρ : Env} {σ : L2.St} {H : Hp} {d : D} {v : V} (r : Res g c B' O ρ σ H d v) (k : Keep O B B') : Res g c B O ρ σ H d v := ⟨r.rel, r.rep, fun z m => by
  obtain ⟨a, h1, h2, h3, h4, h5⟩ := r.fr z m
  exact ⟨a, h1, h2, h3, h4.lower k h2, h5⟩⟩
/-- what is asked of a reckoning: its value, or that the error may leave -/
def wpR (c : Fc) {α : Type} (r : R α) (P : α → Prop) : Prop := match r with
  | .ok a => P a
  | .exc e => c.exits e
  | .bad => False
section
variable {c : Fc} {α β : Type}
theorem wpR_bind {r : R α} {f : α → R β} {P : β → Prop} : wpR c (r >>= f) P ↔ wpR c r (fun a => wpR c (f a) P) := by cases r <;> rfl
theorem wpR_ok {a : α} {P : α → Prop} : wpR c (.ok a) P ↔ P a := Iff.rfl
theorem wpR_bad {P : α → Prop} : wpR c (.bad : R α) P ↔ False := Iff.rfl
theorem wpR.mono {r : R α} {P Q : α → Prop} (h : wpR c r P) (hq : ∀ a, P a → Q a) : wpR c r Q := by
  cases r with
  | ok a => exact hq a h
  | exc e => exact h
  | bad => exact h
theorem wpR.if_ {p : Prop} [Decidable p] {r : R α} {P : α → Prop} (h : wpR c (if p then r else .bad) P) : p ∧ wpR c r P := by
  by_cases z : p
  · rw [if_pos z] at h; exact ⟨z, h⟩
  · rw [if_neg z] at h; exact h.elim
end
/-! ### readings -/
def tS (c : Fc) (g : Bool) (F : Env → R (D × Env)) : TE := fun σ H Q => ∃ O ρ, Rel c O ρ σ H ∧ wpR c (F ρ) fun p => ∀ v H', Res g c H O p.2 σ H' p.1 v → Keep O H H' → Q v H'
def tA (c : Fc) (F : Env → R (List D × Env)) : TA := fun σ H Q => ∃ O ρ, Rel c O ρ σ H ∧ wpR c (F ρ) fun p => ∀ vs H', Rel c O p.2 σ H' → Reps c.k (Al c O) H' p.1 vs → Keep O H H' → Q vs H'
def tB (c : Fc) (F : Env → R (Bool × Env)) : TT := fun σ H Q => ∃ O ρ, Rel c O ρ σ H ∧ wpR c (F ρ) fun p => ∀ H', Rel c O p.2 σ H' → Keep O H H' → Q p.1 H'
theorem _root_.L2.PE.weak {X : Cx} {p : Expr} {t t' : TE} (h : PE X p t) (w : ∀ σ H Q, t' σ H Q → t σ H Q) : PE X p t' := ⟨fun pins s σ H Q I q => h.run pins s σ H Q I (w σ H Q q)⟩
theorem _root_.L2.PT.weak {X : Cx} {p : Expr} {t t' : TT} (h : PT X p t) (w : ∀ σ H Q, t' σ H Q → t σ H Q) : PT X p t' := ⟨fun pins s σ H Q I q => h.run pins s σ H Q I (w σ H Q q)⟩
theorem _root_.L2.PW.weak {X : Cx} {p : Expr} {t t' : TT} (h : PW X p t) (w : ∀ σ H Q, t' σ H Q → t σ H Q) : PW X p t' := ⟨fun wh pins s σ H Q I q => h.run wh pins s σ H Q I (w σ H Q q)⟩
theorem _root_.L2.PA.weak {X : Cx} {p : List Expr} {t t' : TA} (h : PA X p t) (w : ∀ σ H Q, t' σ H Q → t σ H Q) : PA X p t' := ⟨fun ps pins s σ H Q I q => h.run ps pins s σ H Q I (w σ H Q q)⟩
theorem _root_.L2.PS.weak {X : Cx} {p : Stmt} {t t' : TS} (h : PS X p t) (w : ∀ D σ H, t' D σ H → t D σ H) : PS X p t' := ⟨fun pins s σ H D I q => h.run pins s σ H D I (w D σ H q)⟩
theorem _root_.L2.PSs.weak {X : Cx} {p : List Stmt} {t t' : TS} (h : PSs X p t) (w : ∀ D σ H, t' D σ H → t D σ H) : PSs X p t' := ⟨fun pins s σ H D I q => h.run pins s σ H D I (w D σ H q)⟩
section
variable {X : Cx} {c : Fc}
theorem tS.mono {F : Env → R (D × Env)} {g : Bool} {σ : L2.St} {H : Hp} {Q : VK} (h : tS c false F σ H Q) : tS c g F σ H Q := by
  obtain ⟨O, ρ, R, q⟩ := h
  exact ⟨O, ρ, R, q.mono fun p q v H' r k => q v H' ⟨r.rel, r.rep, fun z => nomatch z⟩ k⟩
theorem _root_.L2.PE.lax {p : Expr} {F : Env → R (D × Env)} {g : Bool} (h : PE X p (tS c g F)) : PE X p (tS c false F) := h.weak fun σ H Q q => q.mono
/-- scalars are fresh of themselves -/
theorem Res.scal {g : Bool} {O : Ow} {ρ : Env} {σ : L2.St} {B H : Hp} {d : D} {v : V} (R : Rel c O ρ σ H) (r : Rep c.k (Al c O) H d v) (h : d.isMut = false) : Res g c B O ρ σ H d v := ⟨R, r, fun _ z => by rw [h] at z; cases z⟩
theorem Rep.upO {O : Ow} {H H' : Hp} {p : Addr} {t : Nat} (h : H p = none) (ka : ∀ B : Addr → Prop, KeepA B H H') {d : D} {v : V} (r : Rep c.k (Al c O) H d v) : Rep c.k (Al c (setO O p t)) H' d v :=
  Rep.keep (ka _) d v (Rep.mono (fun b z => ⟨by rw [setO_ne (fun q => z.2 (by rw [q]; exact h))]; exact z.1.1, z.1.2⟩) d v (Rep.restrict d v r))
theorem Reps.upO {O : Ow} {H H' : Hp} {p : Addr} {t : Nat} (h : H p = none) (ka : ∀ B : Addr → Prop, KeepA B H H') {d : List D} {v : List V} (r : Reps c.k (Al c O) H d v) : Reps c.k (Al c (setO O p t)) H' d v :=
  Reps.keep (ka _) d v (Reps.mono (fun b z => ⟨by rw [setO_ne (fun q => z.2 (by rw [q]; exact h))]; exact z.1.1, z.1.2⟩) d v (Reps.restrict d v r))
theorem Repk.upO {O : Ow} {H H' : Hp} {p : Addr} {t : Nat} (h : H p = none) (ka : ∀ B : Addr → Prop, KeepA B H H') {d : List (D × D)} {v : List (NestedKey × V × V)} (r : Repk c.k (Al c O) H d v) : Repk c.k (Al c (setO O p t)) H' d v :=
  Repk.keep (ka _) d v (Repk.mono (fun b z => ⟨by rw [setO_ne (fun q => z.2 (by rw [q]; exact h))]; exact z.1.1, z.1.2⟩) d v (Repk.restrict d v r))
/-- a new object has an owner -/
theorem Rel.setO {O : Ow} {ρ : Env} {σ : L2.St} {H H' : Hp} {p : Addr} {t : Nat} (R : Rel c O ρ σ H) (h : H p = none) (e : Ext H H') (tt : TabsOk c H') (hp : (∃ xs, H' p = some (.lst xs)) ∨ ∃ ps, H' p = some (dctO c.k.w p ps)) : Rel c (setO O p t) ρ σ H' := by
  have nO := R.onew h
  have ka : ∀ B : Addr → Prop, KeepA B H H' := fun _ => e.keepA
  have oo : ∀ {a i}, O a = some i → Cg.setO O p t a = some i := fun {a i} z => by
    rw [setO_ne (fun q => by rw [q, nO] at z; cases z)]
    exact z
  have R2 := R.ext e tt
  refine ⟨R.len, fun i d g q => ?_, fun a i q => ?_, fun a i q => ?_, R2.ent, R2.tbl, fun a f => ?_, fun q hq => ?_, tt, fun a q => ?_, R.zed0⟩
  · obtain ⟨v, h1, h2⟩ := R.slot i d g q
    refine ⟨v, h1, ?_⟩
    unfold SlotOk at h2 ⊢
    split
    · rename_i z
      rw [if_pos z] at h2
      exact Rep.upO h ka h2
    · rename_i z
      rw [if_neg z] at h2
      split
      · rename_i z
        rw [if_pos z] at h2
        obtain ⟨ds, a, vs, as, e1, e2, e3, e4, e5, e6⟩ := h2
        refine ⟨ds, a, vs, as, e1, e2, oo e3, e.keep _ _ e4 (fun _ z => by cases z), ?_, e6⟩
        have rows : ∀ {ds : List D} {vs : List V} {as : List Addr}, Rows c O i H ds vs as → Rows c (Cg.setO O p t) i H' ds vs as := by
          intro ds
          induction ds with
          | nil => exact fun r => r
          | cons d ds ih => exact fun ⟨b, r, bs, es, ws, f1, f2, f3, f4, f5, f6, f7⟩ => ⟨b, r, bs, es, ws, f1, f2, f3, oo f4, e.keep _ _ f5 (fun _ z => by cases z), Reps.upO h ka f6, ih f7⟩
        exact rows e5
      · rename_i z
        rw [if_neg z] at h2
        cases d with
        | lst ds =>
          obtain ⟨a, vs, e1, e2, e3, e4⟩ := h2
          exact ⟨a, vs, e1, oo e2, e.keep _ _ e3 (fun _ z => by cases z), Reps.upO h ka e4⟩
        | dct kvs =>
          obtain ⟨a, ps, e1, e2, e3, e4⟩ := h2
          exact ⟨a, ps, e1, oo e2, e.keep _ _ e3 (fun _ z => by cases z), Repk.upO h ka e4⟩
        | _ => exact Rep.upO h ka h2
  · by_cases z : a = p
    · rw [z]; exact hp
    · rw [setO_ne z] at q
      exact R2.dom a i q
  · by_cases z : a = p
    · rw [z]; exact .inr (R.grow h)
    · rw [setO_ne z] at q
      exact R.own a i q
  · obtain ⟨i, z, w⟩ := R.root a f
    exact ⟨i, oo z, w⟩
  · obtain ⟨z1, z2, z3⟩ := R.par q hq
    exact ⟨z1, z2, oo z3⟩
  · obtain ⟨z1, xs, z2⟩ := R.zed a q
    have na : a ≠ p := fun z => by rw [z, h] at z2; cases z2
    exact ⟨by rw [setO_ne na]; exact z1, xs, e.keep _ _ z2 fun _ z => by cases z⟩
/-- a new list -/
theorem Res.list {g : Bool} {O : Ow} {ρ : Env} {σ : L2.St} {H : Hp} {ds : List D} {vs : List V} {p : Addr} (R : Rel c O ρ σ H) (r : Reps c.k (Al c O) H ds vs) (h : H p = none) : Res g c H O ρ σ (upd H p (.lst vs)) (.lst ds) (.ref p) := by
  have R' : Rel c O ρ σ (upd H p (.lst vs)) := R.laid h
  have e : Ext H (upd H p (.lst vs)) := .new h
  exact ⟨R', ⟨p, vs, rfl, R.alNew h, upd_same, Reps.keep e.keepA _ _ r⟩, fun _ _ => ⟨p, rfl, R.onew h, R.grow h, .of h, fun t => ⟨R.setO h e R'.tabs (.inl ⟨vs, upd_same⟩), p, vs, rfl, setO_same, upd_same, Reps.upO h (fun _ => e.keepA) r⟩⟩⟩
/-- a new tuple -/
theorem Res.tup {g : Bool} {O : Ow} {ρ : Env} {σ : L2.St} {H : Hp} {ds : List D} {vs : List V} {p : Addr} (R : Rel c O ρ σ H) (r : Reps c.k (Al c O) H ds vs) (h : H p = none) : Res g c H O ρ σ (upd H p (.tup vs)) (.tup ds) (.ref p) :=
  .scal (R.laid h) ⟨p, vs, rfl, SqT.of upd_same, Reps.keep (Ext.new h).keepA _ _ r⟩ rfl
/-! ### displays -/
theorem pa_nilS : PA X [] (tA c fun ρ => .ok ([], ρ)) := pa_nil.weak fun σ H Q ⟨O, ρ, R, q⟩ => q [] H R rfl (Keep.refl O H)
theorem pa_consS {p : Expr} {ps : List Expr} {F : Env → R (D × Env)} {G : Env → R (List D × Env)} {g : Bool} (hp : PE X p (tS c g F)) (hs : PA X ps (tA c G)) (hst : starEach (p :: ps) X.env = (false, eval p X.env) :: starEach ps X.env) :
    PA X (p :: ps) (tA c fun ρ => do let (d, ρ) ← F ρ; let (ds, ρ) ← G ρ; .ok (d :: ds, ρ)) := by
  refine (pa_cons hp.lax hs hst).weak fun σ H Q ⟨O, ρ, R, q⟩ => ⟨O, ρ, R, (wpR_bind.mp q).mono fun ⟨d, ρ1⟩ q v H1 r1 k1 => ⟨O, ρ1, r1.rel, (wpR_bind.mp q).mono fun ⟨ds, ρ2⟩ q vs H2 R2 r2 k2 => ?_⟩⟩
  exact q (v :: vs) H2 R2 (Reps.cons (r1.rel.rep k2 r1.rep) r2) (k1.trans k2)
theorem pe_tupS {ps : List Expr} {n : Nat} {pos : Pos} {G : Env → R (List D × Env)} {g : Bool} (hs : PA X ps (tA c G)) : PE X (.Tuple ps n pos) (tS c g fun ρ => do let (ds, ρ) ← G ρ; .ok (← mkTup ds, ρ)) := by
  refine (pe_tup hs).weak fun σ H Q ⟨O, ρ, R, q⟩ => ⟨O, ρ, R, (wpR_bind.mp q).mono fun ⟨ds, ρ1⟩ q vs H1 R1 r1 k1 => ?_⟩
  obtain ⟨h, q⟩ := (wpR_bind.mp q).if_
  exact ⟨by rw [r1.length, sizeLine_eq]; exact h, fun p np => q _ _ ((Res.tup R1 r1 np).lower k1) (k1.trans (Ext.new np).toKeep)⟩
theorem pe_lstS {ps : List Expr} {pos : Pos} {G : Env → R (List D × Env)} {g : Bool} (hs : PA X ps (tA c G)) : PE X (.List ps pos) (tS c g fun ρ => do let (ds, ρ) ← G ρ; .ok (← mkLst ds, ρ)) := by
  refine (pe_lst hs).weak fun σ H Q ⟨O, ρ, R, q⟩ => ⟨O, ρ, R, (wpR_bind.mp q).mono fun ⟨ds, ρ1⟩ q vs H1 R1 r1 k1 => ?_⟩
  obtain ⟨h, q⟩ := (wpR_bind.mp q).if_
  exact ⟨by rw [r1.length, sizeLine_eq]; exact h, fun p np => q _ _ ((Res.list R1 r1 np).lower k1) (k1.trans (Ext.new np).toKeep)⟩
/-! ### names, constants -/
def scalD : D → Option V
  | .non => some .non
  | .bool b => some (.bl b)
  | .int i => some (.int i)
  | .str w => some (.str w.txt)
  | _ => none
theorem scalD_rep {k : Kx} {A : Addr → Prop} {H : Hp} {d : D} {v : V} (h : scalD d = some v) : Rep k A H d v ∧ d.isMut = false := by
  cases d <;> simp [scalD] at h <;> subst h <;> exact ⟨rfl, rfl⟩
theorem pe_constS {p : Expr} {v : V} {d : D} {g : Bool} (hp : PE X p (tC v)) (h : scalD d = some v) : PE X p (tS c g fun ρ => .ok (d, ρ)) :=
  hp.weak fun σ H Q ⟨O, ρ, R, q⟩ => q v H (.scal R (scalD_rep h).1 (scalD_rep (k := c.k) (A := Al c O) (H := H) h).2) (Keep.refl O H)
theorem valS_eq {ρ : Env} {i : Nat} {P : D → Prop} (h : wpR c (valS ρ i) P) : ∃ d, ρ[i]? = some (some (d, 0)) ∧ P d := by
  unfold valS at h
  have h := wpR_bind.mp h
  unfold getS at h
  split at h
  · rename_i p e
    obtain ⟨d, g⟩ := p
    obtain ⟨z, h⟩ := h.if_
    exact ⟨d, by rw [e, z], h⟩
  · exact h.elim
theorem pe_varS {i : Nat} {x : Str} {pos : Pos} (hp : PE X (.Name x pos) (tVar i)) : PE X (.Name x pos) (tS c false fun ρ => do .ok (← valS ρ i, ρ)) := by
  refine hp.weak fun σ H Q ⟨O, ρ, R, q⟩ => ?_
  obtain ⟨d, e, q⟩ := valS_eq (wpR_bind.mp q)
  obtain ⟨v, h1, h2⟩ := R.slot i d 0 e
  exact ⟨v, h1, q v H ⟨R, by simpa [SlotOk] using h2, fun z => nomatch z⟩ (Keep.refl O H)⟩
end
end Cg
set_option Elab.async false
set_option linter.all false
set_option maxRecDepth 100000
set_option maxHeartbeats 4000000
namespace Cg
open PySem PySem.Spec PyProof.Rows L2 PySem.SeqAt

/-! ### as the model's data -/
mutual
def toPy : D → PyData
  | .bool b => .bool b
  | .int i => .int i
  | .str w => .str w.txt
  | .tup l => .tuple (toPys l)
  | .lst l => .list (toPys l)
  | _ => .none
def toPys : List D → List PyData
  | [] => []
  | d :: ds => toPy d :: toPys ds
end
theorem W.ok (w : W) : PyData.strOk w.txt = true := by cases w <;> decide +kernel
mutual
theorem toPy_lay : ∀ d : D, (toPy d).canLay0 = true
  | .non => by simp [toPy, PyData.canLay0]
  | .bool _ => by simp [toPy, PyData.canLay0]
  | .int _ => by simp [toPy, PyData.canLay0]
  | .str w => by simp [toPy, PyData.canLay0, W.ok]
  | .tup l => by simp [toPy, PyData.canLay0, toPys_lay l]
  | .lst l => by simp [toPy, PyData.canLay0, toPys_lay l]
  | .dct _ => by simp [toPy, PyData.canLay0]
  | .exc _ => by simp [toPy, PyData.canLay0]
  | .rep _ => by simp [toPy, PyData.canLay0]
  | .scr _ => by simp [toPy, PyData.canLay0]
theorem toPys_lay : ∀ l : List D, PyData.canLayAll0 (toPys l) = true
  | [] => by simp [toPys, PyData.canLayAll0]
  | d :: ds => by simp [toPys, PyData.canLayAll0, toPy_lay d, toPys_lay ds]
end
mutual
theorem toPy_depth : ∀ d : D, (toPy d).depth = d.depth
  | .non => by simp [toPy, PyData.depth, D.depth]
  | .bool _ => by simp [toPy, PyData.depth, D.depth]
  | .int _ => by simp [toPy, PyData.depth, D.depth]
  | .str w => by simp [toPy, PyData.depth, D.depth]
  | .tup l => by simp [toPy, PyData.depth, D.depth, toPys_depth l]
  | .lst l => by simp [toPy, PyData.depth, D.depth, toPys_depth l]
  | .dct _ => by simp [toPy, PyData.depth, D.depth]
  | .exc _ => by simp [toPy, PyData.depth, D.depth]
  | .rep _ => by simp [toPy, PyData.depth, D.depth]
  | .scr _ => by simp [toPy, PyData.depth, D.depth]
theorem toPys_depth : ∀ l : List D, PyData.depthAll (toPys l) = D.depths l
  | [] => by simp [toPys, PyData.depthAll, D.depths]
  | d :: ds => by simp [toPys, PyData.depthAll, D.depths, toPy_depth d, toPys_depth ds]
end
mutual
theorem toPy_eqv : ∀ a b : D, a.plain = true → b.plain = true → PyData.eqv (toPy a) (toPy b) = a.eqv b
  | .tup a, .tup b, ha, hb => by simp only [toPy, PyData.eqv, D.eqv]; exact toPys_eqv a b ha hb
  | .lst a, .lst b, ha, hb => by simp only [toPy, PyData.eqv, D.eqv]; exact toPys_eqv a b ha hb
  | .str a, .str b, _, _ => by simp only [toPy, PyData.eqv, D.eqv]; exact W.txt_eq a b
  | .dct _, _, ha, _ => by simp [D.plain] at ha
  | .exc _, _, ha, _ => by simp [D.plain] at ha
  | .rep _, _, ha, _ => by simp [D.plain] at ha
  | .scr _, _, ha, _ => by simp [D.plain] at ha
  | .non, b, _, hb => by cases b <;> first | rfl | simp [D.plain] at hb
  | .bool x, b, _, hb => by cases b <;> first | rfl | simp [D.plain] at hb
  | .int x, b, _, hb => by cases b <;> first | rfl | simp [D.plain] at hb
  | .str x, .non, _, hb => rfl
  | .str x, .bool _, _, hb => rfl
  | .str x, .int _, _, hb => rfl
  | .str x, .tup _, _, hb => rfl
  | .str x, .lst _, _, hb => rfl
  | .tup x, .non, _, hb => rfl
  | .tup x, .bool _, _, hb => rfl
  | .tup x, .int _, _, hb => rfl
  | .tup x, .str _, _, hb => rfl
  | .tup x, .lst _, _, hb => rfl
  | .lst x, .non, _, hb => rfl
  | .lst x, .bool _, _, hb => rfl
  | .lst x, .int _, _, hb => rfl
  | .lst x, .str _, _, hb => rfl
  | .lst x, .tup _, _, hb => rfl
  | .str _, .dct _, _, hb => by simp [D.plain] at hb
  | .str _, .exc _, _, hb => by simp [D.plain] at hb
  | .str _, .rep _, _, hb => by simp [D.plain] at hb
  | .str _, .scr _, _, hb => by simp [D.plain] at hb
  | .tup _, .dct _, _, hb => by simp [D.plain] at hb
  | .tup _, .exc _, _, hb => by simp [D.plain] at hb
  | .tup _, .rep _, _, hb => by simp [D.plain] at hb
  | .tup _, .scr _, _, hb => by simp [D.plain] at hb
  | .lst _, .dct _, _, hb => by simp [D.plain] at hb
  | .lst _, .exc _, _, hb => by simp [D.plain] at hb
  | .lst _, .rep _, _, hb => by simp [D.plain] at hb
  | .lst _, .scr _, _, hb => by simp [D.plain] at hb
theorem toPys_eqv : ∀ a b : List D, D.plains a = true → D.plains b = true → PyData.eqvAll (toPys a) (toPys b) = D.eqvs a b
  | [], [], _, _ => rfl
  | [], _ :: _, _, _ => rfl
  | _ :: _, [], _, _ => rfl
  | a :: as, b :: bs, ha, hb => by
    simp only [D.plains, Bool.and_eq_true] at ha hb
    simp only [toPys, PyData.eqvAll, D.eqvs]
    rw [toPy_eqv a b ha.1 hb.1, toPys_eqv as bs ha.2 hb.2]
end
mutual
theorem RepH.reads {h : Heap} : ∀ (d : D) (u : Value), RepH h d u → ∃ as, Reads h u (toPy d) as
  | .non, _, r => by rw [show _ = Value.none from r]; exact ⟨_, .none⟩
  | .bool b, _, r => by rw [show _ = Value.bool b from r]; exact ⟨_, .bool b⟩
  | .int i, _, ⟨t, r⟩ => by rw [r]; exact ⟨_, .int i t⟩
  | .str x, _, ⟨t, r⟩ => by rw [r]; exact ⟨_, .str _ t⟩
  | .tup ds, _, ⟨a, vs, e, ⟨o, n, h1, m, h2⟩, r⟩ => by
    subst e
    obtain ⟨as, q⟩ := RepHs.reads ds vs r
    exact ⟨_, .tuple n h1 h2 (by simpa using q)⟩
  | .lst ds, _, ⟨a, vs, e, ⟨o, n, h1, m, h2⟩, r⟩ => by
    subst e
    obtain ⟨as, q⟩ := RepHs.reads ds vs r
    exact ⟨_, .list n h1 h2 (by simpa using q)⟩
  | .dct _, _, r => r.elim
  | .exc _, _, r => r.elim
  | .rep _, _, r => r.elim
  | .scr _, _, r => r.elim
theorem RepHs.reads {h : Heap} : ∀ (ds : List D) (us : List Value), RepHs h ds us → ∃ as, ReadsAll h us (toPys ds) as
  | [], _, r => by rw [show _ = [] from r]; exact ⟨_, .nil⟩
  | d :: ds, _, ⟨u, r, e, h1, h2⟩ => by
    subst e
    obtain ⟨as, q1⟩ := RepH.reads d u h1
    obtain ⟨bs, q2⟩ := RepHs.reads ds r h2
    exact ⟨_, .cons q1 q2⟩
end
theorem RepH.plain {h : Heap} : ∀ (d : D) (u : Value), RepH h d u → d.plain = true := by
  intro d
  have : (∀ d : D, ∀ u, RepH h d u → d.plain = true) ∧ True := ⟨?_, trivial⟩
  · exact this.1 d
  · intro d
    exact D.rec (motive_1 := fun d => ∀ u, RepH h d u → d.plain = true) (motive_2 := fun l => ∀ us, RepHs h l us → D.plains l = true) (motive_3 := fun _ => True) (motive_4 := fun _ => True)
      (fun _ _ => rfl) (fun _ _ _ => rfl) (fun _ _ _ => rfl) (fun _ _ _ => rfl) (fun l ih u ⟨a, vs, e, t, r⟩ => ih vs r) (fun l ih u ⟨a, vs, e, t, r⟩ => ih vs r) (fun l _ u r => r.elim) (fun _ _ r => r.elim) (fun _ _ _ r => r.elim) (fun _ _ r => r.elim)
      (fun _ _ => rfl) (fun d ds h1 h2 us ⟨u, r, e, r1, r2⟩ => by simp only [D.plains, Bool.and_eq_true]; exact ⟨h1 u r1, h2 r r2⟩) trivial (fun _ _ _ _ => trivial) (fun _ _ _ _ => trivial) d
theorem eqAtD {A : Around} {s : Shared} {a b : D} {u v : Value} (ra : RepH s.heap a u) (rb : RepH s.heap b v) (hu : A.units + min a.depth b.depth < cLine) : EqAt A s u v (a.eqv b) := by
  obtain ⟨as, q1⟩ := RepH.reads a u ra
  obtain ⟨bs, q2⟩ := RepH.reads b v rb
  have := eqAt_reads _ _ A s u v as bs q1 q2 (toPy_lay a) (toPy_lay b) (by rw [toPy_depth, toPy_depth]; exact hu)
  rwa [toPy_eqv a b (RepH.plain a u ra) (RepH.plain b v rb)] at this
end Cg
set_option Elab.async false
set_option linter.all false
set_option maxRecDepth 100000
set_option maxHeartbeats 4000000
/-! a < b for tuples where just the first place that differs need be comparable -/
namespace PySem.SeqAt
open AutoSeq1 (wpAny_loadPart')
open MeetsSeq MeetsSeq2 MeetsSeq3 SeqRoads2
theorem tup_lt_first (p q : Addr) (xs ys : Array Value) (m m' : Nat) (dx dy : Option Addr) (sx sy : Array (Option Value)) (same less : Nat → Bool) :
    Meets (Builtin.«tuple.__lt__» ⟨[.ref p, .ref q], []⟩) (fun A K s =>
      s.heap.get? p = some { cls := .type "tuple", dict := dx, data := .seq xs m, slots := sx } ∧ s.heap.get? q = some { cls := .type "tuple", dict := dy, data := .seq ys m', slots := sy } ∧
      (∀ j (u1 : j < xs.size) (u2 : j < ys.size), EqAt A.in1 s xs[j] ys[j] (same j)) ∧
      (∀ j (u1 : j < xs.size) (u2 : j < ys.size), (∀ i, i < j → same i = true) → same j = false → RcLt A.in1 s xs[j] ys[j] (less j)) ∧
      K (.ok (.ret (.bool (firstLt same less (decide (xs.size < ys.size)) (List.range (min xs.size ys.size)))))) s) :=
  .of_wp fun prog w A K st z => by
    obtain ⟨hp, gn, dr, tk, os⟩ := st
    obtain ⟨zp, zq, zs, zl, zk⟩ := z
    have sub := AutoSeq1.sub_tuple_tuple
    have lenZ : (xs.toList.zip ys.toList).length = min xs.size ys.size := by simp
    wp_walk using wpAny_loadPart' zp, wpAny_loadPart' zq, wpAny_forIn_list _ (fun left acc s' => acc.1 = none ∧ s' = ⟨hp, gn, dr, tk, os⟩ ∧ ∃ i, left = (xs.toList.zip ys.toList).drop i ∧ (∀ j, j < i → same j = true) ∧
      K (.ok (.ret (.bool (firstLt same less (decide (xs.size < ys.size)) ((List.range (min xs.size ys.size)).drop i))))) ⟨hp, gn, dr, tk, os⟩) _
    case turn =>
      rintro ⟨y, x⟩ left acc s' ⟨ha, rfl, i, hz, hall, hK⟩
      have hlt : i < (xs.toList.zip ys.toList).length := Nat.lt_of_not_le fun h' => by
        rw [List.drop_of_length_le h'] at hz; cases hz
      have hm : i < min xs.size ys.size := by rw [← lenZ]; exact hlt
      have u1 : i < xs.size := by omega
      have u2 : i < ys.size := by omega
      rw [List.drop_eq_getElem_cons hlt] at hz
      obtain ⟨hyx, hleft⟩ := List.cons.inj hz
      obtain rfl : y = xs[i] := by have := congrArg Prod.fst hyx; simpa using this
      obtain rfl : x = ys[i] := by have := congrArg Prod.snd hyx; simpa using this
      rw [show (List.range (min xs.size ys.size)).drop i = i :: (List.range (min xs.size ys.size)).drop (i + 1) by simp [List.drop_eq_getElem_cons, hm]] at hK
      refine wpAny_bind (zs i u1 u2 prog w _ _ ?_)
      cases hy : same i with
      | true =>
        rw [firstLt_yes hy] at hK
        wp_walk
        exact ⟨rfl, rfl, i + 1, hleft, fun j hj => (Nat.lt_succ_iff_lt_or_eq.mp hj).elim (hall j) (fun e => e ▸ hy), hK⟩
      | false =>
        rw [firstLt_no hy] at hK
        rw [if_pos (show (!false) = true from rfl)]
        show wpAny _ _ (rule _ >>= _) _ _ _
        refine wpAny_bind (wpAny_rule (wpAny_bind (zl i u1 u2 hall hy prog w _ _ ?_)))
        exact wpAny_bind (wpAny_pure (wpAny_pure (wpAny_pure ⟨_, rfl, hK⟩)))
    case fin =>
      rintro ⟨b1, b2⟩ s' ⟨hb', rfl, i, hz, _, hK⟩
      obtain rfl : b1 = none := hb'
      have hge : min xs.size ys.size ≤ i := Nat.le_of_not_lt fun h' => by
        rw [List.drop_eq_getElem_cons (by rw [lenZ]; exact h')] at hz; cases hz
      rw [List.drop_of_length_le (by simpa using hge)] at hK
      wp_walk
      exact ⟨_, rfl, by simpa [Builtin.Tuple.tupleCompareSizes, firstLt] using hK⟩
    case h =>
      exact ⟨rfl, rfl, 0, rfl, fun j hj => absurd hj (Nat.not_lt_zero _), by simpa using zk⟩
end PySem.SeqAt

namespace Cg
open PySem PySem.Spec PyProof.Rows L2 PySem.SeqAt
/-- the first place that differs -/
theorem lts_first : ∀ (as bs : List D) (k : Bool), D.lts as bs = some k →
    k = firstLt (fun j => (as.getD j .non).eqv (bs.getD j .non)) (fun j => ((as.getD j .non).lt (bs.getD j .non)).getD false) (decide (as.length < bs.length)) (List.range (min as.length bs.length))
  | [], bs, k, h => by
    have h : some (!bs.isEmpty) = some k := by rw [← h]; cases bs <;> rfl
    cases h
    cases bs <;> simp [firstLt]
  | a :: as, [], k, h => by
    have h : some false = some k := by rw [← h]; rfl
    cases h
    simp [firstLt]
  | a :: as, b :: bs, k, h => by
    have e : min (a :: as).length (b :: bs).length = min as.length bs.length + 1 := by simp only [List.length_cons]; omega
    rw [e, List.range_succ_eq_map]
    have h : (if a.eqv b then D.lts as bs else a.lt b) = some k := by rw [← h, D.lts]
    by_cases q : a.eqv b = true
    · rw [if_pos q] at h
      rw [firstLt_yes (show (((a :: as).getD 0 .non).eqv ((b :: bs).getD 0 .non)) = true from q), lts_first as bs k h]
      have map : ∀ l : List Nat, firstLt (fun j => ((a :: as).getD j .non).eqv ((b :: bs).getD j .non)) (fun j => (((a :: as).getD j .non).lt ((b :: bs).getD j .non)).getD false) (decide ((a :: as).length < (b :: bs).length)) (l.map Nat.succ) =
          firstLt (fun j => (as.getD j .non).eqv (bs.getD j .non)) (fun j => ((as.getD j .non).lt (bs.getD j .non)).getD false) (decide (as.length < bs.length)) l := by
        intro l
        induction l with
        | nil => simp [firstLt]
        | cons j t ih =>
          simp only [List.map_cons, firstLt, ih]
          rfl
      exact (map _).symm
    · have q : a.eqv b = false := by simpa using q
      rw [if_neg (by rw [q]; exact Bool.false_ne_true)] at h
      rw [firstLt_no (show (((a :: as).getD 0 .non).eqv ((b :: bs).getD 0 .non)) = false from q)]
      show k = (a.lt b).getD false
      rw [h]; rfl
/-- at the first place that differs, < is known -/
theorem lts_at : ∀ (as bs : List D) (k : Bool), D.lts as bs = some k → ∀ j, j < as.length → j < bs.length → (∀ i, i < j → (as.getD i .non).eqv (bs.getD i .non) = true) → (as.getD j .non).eqv (bs.getD j .non) = false → ∃ l, (as.getD j .non).lt (bs.getD j .non) = some l
  | [], _, _, _, j, h, _, _, _ => absurd h (Nat.not_lt_zero _)
  | _ :: _, [], _, _, j, _, h, _, _ => absurd h (Nat.not_lt_zero _)
  | a :: as, b :: bs, k, h, 0, _, _, _, q => by
    have h : (if a.eqv b then D.lts as bs else a.lt b) = some k := by rw [← h, D.lts]
    have q : a.eqv b = false := q
    rw [if_neg (by rw [q]; exact Bool.false_ne_true)] at h
    exact ⟨k, h⟩
  | a :: as, b :: bs, k, h, j + 1, h1, h2, p, q => by
    have h : (if a.eqv b then D.lts as bs else a.lt b) = some k := by rw [← h, D.lts]
    have p0 : a.eqv b = true := p 0 (Nat.succ_pos _)
    rw [if_pos p0] at h
    exact lts_at as bs k h j (Nat.lt_of_succ_lt_succ h1) (Nat.lt_of_succ_lt_succ h2) (fun i hi => p (i + 1) (Nat.succ_lt_succ hi)) q
theorem depths_at : ∀ (l : List D) (j : Nat), j < l.length → (l.getD j .non).depth ≤ D.depths l
  | [], j, h => absurd h (Nat.not_lt_zero _)
  | a :: as, 0, _ => by simp only [D.depths]; exact Nat.le_max_left _ _
  | a :: as, j + 1, h => by
    simp only [D.depths]
    exact Nat.le_trans (depths_at as j (Nat.lt_of_succ_lt_succ h)) (Nat.le_max_right _ _)
theorem rcLtD : ∀ (n : Nat) {A : Around} {s : Shared} {a b : D} {u v : Value} {k : Bool}, min a.depth b.depth ≤ n → RepH s.heap a u → RepH s.heap b v → A.units + n < cLine → a.lt b = some k → RcLt A s u v k := by
  intro n
  induction n with
  | zero =>
    intro A s a b u v k hn ra rb hu h
    cases a <;> cases b <;> simp only [D.lt] at h <;> first | cases h | skip
    · obtain ⟨t, rfl⟩ := ra
      obtain ⟨t', rfl⟩ := rb
      exact fun prog w E Q q => lt_int q
    · simp only [D.depth] at hn
      omega
  | succ n ih =>
    intro A s a b u v k hn ra rb hu h
    cases a <;> cases b <;> simp only [D.lt] at h <;> first | cases h | skip
    · obtain ⟨t, rfl⟩ := ra
      obtain ⟨t', rfl⟩ := rb
      exact fun prog w E Q q => lt_int q
    · rename_i as bs
      obtain ⟨p, us, rfl, hp, rs⟩ := ra
      obtain ⟨q, ws, rfl, hq, rs'⟩ := rb
      have l1 := rs.length
      have l2 := rs'.length
      obtain ⟨⟨c1, d1, t1, s1⟩, g1, g2, m1, g3⟩ := hp
      obtain ⟨⟨c2, d2, t2, s2⟩, g4, g5, m2, g6⟩ := hq
      simp only at g2 g3 g5 g6
      subst g2 g3 g5 g6
      have hk := lts_first as bs k h
      have in1 : A.in1.units = A.units + 1 := Around.in1_units A
      simp only [D.depth] at hn
      intro prog w E Q hQ
      refine richCompare_meets_room (op := .Lt) ⟨_, g1, rfl⟩ ⟨_, g4, rfl⟩ F.slot_tuple_lt F.entry_tuple_lt (F.args_tuple_lt_2 _ _)
        (tup_lt_first p q us.toArray ws.toArray m1 m2 d1 d2 s1 s2 (fun j => (as.getD j .non).eqv (bs.getD j .non)) (fun j => ((as.getD j .non).lt (bs.getD j .non)).getD false)) ⟨g1, g4, fun j u1 u2 => ?_, fun j u1 u2 hall hne => ?_, ?_⟩ (by omega)
      · have u1 : j < us.length := by simpa using u1
        have u2 : j < ws.length := by simpa using u2
        have e1 := depths_at as j (by omega)
        have e2 := depths_at bs j (by omega)
        have := eqAtD (A := A.in1) (s := s) (rs.at j u1) (rs'.at j u2) (by rw [in1]; omega)
        simpa using this
      · have u1 : j < us.length := by simpa using u1
        have u2 : j < ws.length := by simpa using u2
        have e1 := depths_at as j (by omega)
        have e2 := depths_at bs j (by omega)
        obtain ⟨l, hl⟩ := lts_at as bs k h j (by omega) (by omega) hall hne
        have := ih (A := A.in1) (s := s) (by omega) (rs.at j u1) (rs'.at j u2) (by rw [in1]; omega) hl
        rw [hl]
        simpa using this
      · have e : firstLt (fun j => (as.getD j .non).eqv (bs.getD j .non)) (fun j => ((as.getD j .non).lt (bs.getD j .non)).getD false) (decide (us.toArray.size < ws.toArray.size)) (List.range (min us.toArray.size ws.toArray.size)) = k := by
          rw [hk]
          simp only [List.size_toArray, l1, l2]
        show Value.bool _ ≠ Value.notImplemented ∧ Q (.bool _) s
        rw [e]
        exact ⟨(fun x => nomatch x), hQ⟩
end Cg
set_option Elab.async false
set_option linter.all false
set_option maxRecDepth 100000
set_option maxHeartbeats 4000000
namespace Cg
open PySem PySem.Spec PyProof.Rows L2 PySem.SeqAt

/-- what stands for d, wherever its lists lie -/
abbrev RepT (k : Kx) (H : Hp) (d : D) (v : V) : Prop := Rep k (fun _ => True) H d v
/-- a list or dict looked at on the spot -/
def RepB (c : Fc) (O : Ow) (H : Hp) : D → V → Prop
  | .lst ds, v => ∃ a vs, v = .ref a ∧ H a = some (.lst vs) ∧ Reps c.k (Al c O) H ds vs
  | .dct kvs, v => ∃ a ps, v = .ref a ∧ H a = some (dctO c.k.w a ps) ∧ Repk c.k (Al c O) H kvs ps
  | d, v => Rep c.k (Al c O) H d v
section
variable {c : Fc} {O : Ow} {H H' : Hp} {ρ : Env} {σ : L2.St}
theorem Rep.toB {d : D} {v : V} (r : Rep c.k (Al c O) H d v) : RepB c O H d v := by
  cases d with
  | lst ds =>
    obtain ⟨a, vs, e, _, h, r⟩ := r
    exact ⟨a, vs, e, h, r⟩
  | dct ds =>
    obtain ⟨a, vs, e, _, h, r⟩ := r
    exact ⟨a, vs, e, h, r⟩
  | _ => exact r
theorem Own.toB {i : Nat} {d : D} {v : V} (r : Own c O i H d v) : RepB c O H d v := by
  cases d with
  | lst ds =>
    obtain ⟨a, vs, e, _, h, r⟩ := r
    exact ⟨a, vs, e, h, r⟩
  | dct ds =>
    obtain ⟨a, vs, e, _, h, r⟩ := r
    exact ⟨a, vs, e, h, r⟩
  | _ => exact r
theorem RepB.any {d : D} {v : V} (r : RepB c O H d v) : RepT c.k H d v := by
  cases d with
  | lst ds =>
    obtain ⟨a, vs, e, h, r⟩ := r
    exact ⟨a, vs, e, trivial, h, Reps.mono (fun _ _ => trivial) _ _ r⟩
  | dct ds =>
    obtain ⟨a, vs, e, h, r⟩ := r
    exact ⟨a, vs, e, trivial, h, Repk.mono (fun _ _ => trivial) _ _ r⟩
  | _ => exact Rep.mono (A := Al c O) (fun _ _ => trivial) _ _ r
theorem Rep.any {A : Addr → Prop} {d : D} {v : V} (r : Rep c.k A H d v) : RepT c.k H d v := Rep.mono (fun _ _ => trivial) _ _ r
theorem Reps.any {A : Addr → Prop} {d : List D} {v : List V} (r : Reps c.k A H d v) : Reps c.k (fun _ => True) H d v := Reps.mono (fun _ _ => trivial) _ _ r
/-- what is seen of a name now -/
theorem seeS_eq {i : Nat} {P : D → Prop} (R : Rel c O ρ σ H) (h : wpR c (seeS ρ i) P) : ∃ d v, σ[i]? = some (some v) ∧ RepB c O H d v ∧ P d := by
  unfold seeS at h
  have h := wpR_bind.mp h
  unfold getS at h
  split at h
  · rename_i p e
    obtain ⟨d, g⟩ := p
    have h : wpR c (if g = 2 then Cg.R.bad else Cg.R.ok d) P := h
    by_cases z : g = 2
    · rw [if_pos z] at h; exact h.elim
    · rw [if_neg z] at h
      obtain ⟨v, h1, h2⟩ := R.slot i d g e
      refine ⟨d, v, h1, ?_, h⟩
      unfold SlotOk at h2
      rw [if_neg z] at h2
      split at h2
      · exact h2.toB
      · exact h2.toB
  · exact h.elim
end
/-- what comes of an operand: seen, and seen again later -/
def tSee (c : Fc) (a : E) (F : Env → R (D × Env)) : TE := fun σ H Q => ∃ O ρ, Rel c O ρ σ H ∧ wpR c (seeW a F ρ) fun p => ∀ v H', Rel c O p.2 σ H' → Keep O H H' → RepB c O H' p.1 v →
  (∀ ρ2 H2 (P : D → Prop), Rel c O ρ2 σ H2 → Keep O H' H2 → wpR c (nowE a p.1 ρ2) P → ∃ d2, RepB c O H2 d2 v ∧ P d2) → Q v H'
section
variable {X : Cx} {c : Fc} {F G : Env → R (D × Env)}
theorem seeW_v {a : E} (h : ∀ i, a ≠ .b i) (ρ : Env) : seeW a F ρ = F ρ := by
  cases a <;> first | rfl | exact absurd rfl (h _)
theorem nowE_v {a : E} (h : ∀ i, a ≠ .b i) (d : D) (ρ : Env) : nowE a d ρ = .ok d := by
  cases a <;> first | rfl | exact absurd rfl (h _)
theorem pe_see_v {p : Expr} {a : E} {g : Bool} (h : ∀ i, a ≠ .b i) (hp : PE X p (tS c g F)) : PE X p (tSee c a F) := by
  refine hp.lax.weak fun σ H Q ⟨O, ρ, R, q⟩ => ⟨O, ρ, R, ?_⟩
  rw [seeW_v h] at q
  refine q.mono fun p q v H' r k => q v H' r.rel k r.rep.toB fun ρ2 H2 P R2 k2 z => ?_
  rw [nowE_v h] at z
  exact ⟨p.1, (r.rel.rep k2 r.rep).toB, z⟩
theorem pe_see_b {i : Nat} {x : Str} {pos : Pos} (hp : PE X (.Name x pos) (tVar i)) : PE X (.Name x pos) (tSee c (.b i) F) := by
  refine hp.weak fun σ H Q ⟨O, ρ, R, q⟩ => ?_
  obtain ⟨d, v, e, r, q⟩ := seeS_eq R (wpR_bind.mp (show wpR c (do Cg.R.ok (← seeS ρ i, ρ)) _ from q))
  refine ⟨v, e, q v H R (Keep.refl O H) r fun ρ2 H2 P R2 k2 z => ?_⟩
  obtain ⟨d2, v2, e2, r2, z⟩ := seeS_eq R2 (show wpR c (seeS ρ2 i) P from z)
  rw [e] at e2
  cases e2
  exact ⟨d2, r2, z⟩
/-- an operation on two operands, by what it asks of data -/
def Op2 (c : Fc) (g : Bool) (r : R2) (f : D → D → R D) : Prop := ∀ (O : Ow) (ρ : Env) (σ : L2.St) (H : Hp) (x y : D) (v u : V) (Q : VK), Rel c O ρ σ H → RepB c O H x v → RepB c O H y u →
  wpR c (f x y) (fun d => ∀ w H', Res g c H O ρ σ H' d w → Keep O H H' → Q w H') → r v u H Q
theorem op2S {p q : Expr} {r : R2} {f : D → D → R D} {g : Bool} {a b : E} {whole : Expr} (h : Op2 c g r f) (hw : ∀ ta tb, PE X p ta → PE X q tb → PE X whole (tOp r ta tb)) (hp : PE X p (tSee c a F)) (hq : PE X q (tSee c b G)) :
    PE X whole (tS c g fun ρ => do let (x, ρ) ← seeW a F ρ; let (y, ρ) ← seeW b G ρ; let x ← nowE a x ρ; let y ← nowE b y ρ; .ok (← f x y, ρ)) := by
  refine (hw _ _ hp hq).weak fun σ H Q ⟨O, ρ, R, z⟩ => ⟨O, ρ, R, (wpR_bind.mp z).mono fun ⟨x, ρ1⟩ z v H1 R1 k1 r1 n1 => ⟨O, ρ1, R1, (wpR_bind.mp z).mono fun ⟨y, ρ2⟩ z u H2 R2 k2 r2 n2 => ?_⟩⟩
  obtain ⟨x2, s1, z⟩ := n1 ρ2 H2 _ R2 k2 (wpR_bind.mp z)
  obtain ⟨y2, s2, z⟩ := n2 ρ2 H2 _ R2 (Keep.refl O H2) (wpR_bind.mp z)
  exact h O ρ2 σ H2 x2 y2 v u Q R2 s1 s2 ((wpR_bind.mp z).mono fun d z w H' rs k => z w H' (rs.lower (k1.trans k2)) ((k1.trans k2).trans k))

/-! ### comparisons -/
mutual
theorem sameD_eq : ∀ a b : D, sameD a b = true → a = b
  | .non, b, h => by cases b <;> simp_all [sameD]
  | .bool _, b, h => by cases b <;> simp_all [sameD]
  | .int _, b, h => by cases b <;> simp_all [sameD]
  | .str _, b, h => by cases b <;> simp_all [sameD]
  | .tup l, .tup m, h => by rw [sameDs_eq l m (by simpa [sameD] using h)]
  | .lst l, .lst m, h => by rw [sameDs_eq l m (by simpa [sameD] using h)]
  | .tup l, .non, h => by simp [sameD] at h
  | .tup l, .bool _, h => by simp [sameD] at h
  | .tup l, .int _, h => by simp [sameD] at h
  | .tup l, .str _, h => by simp [sameD] at h
  | .tup l, .lst _, h => by simp [sameD] at h
  | .tup l, .dct _, h => by simp [sameD] at h
  | .tup l, .exc _, h => by simp [sameD] at h
  | .tup l, .rep _, h => by simp [sameD] at h
  | .tup l, .scr _, h => by simp [sameD] at h
  | .lst l, .non, h => by simp [sameD] at h
  | .lst l, .bool _, h => by simp [sameD] at h
  | .lst l, .int _, h => by simp [sameD] at h
  | .lst l, .str _, h => by simp [sameD] at h
  | .lst l, .tup _, h => by simp [sameD] at h
  | .lst l, .dct _, h => by simp [sameD] at h
  | .lst l, .exc _, h => by simp [sameD] at h
  | .lst l, .rep _, h => by simp [sameD] at h
  | .lst l, .scr _, h => by simp [sameD] at h
  | .dct _, b, h => by cases b <;> simp [sameD] at h
  | .exc _, b, h => by cases b <;> simp [sameD] at h
  | .rep _, b, h => by cases b <;> simp [sameD] at h
  | .scr _, b, h => by cases b <;> simp [sameD] at h
theorem sameDs_eq : ∀ a b : List D, sameDs a b = true → a = b
  | [], [], _ => rfl
  | [], _ :: _, h => by simp [sameDs] at h
  | _ :: _, [], h => by simp [sameDs] at h
  | a :: as, b :: bs, h => by
    simp only [sameDs, Bool.and_eq_true] at h
    rw [sameD_eq a b h.1, sameDs_eq as bs h.2]
end
/-- repr's text -/
def reprT : D → Str
  | .non => "None"
  | .bool b => if b then "True" else "False"
  | .int i => (toString i : String)
  | .str w => reprText w.txt
  | _ => ""
structure KxOk (X : Cx) (k : Kx) : Prop where
  K : X.K = k.K
  w : X.w = k.w
  rt0 : ∀ d, k.rt d = reprT d
variable {k : Kx}
theorem wpR_eq {P : Bool → Prop} {a b : D} (h : wpR c (eqR a b) P) : (∃ x y, a = .rep x ∧ b = .rep y ∧ x = y ∧ P true) ∨ (a = .rep (.int 0) ∧ b = .str .zero ∧ P true) ∨ (a.plain = true ∧ b.plain = true ∧ min a.depth b.depth ≤ 60 ∧ P (a.eqv b)) := by
  have gen : ∀ {a b : D}, wpR c (if (a.plain && b.plain && decide (min a.depth b.depth ≤ 60)) = true then R.ok (a.eqv b) else R.bad) P → (∃ x y, a = .rep x ∧ b = .rep y ∧ x = y ∧ P true) ∨ (a = .rep (.int 0) ∧ b = .str .zero ∧ P true) ∨ (a.plain = true ∧ b.plain = true ∧ min a.depth b.depth ≤ 60 ∧ P (a.eqv b)) := fun {a b} h => by
    obtain ⟨z, h⟩ := h.if_
    simp only [Bool.and_eq_true, decide_eq_true_eq] at z
    exact .inr (.inr ⟨z.1.1, z.1.2, z.2, h⟩)
  unfold eqR at h
  split at h
  · rename_i x y
    obtain ⟨z, h⟩ := h.if_
    exact .inl ⟨x, y, rfl, rfl, sameD_eq x y z, h⟩
  · rename_i i
    obtain ⟨z, h⟩ := h.if_
    subst z
    exact .inr (.inl ⟨rfl, rfl, h⟩)
  · exact gen h
/-- a == b -/
def rEqX (c : Fc) : R2 := fun x y H Q => ∃ a b, RepT c.k H a x ∧ RepT c.k H b y ∧ wpR c (eqR a b) fun r => Q (.bl r) H
def rNeX (c : Fc) : R2 := fun x y H Q => ∃ a b, RepT c.k H a x ∧ RepT c.k H b y ∧ wpR c (eqR a b) fun r => Q (.bl (!r)) H
theorem eq_rep {A : Addr → Prop} {H : Hp} {x : D} {v : V} (r : Rep k A H (.rep x) v) : v = .str (k.rt x) := r
theorem op_eqX (hk : KxOk X c.k) (hu : X.A.units + 64 < cLine) : OpR X (compareOp .Eq) (rEqX c) := by
  intro pins s σ H x y v u Q I rx ry ⟨a, b, ra, rb, q⟩
  rcases wpR_eq q with ⟨p, p', rfl, rfl, rfl, q1⟩ | ⟨rfl, rfl, q1⟩ | ⟨pa, pb, z, q1⟩
  · obtain rfl := eq_rep ra
    obtain rfl := eq_rep rb
    exact op_eq pins s σ H _ _ v u Q I rx ry ⟨rfl, by simpa using q1⟩
  · obtain rfl := eq_rep ra
    obtain rfl : y = V.str W.zero.txt := rb
    exact op_eq pins s σ H _ _ v u Q I rx ry ⟨rfl, by rw [hk.rt0, show reprT (.int 0) = "0" from rfl, decide_eq_true (show V.str "0" = V.str W.zero.txt from rfl)]; exact q1⟩
  · obtain ⟨as, e1⟩ := RepH.reads _ _ (Rep.heap I hk.K a x v pa ra rx)
    obtain ⟨bs, e2⟩ := RepH.reads _ _ (Rep.heap I hk.K b y u pb rb ry)
    exact compareEq_reads e1 e2 (toPy_lay a) (toPy_lay b) (by rw [toPy_depth, toPy_depth]; omega) ⟨.bl _, H, I, rfl, by rw [toPy_eqv a b pa pb]; exact q1⟩
theorem op_neX (hk : KxOk X c.k) (hu : X.A.units + 64 < cLine) : OpR X (compareOp .NotEq) (rNeX c) := by
  intro pins s σ H x y v u Q I rx ry ⟨a, b, ra, rb, q⟩
  rcases wpR_eq q with ⟨p, p', rfl, rfl, rfl, q1⟩ | ⟨rfl, rfl, q1⟩ | ⟨pa, pb, z, q1⟩
  · obtain rfl := eq_rep ra
    obtain rfl := eq_rep rb
    exact op_ne pins s σ H _ _ v u Q I rx ry ⟨rfl, by simpa using q1⟩
  · obtain rfl := eq_rep ra
    obtain rfl : y = V.str W.zero.txt := rb
    exact op_ne pins s σ H _ _ v u Q I rx ry ⟨rfl, by rw [hk.rt0, show reprT (.int 0) = "0" from rfl, decide_eq_true (show V.str "0" = V.str W.zero.txt from rfl)]; exact q1⟩
  · obtain ⟨as, e1⟩ := RepH.reads _ _ (Rep.heap I hk.K a x v pa ra rx)
    obtain ⟨bs, e2⟩ := RepH.reads _ _ (Rep.heap I hk.K b y u pb rb ry)
    exact compareNe_reads e1 e2 (toPy_lay a) (toPy_lay b) (by rw [toPy_depth, toPy_depth]; omega) ⟨.bl _, H, I, rfl, by rw [toPy_eqv a b pa pb]; exact q1⟩
/-- a < b -/
def rLtX (c : Fc) : R2 := fun x y H Q => ∃ a b, RepT c.k H a x ∧ RepT c.k H b y ∧ wpR c (ltR a b) fun r => Q (.bl r) H
theorem op_ltX (hk : KxOk X c.k) (hu : X.A.units + 64 < cLine) : OpR X (compareOp .Lt) (rLtX c) := by
  intro pins s σ H x y v u Q I rx ry ⟨a, b, ra, rb, q⟩
  unfold ltR at q
  obtain ⟨z, q⟩ := q.if_
  simp only [Bool.and_eq_true, decide_eq_true_eq] at z
  cases h : a.lt b with
  | none => rw [h] at q; exact q.elim
  | some r =>
    rw [h] at q
    exact rcLtD 60 z.2 (Rep.heap I hk.K a x v z.1.1 ra rx) (Rep.heap I hk.K b y u z.1.2 rb ry) (by omega) h X.prog X.w X.xe _ ⟨.bl _, H, I, rfl, q⟩
/-- whole numbers alone -/
theorem repT_int {H : Hp} {d : D} {v : V} {P : Int → Prop} (r : RepT k H d v) (h : wpR c d.toInt P) : ∃ i, d = .int i ∧ v = .int i ∧ P i := by
  cases d <;> first | exact h.elim | skip
  exact ⟨_, rfl, r, h⟩
/-- x in xs -/
def rInX (c : Fc) (neg : Bool) : R2 := fun x y H Q => ∃ a b, RepT c.k H a x ∧ RepT c.k H b y ∧ ((∃ l, (b = .tup l ∨ b = .lst l) ∧ wpR c (inR a l) fun r => Q (.bl (if neg then !r else r)) H))
theorem any_py {a : D} : ∀ {l : List D}, a.plain = true → D.plains l = true → ((toPys l).any fun y => PyData.eqv y (toPy a)) = l.any fun y => y.eqv a
  | [], _, _ => rfl
  | d :: ds, ha, hl => by
    simp only [D.plains, Bool.and_eq_true] at hl
    simp only [toPys, List.any_cons]
    rw [toPy_eqv d a hl.1 ha, any_py ha hl.2]
theorem wpR_in {a : D} {l : List D} {P : Bool → Prop} (h : wpR c (inR a l) P) : a.plain = true ∧ D.plains l = true ∧ min (D.depths l) a.depth ≤ 60 ∧ P (l.any fun y => y.eqv a) := by
  unfold inR at h
  obtain ⟨z, h⟩ := h.if_
  simp only [Bool.and_eq_true, Bool.or_eq_true, decide_eq_true_eq] at z
  exact ⟨z.1.1, z.1.2, by omega, h⟩
theorem op_inX (hk : KxOk X c.k) (hu : X.A.units + 66 < cLine) : OpR X (compareOp .In) (rInX c false) := by
  intro pins s σ H x y v u Q I rx ry ⟨a, b, ra, rb, l, hb, q⟩
  obtain ⟨pa, pl, z, q⟩ := wpR_in q
  obtain ⟨as, e1⟩ := RepH.reads _ _ (Rep.heap I hk.K a x v pa ra rx)
  have fin : EP X pins σ Q (.bool ((toPys l).any fun y => PyData.eqv y (toPy a))) s := ⟨.bl _, H, I, rfl, by rw [any_py pa pl]; exact q⟩
  rcases hb with rfl | rfl
  · obtain ⟨bs, e2⟩ := RepH.reads _ _ (Rep.heap I hk.K _ y u (by simpa [D.plain] using pl) rb ry)
    simp only [toPy] at e2
    exact in_tuple_reads e2 e1 (toPys_lay l) (toPy_lay a) (by rw [toPys_depth, toPy_depth]; omega) fin
  · obtain ⟨bs, e2⟩ := RepH.reads _ _ (Rep.heap I hk.K _ y u (by simpa [D.plain] using pl) rb ry)
    simp only [toPy] at e2
    exact in_list_reads e2 e1 (toPys_lay l) (toPy_lay a) (by rw [toPys_depth, toPy_depth]; omega) fin
theorem op_notInX (hk : KxOk X c.k) (hu : X.A.units + 66 < cLine) : OpR X (compareOp .NotIn) (rInX c true) := by
  intro pins s σ H x y v u Q I rx ry ⟨a, b, ra, rb, l, hb, q⟩
  obtain ⟨pa, pl, z, q⟩ := wpR_in q
  obtain ⟨as, e1⟩ := RepH.reads _ _ (Rep.heap I hk.K a x v pa ra rx)
  have fin : EP X pins σ Q (.bool (!(toPys l).any fun y => PyData.eqv y (toPy a))) s := ⟨.bl _, H, I, rfl, by rw [any_py pa pl]; exact q⟩
  rcases hb with rfl | rfl
  · obtain ⟨bs, e2⟩ := RepH.reads _ _ (Rep.heap I hk.K _ y u (by simpa [D.plain] using pl) rb ry)
    simp only [toPy] at e2
    exact notIn_tuple_reads e2 e1 (toPys_lay l) (toPy_lay a) (by rw [toPys_depth, toPy_depth]; omega) fin
  · obtain ⟨bs, e2⟩ := RepH.reads _ _ (Rep.heap I hk.K _ y u (by simpa [D.plain] using pl) rb ry)
    simp only [toPy] at e2
    exact notIn_list_reads e2 e1 (toPys_lay l) (toPy_lay a) (by rw [toPys_depth, toPy_depth]; omega) fin
end
end Cg
set_option Elab.async false
set_option linter.all false
set_option maxRecDepth 100000
set_option maxHeartbeats 4000000
namespace Cg
open PySem PySem.Spec PyProof.Rows L2 PySem.SeqAt
section
variable {X : Cx} {c : Fc}
theorem maxLen_eq : maxLen = sizeLine := sizeLine_eq.symm
theorem keepNew {O : Ow} {H : Hp} {p : Addr} {o : HO} (h : H p = none) : Keep O H (upd H p o) := (Ext.new h).toKeep
/-- the result is a scalar, the heap as it was -/
theorem fin_scal {g : Bool} {O : Ow} {ρ : Env} {σ : L2.St} {H : Hp} {d : D} {v : V} {Q : VK} (R : Rel c O ρ σ H) (z : ∀ w H', Res g c H O ρ σ H' d w → Keep O H H' → Q w H') (h : scalD d = some v) : Q v H :=
  z v H (.scal R (scalD_rep h).1 (scalD_rep (k := c.k) (A := Al c O) (H := H) h).2) (Keep.refl O H)
/-! ### arithmetic -/
def rAddX (X : Cx) : R2 := fun x y H Q => rI0 (fun i j => .int (i + j)) x y H Q ∨ rCatA X.K x y H Q ∨ rCat x y H Q
theorem op_addX : OpR X (binaryOp .Add) (rAddX X) := op_add.or (op_catA.or op_cat)
theorem add_D (hk : KxOk X c.k) (g : Bool) : Op2 c g (rAddX X) (binR .add) := by
  intro O ρ σ H x y v u Q R rx ry z
  cases x <;> cases y <;> first | exact z.elim | skip
  · obtain rfl : v = _ := rx
    obtain rfl : u = _ := ry
    exact .inl ⟨_, _, rfl, rfl, fin_scal R z rfl⟩
  · rename_i as bs
    obtain ⟨p, vs, rfl, hp, r1⟩ := rx
    obtain ⟨q, us, rfl, hq, r2⟩ := ry
    rw [← hk.K] at hp hq
    obtain ⟨hz, z⟩ := z.if_
    refine .inr (.inl ⟨p, q, vs, us, rfl, rfl, hp, hq, by rw [r1.length, r2.length, ← maxLen_eq, ← List.length_append]; exact hz, fun e => ?_, fun _ e => ?_, fun _ _ w hw => ?_⟩)
    · subst e
      have ea : as = [] := List.eq_nil_of_length_eq_zero r1.length.symm
      subst ea
      exact z (.ref q) H (.scal R ⟨q, us, rfl, by rw [← hk.K]; exact hq, r2⟩ rfl) (Keep.refl O H)
    · subst e
      have eb : bs = [] := List.eq_nil_of_length_eq_zero r2.length.symm
      subst eb
      rw [List.append_nil] at z
      exact z (.ref p) H (.scal R ⟨p, vs, rfl, by rw [← hk.K]; exact hp, r1⟩ rfl) (Keep.refl O H)
    · exact z _ _ (.tup R (r1.app r2) hw) (keepNew hw)
  · obtain ⟨p, vs, rfl, hp, r1⟩ := rx
    obtain ⟨q, us, rfl, hq, r2⟩ := ry
    obtain ⟨hz, z⟩ := z.if_
    exact .inr (.inr ⟨p, q, vs, us, rfl, rfl, hp, hq, by rw [r1.length, r2.length, ← maxLen_eq, ← List.length_append]; exact hz, fun w hw => z _ _ (.list R (r1.app r2) hw) (keepNew hw)⟩)
theorem sub_D (g : Bool) : Op2 c g (rI0 fun i j => .int (i - j)) (binR .sub) := by
  intro O ρ σ H x y v u Q R rx ry z
  cases x <;> cases y <;> first | exact z.elim | skip
  obtain rfl : v = _ := rx
  obtain rfl : u = _ := ry
  exact ⟨_, _, rfl, rfl, fin_scal R z rfl⟩
/-! ### tuple * int, of any count up to 1000 -/
theorem tupMul_same (l : Addr) (items : Array Value) (n : Nat) (dd : Option Addr) (sl : Array (Option Value)) (x : Int) (u : Tok) (h0 : (decide (x < -(2 ^ 63)) || decide (x ≥ 2 ^ 63)) = false) (h1 : (items.isEmpty || x == 1) = true) :
    Meets (Builtin.«tuple.__mul__» ⟨[.ref l, .int x u], []⟩) (fun _ R s => s.heap.get? l = some { cls := .type "tuple", dict := dd, data := .seq items n, slots := sl } ∧ R (.ok (.ret (Value.ref l))) s) := by
  refine .of_wp fun prog w A R s hh => ?_
  obtain ⟨hp, g, d, tk, os⟩ := s
  obtain ⟨hl, hh⟩ := hh
  have f1 := AutoSeq1.idx_int
  wp_walk using wpAny_loadPart' hl
  repeat (first
    | (refine wpAny_ite_false (decide_eq_false (by rw [h0]; decide)) ?_; wp_walk using wpAny_loadPart' hl)
    | (refine wpAny_ite_true (decide_eq_true (by rw [h1])) ?_; wp_walk using wpAny_loadPart' hl))
  all_goals first | exact ⟨_, rfl, hh⟩ | exact hh | skip
theorem tupMul_none (l : Addr) (items : Array Value) (n : Nat) (dd : Option Addr) (sl : Array (Option Value)) (x : Int) (u : Tok) (h0 : (decide (x < -(2 ^ 63)) || decide (x ≥ 2 ^ 63)) = false) (h1 : (items.isEmpty || x == 1) = false) (h2 : (decide (x ≤ 0) || items.isEmpty) = true) :
    Meets (Builtin.«tuple.__mul__» ⟨[.ref l, .int x u], []⟩) (fun _ R s => s.heap.get? l = some { cls := .type "tuple", dict := dd, data := .seq items n, slots := sl } ∧
      R (.ok (.ret (Value.ref s.heap.objs.size))) { s with heap := s.heap.push { cls := Value.type "tuple", data := Data.seq #[] }, toks := s.toks }) := by
  refine .of_wp fun prog w A R s hh => ?_
  obtain ⟨hp, g, d, tk, os⟩ := s
  obtain ⟨hl, hh⟩ := hh
  have f1 := AutoSeq1.idx_int
  wp_walk using wpAny_loadPart' hl
  repeat (first
    | (refine wpAny_ite_false (decide_eq_false (by rw [h0]; decide)) ?_; wp_walk using wpAny_loadPart' hl)
    | (refine wpAny_ite_false (decide_eq_false (by rw [h1]; decide)) ?_; wp_walk using wpAny_loadPart' hl)
    | (refine wpAny_ite_true (decide_eq_true (by rw [h2])) ?_; wp_walk using wpAny_loadPart' hl))
  all_goals first | exact ⟨_, rfl, hh⟩ | exact hh | skip
def rRepAny (K : PySem.W.Frag) : R2 := fun x y H Q => ∃ l k xs, x = .ref l ∧ y = .int k ∧ SqT K H l xs ∧ -1000 ≤ k ∧ k ≤ 1000 ∧ xs.length ≤ 1000 ∧ ((xs = [] ∨ k = 1) → Q (.ref l) H) ∧ ∀ p, H p = none → Q (.ref p) (upd H p (.tup (List.replicate k.toNat xs).flatten))
theorem op_repAny {X : Cx} : OpR X (binaryOp .Mult) (rRepAny X.K) := by
  intro pins s σ H x y v u Q I rx ry h
  obtain ⟨l, k, xs, e1, e2, hT, k0, k1, hz, q1, q2⟩ := h
  by_cases big : xs ≠ [] ∧ 2 ≤ k
  · exact op_repT pins s σ H x y v u Q I rx ry ⟨l, k, xs, e1, e2, hT, big.1, big.2, k1, hz, q2⟩
  · subst e1 e2
    cases rx
    obtain ⟨t, rfl⟩ := ry
    obtain ⟨its, r, ⟨⟨cls, dd, data, sl⟩, ho, hc, n, hd⟩, hs⟩ := I.tuple hT
    simp only at hc hd
    subst hc hd
    have hle : its.length = xs.length := r.length.symm
    have c0 : (decide (k < -(2 ^ 63)) || decide (k ≥ 2 ^ 63)) = false := by
      rw [decide_eq_false (by omega), decide_eq_false (by omega)] <;> rfl
    by_cases same : xs = [] ∨ k = 1
    · have c1 : (its.toArray.isEmpty || k == 1) = true := by
        rcases same with h | h
        · have : its = [] := List.eq_nil_of_length_eq_zero (by rw [hle, h]; rfl)
          rw [this]; rfl
        · rw [h]; simp
      exact wpAny_binaryOp_repeat_ref (T := "tuple") (U := "int") (by decide) ⟨_, ho, rfl⟩ (fun s' => typeIs_int s' k t) noFill_tuple_mul F.fills_int_mul F.slot_int_rmul repeat_tuple F.slot_int_index.lookup
        (call_meets F.slot_int_rmul (typeIs_int s k t) F.entry_int_rmul (F.args_int_rmul_2 _ _) (int_rmul_tuple k t l its.toArray n dd sl)
          ⟨ho, rfl, ⟨_, ho, rfl⟩, call_meets F.slot_tuple_mul ⟨_, ho, rfl⟩ F.entry_tuple_mul (F.args_tuple_mul_2 _ _) (tupMul_same l its.toArray n dd sl k t c0 c1) ⟨ho, ⟨.ref l, H, I, rfl, q1 same⟩⟩⟩)
    · have hx : xs ≠ [] := fun h => same (.inl h)
      have hk1 : k ≤ 0 := by
        have : k ≠ 1 := fun h => same (.inr h)
        have : ¬ 2 ≤ k := fun h => big ⟨hx, h⟩
        omega
      have hi : its.toArray.isEmpty = false := by
        cases its with
        | nil => exact absurd (List.eq_nil_of_length_eq_zero hle.symm) hx
        | cons a b => rfl
      have c1 : (its.toArray.isEmpty || k == 1) = false := by
        rw [hi, Bool.false_or]
        exact beq_eq_false_iff_ne.mpr (by omega)
      have c2 : (decide (k ≤ 0) || its.toArray.isEmpty) = true := by rw [decide_eq_true hk1]; rfl
      have ez : (List.replicate k.toNat xs).flatten = [] := by rw [Int.toNat_of_nonpos hk1]; rfl
      have q2 := q2 s.heap.objs.size (I.hok.fresh (Nat.le_refl _))
      rw [ez] at q2
      exact wpAny_binaryOp_repeat_ref (T := "tuple") (U := "int") (by decide) ⟨_, ho, rfl⟩ (fun s' => typeIs_int s' k t) noFill_tuple_mul F.fills_int_mul F.slot_int_rmul repeat_tuple F.slot_int_index.lookup
        (call_meets F.slot_int_rmul (typeIs_int s k t) F.entry_int_rmul (F.args_int_rmul_2 _ _) (int_rmul_tuple k t l its.toArray n dd sl)
          ⟨ho, rfl, ⟨_, ho, rfl⟩, call_meets F.slot_tuple_mul ⟨_, ho, rfl⟩ F.entry_tuple_mul (F.args_tuple_mul_2 _ _) (tupMul_none l its.toArray n dd sl k t c0 c1 c2)
            ⟨ho, ⟨.ref s.heap.objs.size, _, I.laid (t' := s.toks) (o := .tup []) (fun b ob q => Heap.get?_push_of_some _ q) (Nat.le_refl _) ⟨Nat.zero_le _, [], .nil, IsTup.new _ _⟩, rfl, q2⟩⟩⟩)
def rMulX (X : Cx) : R2 := fun x y H Q => rI CMul (fun i j => .int (i * j)) x y H Q ∨ rRep x y H Q ∨ rRepAny X.K x y H Q
theorem op_mulX : OpR X (binaryOp .Mult) (rMulX X) := op_mul.or (op_rep.or op_repAny)
theorem natAbs_lt {i : Int} (h : i.natAbs < 2 ^ 64) : -(2 ^ 64) < i ∧ i < 2 ^ 64 := by
  have e : (2 : Nat) ^ 64 = 18446744073709551616 := by decide
  have e' : (2 : Int) ^ 64 = 18446744073709551616 := by decide
  rw [e] at h
  rw [e']
  omega
theorem mul_D (hk : KxOk X c.k) (g : Bool) : Op2 c g (rMulX X) (binR .mul) := by
  intro O ρ σ H x y v u Q R rx ry z
  cases x <;> cases y <;> first | exact z.elim | skip
  · obtain rfl : v = _ := rx
    obtain rfl : u = _ := ry
    obtain ⟨hz, z⟩ := z.if_
    refine .inl ⟨_, _, rfl, rfl, ?_, fin_scal R z rfl⟩
    simp only [smallMul, Bool.or_eq_true, decide_eq_true_eq] at hz
    exact hz.imp natAbs_lt natAbs_lt
  · rename_i as n
    obtain ⟨p, vs, rfl, hp, r1⟩ := rx
    obtain rfl : u = _ := ry
    rw [← hk.K] at hp
    obtain ⟨⟨h2, h3, h4⟩, z⟩ := z.if_
    refine .inr (.inr ⟨p, n, vs, rfl, rfl, hp, h2, h3, by rw [r1.length]; exact h4, fun same => ?_, fun w hw => z _ _ (.tup R (r1.flat _) hw) (keepNew hw)⟩)
    have er : repL as n = as := by
      rcases same with h | h
      · have : as = [] := List.eq_nil_of_length_eq_zero (by rw [← r1.length, h]; rfl)
        subst this
        unfold repL
        simp
      · subst h
        unfold repL
        simp
    rw [hk.K] at hp
    exact z _ _ (.scal R (by rw [er]; exact ⟨p, vs, rfl, hp, r1⟩) rfl) (Keep.refl _ _)
  · rename_i as n
    obtain ⟨p, vs, rfl, hp, r1⟩ := rx
    obtain rfl : u = _ := ry
    obtain ⟨⟨h1, h2, h3⟩, z⟩ := z.if_
    exact .inr (.inl ⟨p, n, vs, rfl, rfl, hp, by omega, by omega, by rw [r1.length, ← maxLen_eq]; exact h3, fun w hw => z _ _ (.list R (r1.flat _) hw) (keepNew hw)⟩)
theorem fdiv_D (g : Bool) : Op2 c g (rI CDiv fun i j => .int (i / j)) (binR .fdiv) := by
  intro O ρ σ H x y v u Q R rx ry z
  cases x <;> cases y <;> first | exact z.elim | skip
  obtain rfl : v = _ := rx
  obtain rfl : u = _ := ry
  obtain ⟨hz, z⟩ := z.if_
  exact ⟨_, _, rfl, rfl, hz, fin_scal R z rfl⟩
theorem mod_D (g : Bool) : Op2 c g (rI (fun _ j => 0 < j) fun i j => .int (i % j)) (binR .mod) := by
  intro O ρ σ H x y v u Q R rx ry z
  cases x <;> cases y <;> first | exact z.elim | skip
  obtain rfl : v = _ := rx
  obtain rfl : u = _ := ry
  obtain ⟨hz, z⟩ := z.if_
  exact ⟨_, _, rfl, rfl, hz, fin_scal R z rfl⟩
theorem pow_D (g : Bool) : Op2 c g (rI CPow fun i j => .int (i ^ j.toNat)) (binR .pow) := by
  intro O ρ σ H x y v u Q R rx ry z
  cases x <;> cases y <;> first | exact z.elim | skip
  obtain rfl : v = _ := rx
  obtain rfl : u = _ := ry
  obtain ⟨hz, z⟩ := z.if_
  exact ⟨_, _, rfl, rfl, ⟨hz.1, by omega, hz.2.2⟩, fin_scal R z rfl⟩
/-! ### comparisons on data -/
theorem cmp_fin {g : Bool} {O : Ow} {ρ : Env} {σ : L2.St} {H : Hp} {r : R Bool} {Q : VK} (R : Rel c O ρ σ H) (z : wpR c (do Cg.R.ok (.bool (← r)) : Cg.R D) (fun d => ∀ w H', Res g c H O ρ σ H' d w → Keep O H H' → Q w H')) : wpR c r fun b => Q (.bl b) H :=
  (wpR_bind.mp z).mono fun b z => fin_scal R z rfl
theorem eq_D (g : Bool) : Op2 c g (rEqX c) (cmpD .eq) := fun O ρ σ H x y v u Q R rx ry z => ⟨x, y, rx.any, ry.any, cmp_fin R z⟩
theorem ne_D (g : Bool) : Op2 c g (rNeX c) (cmpD .ne) := fun O ρ σ H x y v u Q R rx ry z => ⟨x, y, rx.any, ry.any, wpR_bind.mp (cmp_fin R z)⟩
theorem lt_D (g : Bool) : Op2 c g (rLtX c) (cmpD .lt) := fun O ρ σ H x y v u Q R rx ry z => ⟨x, y, rx.any, ry.any, cmp_fin R z⟩
theorem le_D (g : Bool) : Op2 c g (rI0 fun i j => .bl (decide (i ≤ j))) (cmpD .le) := by
  intro O ρ σ H x y v u Q R rx ry z
  cases x <;> cases y <;> first | exact z.elim | skip
  obtain rfl : v = _ := rx
  obtain rfl : u = _ := ry
  exact ⟨_, _, rfl, rfl, fin_scal R z rfl⟩
theorem gt_D (g : Bool) : Op2 c g (rI0 fun i j => .bl (decide (j < i))) (cmpD .gt) := by
  intro O ρ σ H x y v u Q R rx ry z
  cases x <;> cases y <;> first | exact z.elim | skip
  obtain rfl : v = _ := rx
  obtain rfl : u = _ := ry
  exact ⟨_, _, rfl, rfl, fin_scal R z rfl⟩
theorem ge_D (g : Bool) : Op2 c g (rI0 fun i j => .bl (decide (j ≤ i))) (cmpD .ge) := by
  intro O ρ σ H x y v u Q R rx ry z
  cases x <;> cases y <;> first | exact z.elim | skip
  obtain rfl : v = _ := rx
  obtain rfl : u = _ := ry
  exact ⟨_, _, rfl, rfl, fin_scal R z rfl⟩
/-- is None, is True -/
def rIsX (neg : Bool) : R2 := fun x y H Q => (y = .non ∧ Q (.bl (if neg then !decide (x = .non) else decide (x = .non))) H) ∨ ∃ a b : Bool, x = .bl a ∧ y = .bl b ∧ Q (.bl (if neg then !decide (a = b) else decide (a = b))) H
theorem op_isX : OpR X (compareOp .Is) (rIsX false) := op_isN.or op_isBl
theorem op_isNotX : OpR X (compareOp .IsNot) (rIsX true) := op_notN.or op_notBl
def nonD : D → Bool
  | .non => true
  | _ => false
theorem non_iff {O : Ow} {H : Hp} {d : D} {v : V} (r : RepB c O H d v) : decide (v = .non) = nonD d := by
  cases d <;> first
    | (obtain rfl : v = _ := r; rfl)
    | (obtain ⟨p, vs, rfl, _⟩ := r; rfl)
    | (obtain ⟨p, rfl, _⟩ := r; rfl)
theorem wpR_is {x y : D} {P : Bool → Prop} (h : wpR c (isR x y) P) : (y = .non ∧ P (nonD x)) ∨ ∃ a b : Bool, x = .bool a ∧ y = .bool b ∧ P (a == b) := by
  cases y <;> first | exact h.elim | skip
  · refine .inl ⟨rfl, ?_⟩
    cases x <;> exact h
  · cases x <;> first | exact h.elim | skip
    exact .inr ⟨_, _, rfl, rfl, h⟩
theorem is_D (g : Bool) : Op2 c g (rIsX false) (cmpD .is_) := by
  intro O ρ σ H x y v u Q R rx ry z
  rcases wpR_is (cmp_fin R z) with ⟨rfl, z1⟩ | ⟨a, b, rfl, rfl, z1⟩
  · obtain rfl : u = _ := ry
    exact .inl ⟨rfl, by rw [if_neg Bool.false_ne_true, non_iff rx]; exact z1⟩
  · obtain rfl : v = _ := rx
    obtain rfl : u = _ := ry
    exact .inr ⟨a, b, rfl, rfl, by rw [if_neg Bool.false_ne_true]; rw [show decide (a = b) = (a == b) by cases a <;> cases b <;> rfl]; exact z1⟩
theorem isNot_D (g : Bool) : Op2 c g (rIsX true) (cmpD .isNot) := by
  intro O ρ σ H x y v u Q R rx ry z
  rcases wpR_is (wpR_bind.mp (cmp_fin R z)) with ⟨rfl, z1⟩ | ⟨a, b, rfl, rfl, z1⟩
  · obtain rfl : u = _ := ry
    exact .inl ⟨rfl, by rw [if_pos rfl, non_iff rx]; exact z1⟩
  · obtain rfl : v = _ := rx
    obtain rfl : u = _ := ry
    exact .inr ⟨a, b, rfl, rfl, by rw [if_pos rfl]; rw [show decide (a = b) = (a == b) by cases a <;> cases b <;> rfl]; exact z1⟩
theorem wpR_inAny {neg : Bool} {x y : D} {P : Bool → Prop} (h : wpR c (cmpR (if neg then .notIn else .in_) x y) P) : ∃ l, (y = .tup l ∨ y = .lst l) ∧ wpR c (inR x l) fun r => P (if neg then !r else r) := by
  cases neg <;> cases y <;> first
    | (cases x <;> exact h.elim)
    | exact ⟨_, .inl rfl, h⟩
    | exact ⟨_, .inr rfl, h⟩
    | exact ⟨_, .inl rfl, wpR_bind.mp h⟩
    | exact ⟨_, .inr rfl, wpR_bind.mp h⟩
theorem in_D (g : Bool) (neg : Bool) : Op2 c g (rInX c neg) (cmpD (if neg then .notIn else .in_)) := by
  intro O ρ σ H x y v u Q R rx ry z
  have z := cmp_fin R z
  obtain ⟨l, hl, z⟩ := wpR_inAny z
  exact ⟨x, y, rx.any, ry.any, l, hl, z⟩
/-! ### subscripts -/
theorem place_eq (n : Nat) (i : Int) : place n i = ixN n i := rfl
theorem wpR_nth {l : List D} {i : Int} {P : D → Prop} (h : wpR c (nthR l i) P) : ∃ d j, ixN l.length i = some j ∧ l[j]? = some d ∧ P d := by
  unfold nthR at h
  rw [place_eq] at h
  cases e : ixN l.length i with
  | none => rw [e] at h; exact h.elim
  | some j =>
    rw [e] at h
    have h : wpR c (match l[j]? with | some d => Cg.R.ok d | none => Cg.R.bad) P := h
    cases q : l[j]? with
    | none => rw [q] at h; exact h.elim
    | some d => rw [q] at h; exact ⟨d, j, rfl, q, h⟩
theorem atI_of {vs : List V} {n : Nat} {i : Int} {j : Nat} {v : V} (hl : vs.length = n) (h : ixN n i = some j) (e : vs[j]? = some v) : atI vs i = some v := by
  unfold atI
  rw [hl, h]
  exact e
def rIxX (X : Cx) : R2 := fun x y H Q => rIxL X.K x y H Q ∨ rIxT X.K x y H Q ∨ rIxS x y H Q
theorem ix_D (hk : KxOk X c.k) {O : Ow} {ρ : Env} {σ : L2.St} {H : Hp} {x y : D} {v u : V} {Q : VK} (R : Rel c O ρ σ H) (rx : RepB c O H x v) (ry : RepB c O H y u)
    (z : wpR c (idxR x y) (fun d => ∀ w H', Res false c H O ρ σ H' d w → Keep O H H' → Q w H')) : rIxX X v u H Q := by
  cases x <;> first | exact z.elim | skip
  all_goals (cases y <;> first | exact z.elim | skip)
  · obtain ⟨p, vs, rfl, hp, r1⟩ := rx
    obtain rfl : u = _ := ry
    rw [← hk.K] at hp
    obtain ⟨d, j, e1, e2, z⟩ := wpR_nth z
    obtain ⟨w, e3, r⟩ := r1.get e2
    exact .inr (.inl ⟨p, vs, _, w, rfl, rfl, hp, atI_of r1.length e1 e3, z w H ⟨R, r, fun q => nomatch q⟩ (Keep.refl O H)⟩)
  · obtain ⟨p, vs, rfl, hp, r1⟩ := rx
    obtain rfl : u = _ := ry
    obtain ⟨d, j, e1, e2, z⟩ := wpR_nth z
    obtain ⟨w, e3, r⟩ := r1.get e2
    exact .inl ⟨p, vs, _, w, rfl, rfl, SqL.of hp, atI_of r1.length e1 e3, z w H ⟨R, r, fun q => nomatch q⟩ (Keep.refl O H)⟩
/-! ### slices -/
def rSlX (X : Cx) : V → Option Int → Option Int → Hp → VK → Prop := fun x lo hi H Q => rSlL X.K x lo hi H Q ∨ rSlA X.K x lo hi H Q
theorem sl_X : SlR X (rSlX X) := sl_list.or sl_tupA
theorem Reps.cut {k : Kx} {A : Addr → Prop} {H : Hp} {ds : List D} {vs : List V} (r : Reps k A H ds vs) (lo hi : Option Int) : Reps k A H (sliceL ds lo hi) (cutV vs lo hi) := by
  have e : vs.length = ds.length := r.length
  have b : ∀ n i, bnd n i = HT.sIx n 0 (some i) := fun n i => rfl
  have b2 : ∀ n i, bnd n i = HT.sIx n n (some i) := fun n i => rfl
  cases lo <;> cases hi <;> simp only [sliceL, cutV, e, b, b2] <;> exact Reps.take _ (Reps.drop _ r)
theorem sliceL_whole {ds : List D} {lo hi : Option Int} (h1 : HT.sIx ds.length 0 lo = 0) (h2 : HT.sIx ds.length ds.length hi = ds.length) : sliceL ds lo hi = ds := by
  have b : ∀ n i, bnd n i = HT.sIx n 0 (some i) := fun n i => rfl
  have b2 : ∀ n i, bnd n i = HT.sIx n n (some i) := fun n i => rfl
  cases lo <;> cases hi <;> simp only [sliceL] <;> simp_all
theorem slice_D (hk : KxOk X c.k) {g : Bool} {O : Ow} {ρ : Env} {σ : L2.St} {H : Hp} {x : D} {v : V} {lo hi : Option Int} {Q : VK} (R : Rel c O ρ σ H) (rx : RepB c O H x v)
    (z : wpR c (match x with | .tup l => Cg.R.ok (.tup (sliceL l lo hi)) | .lst l => Cg.R.ok (.lst (sliceL l lo hi)) | _ => Cg.R.bad) (fun d => ∀ w H', Res g c H O ρ σ H' d w → Keep O H H' → Q w H')) : rSlX X v lo hi H Q := by
  cases x <;> first | exact z.elim | skip
  · obtain ⟨p, vs, rfl, hp, r1⟩ := rx
    rw [← hk.K] at hp
    refine .inr ⟨p, vs, rfl, hp, fun ⟨h1, h2⟩ => ?_, fun _ w hw => z _ _ (.tup R (r1.cut lo hi) hw) (keepNew hw)⟩
    rw [r1.length] at h1 h2
    have z : ∀ w H', Res g c H O ρ σ H' (.tup (sliceL _ lo hi)) w → Keep O H H' → Q w H' := z
    rw [sliceL_whole h1 h2] at z
    exact z (.ref p) H (.scal R ⟨p, vs, rfl, by rw [← hk.K]; exact hp, r1⟩ rfl) (Keep.refl O H)
  · obtain ⟨p, vs, rfl, hp, r1⟩ := rx
    exact .inl ⟨p, vs, rfl, SqL.of hp, fun w hw => z _ _ (.list R (r1.cut lo hi) hw) (keepNew hw)⟩
end
end Cg
set_option Elab.async false
set_option linter.all false
set_option maxRecDepth 100000
set_option maxHeartbeats 4000000
namespace Cg
open PySem PySem.Spec PyProof.Rows L2 PySem.SeqAt
section
variable {X : Cx} {c : Fc} {F G K : Env → R (D × Env)} {B B' : Env → R (Bool × Env)}
/-! ### tests -/
theorem op2T {p q : Expr} {r : R2} {o : CO} {a b : E} {whole : Expr} (h : Op2 c false r (cmpD o)) (hw : ∀ ta tb, PE X p ta → PE X q tb → PT X whole (tTest (tOp r ta tb))) (hp : PE X p (tSee c a F)) (hq : PE X q (tSee c b G)) :
    PT X whole (Cg.tB c fun ρ => do let (d, ρ) ← (do let (x, ρ) ← seeW a F ρ; let (y, ρ) ← seeW b G ρ; let x ← nowE a x ρ; let y ← nowE b y ρ; Cg.R.ok (← cmpD o x y, ρ)); Cg.R.ok (← d.truth, ρ)) := by
  refine (hw _ _ hp hq).weak fun σ H Q ⟨O, ρ, R, z⟩ => ⟨O, ρ, R, (wpR_bind.mp (wpR_bind.mp z)).mono fun ⟨x, ρ1⟩ z v H1 R1 k1 r1 n1 => ⟨O, ρ1, R1, (wpR_bind.mp z).mono fun ⟨y, ρ2⟩ z u H2 R2 k2 r2 n2 => ?_⟩⟩
  obtain ⟨x2, s1, z⟩ := n1 ρ2 H2 _ R2 k2 (wpR_bind.mp z)
  obtain ⟨y2, s2, z⟩ := n2 ρ2 H2 _ R2 (Keep.refl O H2) (wpR_bind.mp z)
  refine h O ρ2 σ H2 x2 y2 v u _ R2 s1 s2 (wpR_bind.mpr ((wpR_bind.mp (wpR_bind.mp z)).mono fun k z w H' rs ks => ?_))
  obtain rfl : w = V.bl k := rs.rep
  exact ⟨k, rfl, z H' rs.rel ((k1.trans k2).trans ks)⟩
/-- a value's truth -/
theorem wpR_truth {O : Ow} {H : Hp} {d : D} {v : V} {P : Bool → Prop} (e : X.K = c.k.K) (r : RepB c O H d v) (h : wpR c d.truth P) : ∃ k, TruV X.K v H k ∧ P k := by
  cases d <;> first | exact h.elim | skip
  · obtain rfl : v = _ := r
    exact ⟨false, rfl, h⟩
  · obtain rfl : v = _ := r
    exact ⟨_, rfl, h⟩
  · obtain rfl : v = _ := r
    exact ⟨_, rfl, h⟩
  · rename_i w
    obtain rfl : v = _ := r
    exact ⟨_, ⟨by have := w.txt_len; rw [sizeLine_eq]; omega, rfl⟩, by rw [w.txt_truth]; exact h⟩
  · obtain ⟨p, vs, rfl, hp, r1⟩ := r
    rw [← e] at hp
    refine ⟨_, .inr (.inl ⟨vs, hp, rfl⟩), ?_⟩
    rename_i l
    have : vs.isEmpty = l.isEmpty := by
      have q := r1.length
      cases vs <;> cases l <;> simp_all
    rw [this]; exact h
  · obtain ⟨p, vs, rfl, hp, r1⟩ := r
    refine ⟨_, .inl ⟨vs, SqL.of hp, rfl⟩, ?_⟩
    rename_i l
    have : vs.isEmpty = l.isEmpty := by
      have q := r1.length
      cases vs <;> cases l <;> simp_all
    rw [this]; exact h
theorem pt_ofS {p : Expr} {a : E} (e : X.K = c.k.K) (hp : PE X p (tSee c a F)) (he : ∀ whole, isTrue p X.env whole = (do let v ← whole; standAt p.pos; holding [v] (truthy v))) :
    PT X p (Cg.tB c fun ρ => do let (d, ρ) ← seeW a F ρ; Cg.R.ok (← d.truth, ρ)) := by
  refine (pt_truth hp he).weak fun σ H Q ⟨O, ρ, R, z⟩ => ⟨O, ρ, R, (wpR_bind.mp z).mono fun ⟨x, ρ1⟩ z v H1 R1 k1 r1 n1 => ?_⟩
  obtain ⟨k, t, z⟩ := wpR_truth e r1 (wpR_bind.mp z)
  exact ⟨k, t, z H1 R1 k1⟩
theorem pt_notS {p : Expr} {pos : Pos} (hp : PT X p (Cg.tB c B)) : PT X (.UnaryOp .Not p pos) (Cg.tB c fun ρ => do let (t, ρ) ← B ρ; Cg.R.ok (!t, ρ)) := by
  refine (pt_not hp).weak fun σ H Q ⟨O, ρ, R, z⟩ => ⟨O, ρ, R, (wpR_bind.mp z).mono fun ⟨x, ρ1⟩ z H1 R1 k1 => z H1 R1 k1⟩
theorem pw_andS {p q : Expr} {rest : List Expr} {pos : Pos} (hp : PT X p (Cg.tB c B)) (hq : PW X (.BoolOp .And (q :: rest) pos) (Cg.tB c B')) : PW X (.BoolOp .And (p :: q :: rest) pos) (Cg.tB c fun ρ => do let (x, ρ) ← B ρ; if x then B' ρ else Cg.R.ok (false, ρ)) := by
  refine (pw_and hp hq).weak fun σ H Q ⟨O, ρ, R, z⟩ => ⟨O, ρ, R, (wpR_bind.mp z).mono fun ⟨x, ρ1⟩ z H1 R1 k1 => ?_⟩
  cases x with
  | true => exact ⟨O, ρ1, R1, (show wpR c (B' ρ1) _ from z).mono fun p z H2 R2 k2 => z H2 R2 (k1.trans k2)⟩
  | false => exact z H1 R1 k1
theorem pw_orS {p q : Expr} {rest : List Expr} {pos : Pos} (hp : PT X p (Cg.tB c B)) (hq : PW X (.BoolOp .Or (q :: rest) pos) (Cg.tB c B')) : PW X (.BoolOp .Or (p :: q :: rest) pos) (Cg.tB c fun ρ => do let (x, ρ) ← B ρ; if x then Cg.R.ok (true, ρ) else B' ρ) := by
  refine (pw_or hp hq).weak fun σ H Q ⟨O, ρ, R, z⟩ => ⟨O, ρ, R, (wpR_bind.mp z).mono fun ⟨x, ρ1⟩ z H1 R1 k1 => ?_⟩
  cases x with
  | true => exact z H1 R1 k1
  | false => exact ⟨O, ρ1, R1, (show wpR c (B' ρ1) _ from z).mono fun p z H2 R2 k2 => z H2 R2 (k1.trans k2)⟩
/-! ### values -/
/-- the same, from later on -/
theorem tS.later {F : Env → R (D × Env)} {g : Bool} {O : Ow} {ρ : Env} {σ : L2.St} {H H1 : Hp} {Q : VK} (R : Rel c O ρ σ H1) (k : Keep O H H1) (z : wpR c (F ρ) fun p => ∀ v H', Res g c H O p.2 σ H' p.1 v → Keep O H H' → Q v H') : tS c g F σ H1 Q :=
  ⟨O, ρ, R, z.mono fun p z v H' r k' => z v H' (r.lower k) (k.trans k')⟩
theorem pe_notS {p : Expr} {a : E} {pos : Pos} {g : Bool} (e : X.K = c.k.K) (hp : PE X p (tSee c a F)) : PE X (.UnaryOp .Not p pos) (tS c g fun ρ => do let (d, ρ) ← seeW a F ρ; Cg.R.ok (.bool (!(← d.truth)), ρ)) := by
  refine (pe_notT hp).weak fun σ H Q ⟨O, ρ, R, z⟩ => ⟨O, ρ, R, (wpR_bind.mp z).mono fun ⟨x, ρ1⟩ z v H1 R1 k1 r1 n1 => ?_⟩
  obtain ⟨k, t, z⟩ := wpR_truth e r1 (wpR_bind.mp z)
  exact ⟨k, t, z _ H1 (.scal R1 rfl rfl) k1⟩
theorem pe_andS {p q : Expr} {rest : List Expr} {pos : Pos} {g g' : Bool} (hp : PE X p (tS c g' F)) (hq : PE X (.BoolOp .And (q :: rest) pos) (tS c g G)) :
    PE X (.BoolOp .And (p :: q :: rest) pos) (tS c g fun ρ => do let (x, ρ) ← F ρ; match x with | .bool true => G ρ | .bool false => Cg.R.ok (.bool false, ρ) | _ => Cg.R.bad) := by
  refine (pe_and hp.lax hq).weak fun σ H Q ⟨O, ρ, R, z⟩ => ⟨O, ρ, R, (wpR_bind.mp z).mono fun ⟨x, ρ1⟩ z v H1 r1 k1 => ?_⟩
  have rr := r1.rep
  cases x <;> first | exact (show False from z).elim | skip
  rename_i b
  obtain rfl : v = V.bl b := rr
  cases b with
  | true => exact ⟨true, rfl, tS.later r1.rel k1 z⟩
  | false => exact ⟨false, rfl, z _ H1 (.scal r1.rel rfl rfl) k1⟩
theorem pe_orS {p q : Expr} {rest : List Expr} {pos : Pos} {g g' : Bool} (hp : PE X p (tS c g' F)) (hq : PE X (.BoolOp .Or (q :: rest) pos) (tS c g G)) :
    PE X (.BoolOp .Or (p :: q :: rest) pos) (tS c g fun ρ => do let (x, ρ) ← F ρ; match x with | .bool true => Cg.R.ok (.bool true, ρ) | .bool false => G ρ | _ => Cg.R.bad) := by
  refine (pe_or hp.lax hq).weak fun σ H Q ⟨O, ρ, R, z⟩ => ⟨O, ρ, R, (wpR_bind.mp z).mono fun ⟨x, ρ1⟩ z v H1 r1 k1 => ?_⟩
  have rr := r1.rep
  cases x <;> first | exact (show False from z).elim | skip
  rename_i b
  obtain rfl : v = V.bl b := rr
  cases b with
  | true => exact ⟨true, rfl, z _ H1 (.scal r1.rel rfl rfl) k1⟩
  | false => exact ⟨false, rfl, tS.later r1.rel k1 z⟩
theorem pe_iteS {t p q : Expr} {pos : Pos} {g : Bool} (ht : PT X t (Cg.tB c B)) (hp : PE X p (tS c g F)) (hq : PE X q (tS c g G)) : PE X (.IfExp t p q pos) (tS c g fun ρ => do let (x, ρ) ← B ρ; if x then F ρ else G ρ) := by
  refine (pe_ifExp ht hp hq).weak fun σ H Q ⟨O, ρ, R, z⟩ => ⟨O, ρ, R, (wpR_bind.mp z).mono fun ⟨x, ρ1⟩ z H1 R1 k1 => ?_⟩
  cases x with
  | true => exact tS.later R1 k1 z
  | false => exact tS.later R1 k1 z
theorem pe_ixS {p q : Expr} {a b : E} {pos : Pos} (hk : KxOk X c.k) (hp : PE X p (tSee c a F)) (hq : PE X q (tSee c b G)) (hs : PlainIx q) :
    PE X (.Subscript p q pos) (tS c false fun ρ => do let (x, ρ) ← seeW a F ρ; let (j, ρ) ← seeW b G ρ; let x ← nowE a x ρ; let j ← nowE b j ρ; Cg.R.ok (← idxR x j, ρ)) := by
  refine (pe_ix (r := rIxX X) ix_seq hp hq hs).weak fun σ H Q ⟨O, ρ, R, z⟩ => ⟨O, ρ, R, (wpR_bind.mp z).mono fun ⟨x, ρ1⟩ z v H1 R1 k1 r1 n1 => ⟨O, ρ1, R1, (wpR_bind.mp z).mono fun ⟨y, ρ2⟩ z u H2 R2 k2 r2 n2 => ?_⟩⟩
  obtain ⟨x2, s1, z⟩ := n1 ρ2 H2 _ R2 k2 (wpR_bind.mp z)
  obtain ⟨y2, s2, z⟩ := n2 ρ2 H2 _ R2 (Keep.refl O H2) (wpR_bind.mp z)
  have z := wpR_bind.mp z
  exact ix_D hk R2 s1 s2 (z.mono fun d z w H' rs k => z w H' (rs.lower (k1.trans k2)) ((k1.trans k2).trans k))
/-- a bound that may be left out -/
def tOpt (c : Fc) (a : E) (F : Env → R (D × Env)) : TO := fun σ H Q => ∃ O ρ, Rel c O ρ σ H ∧ wpR c (optW a F ρ) fun p => ∀ H', Rel c O p.2 σ H' → Keep O H H' → Q p.1 H'
theorem po_noneS : PO X none (tOpt c .omit F) := by
  refine ⟨fun pins s σ H Q I ⟨O, ρ, R, z⟩ => po_none.run pins s σ H Q I ?_⟩
  exact z H R (Keep.refl O H)
theorem po_someS {p : Expr} {a : E} {g : Bool} (hp : PE X p (tS c g F)) (ha : a ≠ .omit) : PO X (some p) (tOpt c a F) := by
  have e : ∀ ρ, optW a F ρ = (do let (d, ρ) ← F ρ; Cg.R.ok (some (← d.toInt), ρ)) := fun ρ => by
    cases a <;> first | rfl | exact absurd rfl ha
  refine ⟨fun pins s σ H Q I ⟨O, ρ, R, z⟩ => (po_some hp.lax).run pins s σ H Q I ⟨O, ρ, R, ?_⟩⟩
  rw [e] at z
  refine (wpR_bind.mp z).mono fun ⟨d, ρ1⟩ z v H1 r1 k1 => ?_
  have z := wpR_bind.mp z
  have rr := r1.rep
  cases d <;> first | exact (show False from z).elim | skip
  exact ⟨_, rr, z H1 r1.rel k1⟩
theorem pe_sliceS {p : Expr} {lo hi : Option Expr} {a b d : E} {p2 pos : Pos} {g : Bool} (hk : KxOk X c.k) (hp : PE X p (tSee c a F)) (hl : PO X lo (tOpt c b G)) (hh : PO X hi (tOpt c d K)) :
    PE X (.Subscript p (.Slice lo hi none p2) pos) (tS c g fun ρ => do let (x, ρ) ← seeW a F ρ; let (l, ρ) ← optW b G ρ; let (h, ρ) ← optW d K ρ; let x ← nowE a x ρ; Cg.R.ok (← sliceR x l h, ρ)) := by
  refine (pe_slice (sl_X) hp hl hh).weak fun σ H Q ⟨O, ρ, R, z⟩ => ⟨O, ρ, R, (wpR_bind.mp z).mono fun ⟨x, ρ1⟩ z v H1 R1 k1 r1 n1 => ⟨O, ρ1, R1, (wpR_bind.mp z).mono fun ⟨l, ρ2⟩ z H2 R2 k2 => ⟨O, ρ2, R2, (wpR_bind.mp z).mono fun ⟨h, ρ3⟩ z H3 R3 k3 => ?_⟩⟩⟩
  obtain ⟨x2, s1, z⟩ := n1 ρ3 H3 _ R3 (k2.trans k3) (wpR_bind.mp z)
  exact slice_D hk R3 s1 ((wpR_bind.mp z).mono fun d z w H' rs k => z w H' (rs.lower ((k1.trans k2).trans k3)) (((k1.trans k2).trans k3).trans k))
end
end Cg
set_option Elab.async false
set_option linter.all false
set_option maxRecDepth 100000
set_option maxHeartbeats 4000000
namespace Cg
open PySem PySem.Spec PyProof.Rows L2 PySem.SeqAt
section
variable {X : Cx} {c : Fc} {F G K : Env → R (D × Env)} {B B' : Env → R (Bool × Env)}
/-- an operation of one operand, by what it asks of data -/
def Op1 (c : Fc) (g : Bool) (r : List V → Hp → VK → Prop) (f : D → R D) : Prop := ∀ (O : Ow) (ρ : Env) (σ : L2.St) (H : Hp) (x : D) (v : V) (Q : VK), Rel c O ρ σ H → RepB c O H x v →
  wpR c (f x) (fun d => ∀ w H', Res g c H O ρ σ H' d w → Keep O H H' → Q w H') → r [v] H Q
theorem op1S {p whole : Expr} {a : E} {r : List V → Hp → VK → Prop} {f : D → R D} {g : Bool} (h : Op1 c g r f) (hw : ∀ ta, PE X p ta → PE X whole (tCB r (tCons ta tNil))) (hp : PE X p (tSee c a F)) :
    PE X whole (tS c g fun ρ => do let (x, ρ) ← seeW a F ρ; Cg.R.ok (← f x, ρ)) := by
  refine (hw _ hp).weak fun σ H Q ⟨O, ρ, R, z⟩ => ⟨O, ρ, R, (wpR_bind.mp z).mono fun ⟨x, ρ1⟩ z v H1 R1 k1 r1 n1 => ?_⟩
  exact h O ρ1 σ H1 x v Q R1 r1 ((wpR_bind.mp z).mono fun d z w H' rs k => z w H' (rs.lower k1) (k1.trans k))
/-- .. of two -/
def Op1b (c : Fc) (g : Bool) (r : List V → Hp → VK → Prop) (f : D → D → R D) : Prop := ∀ (O : Ow) (ρ : Env) (σ : L2.St) (H : Hp) (x y : D) (v u : V) (Q : VK), Rel c O ρ σ H → Rep c.k (Al c O) H x v → Rep c.k (Al c O) H y u →
  wpR c (f x y) (fun d => ∀ w H', Res g c H O ρ σ H' d w → Keep O H H' → Q w H') → r [v, u] H Q
theorem op1bS {p q whole : Expr} {r : List V → Hp → VK → Prop} {f : D → D → R D} {g g1 g2 : Bool} (h : Op1b c g r f) (hw : ∀ ta tb, PE X p ta → PE X q tb → PE X whole (tCB r (tCons ta (tCons tb tNil)))) (hp : PE X p (tS c g1 F)) (hq : PE X q (tS c g2 G)) :
    PE X whole (tS c g fun ρ => do let (x, ρ) ← F ρ; let (y, ρ) ← G ρ; Cg.R.ok (← f x y, ρ)) := by
  refine (hw _ _ hp.lax hq.lax).weak fun σ H Q ⟨O, ρ, R, z⟩ => ⟨O, ρ, R, (wpR_bind.mp z).mono fun ⟨x, ρ1⟩ z v H1 r1 k1 => ⟨O, ρ1, r1.rel, (wpR_bind.mp z).mono fun ⟨y, ρ2⟩ z u H2 r2 k2 => ?_⟩⟩
  exact h O ρ2 σ H2 x y v u Q r2.rel (r1.rel.rep k2 r1.rep) r2.rep ((wpR_bind.mp z).mono fun d z w H' rs k => z w H' (rs.lower (k1.trans k2)) ((k1.trans k2).trans k))
theorem wpR_ints {P : List Int → Prop} : ∀ {l : List D}, wpR c (intsR l) P → ∃ ns : List Int, l = ns.map D.int ∧ P ns
  | [], h => ⟨[], rfl, h⟩
  | .int i :: ds, h => by
    obtain ⟨ns, e, q⟩ := wpR_ints (wpR_bind.mp (show wpR c (do let r ← intsR ds; Cg.R.ok (i :: r)) P from h))
    exact ⟨i :: ns, by rw [e]; rfl, q⟩
  | .non :: _, h => h.elim
  | .bool _ :: _, h => h.elim
  | .str _ :: _, h => h.elim
  | .tup _ :: _, h => h.elim
  | .lst _ :: _, h => h.elim
  | .dct _ :: _, h => h.elim
  | .exc _ :: _, h => h.elim
  | .rep _ :: _, h => h.elim
  | .scr _ :: _, h => h.elim
theorem reps_ints {k : Kx} {A : Addr → Prop} {H : Hp} : ∀ {ns : List Int} {vs : List V}, Reps k A H (ns.map D.int) vs → vs = ns.map V.int
  | [], _, r => r
  | n :: ns, _, ⟨v, r, e, h1, h2⟩ => by rw [e, show v = V.int n from h1, reps_ints h2]; rfl
def rLenX (X : Cx) : List V → Hp → VK → Prop := fun xs H Q => ∃ p ys, xs = [.ref p] ∧ (SqL X.K H p ys ∨ SqT X.K H p ys) ∧ Q (.int ys.length) H
theorem len_D (hk : KxOk X c.k) (g : Bool) : Op1 c g (rLenX X) (b1R .len) := by
  intro O ρ σ H x v Q R rx z
  cases x <;> first | exact z.elim | skip
  · obtain ⟨p, vs, rfl, hp, r1⟩ := rx
    rw [← hk.K] at hp
    exact ⟨p, vs, rfl, .inr hp, by rw [r1.length]; exact fin_scal R z rfl⟩
  · obtain ⟨p, vs, rfl, hp, r1⟩ := rx
    exact ⟨p, vs, rfl, .inl (SqL.of hp), by rw [r1.length]; exact fin_scal R z rfl⟩
def rAbsX : List V → Hp → VK → Prop := fun xs H Q => ∃ i, xs = [.int i] ∧ Q (.int (if i < 0 then -i else i)) H
theorem abs_D (g : Bool) : Op1 c g rAbsX (b1R .abs) := by
  intro O ρ σ H x v Q R rx z
  cases x <;> first | exact z.elim | skip
  obtain rfl : v = _ := rx
  exact ⟨_, rfl, fin_scal R z rfl⟩
def rIntX : List V → Hp → VK → Prop := fun xs H Q => (∃ i, xs = [.int i] ∧ Q (.int i) H) ∨ ∃ k, xs = [.bl k] ∧ Q (.int (if k then 1 else 0)) H
theorem int_D (g : Bool) : Op1 c g rIntX (b1R .int) := by
  intro O ρ σ H x v Q R rx z
  cases x <;> first | exact z.elim | skip
  · obtain rfl : v = _ := rx
    exact .inr ⟨_, rfl, fin_scal R z rfl⟩
  · obtain rfl : v = _ := rx
    exact .inl ⟨_, rfl, fin_scal R z rfl⟩
theorem sum_D (g : Bool) : Op1 c g (rSum X.K) (b1R .sum) := by
  intro O ρ σ H x v Q R rx z
  cases x <;> first | exact z.elim | skip
  obtain ⟨p, vs, rfl, hp, r1⟩ := rx
  obtain ⟨ns, rfl, z1⟩ := wpR_ints (wpR_bind.mp z)
  obtain rfl := reps_ints r1
  exact ⟨p, ns, rfl, SqL.of hp, fin_scal R z1 rfl⟩
theorem minL_spec (l : List Int) : ∀ a : Int, minL a l ∈ a :: l ∧ ∀ y ∈ a :: l, minL a l ≤ y := by
  induction l with
  | nil => intro a; exact ⟨List.mem_cons_self, fun y hy => by rw [List.mem_singleton.mp hy]; exact Int.le_refl _⟩
  | cons b l ih =>
    intro a
    have e : minL a (b :: l) = minL (if b < a then b else a) l := rfl
    rw [e]
    obtain ⟨h1, h2⟩ := ih (if b < a then b else a)
    have h3 := h2 _ List.mem_cons_self
    refine ⟨?_, fun y hy => ?_⟩
    · rcases List.mem_cons.mp h1 with q | q
      · by_cases z : b < a
        · rw [if_pos z] at q; simp only [if_pos z, q]; simp
        · rw [if_neg z] at q; simp only [if_neg z, q]; simp
      · simp [q]
    · rcases List.mem_cons.mp hy with q | q
      · subst q
        by_cases z : b < y
        · rw [if_pos z] at h3 ⊢; omega
        · rw [if_neg z] at h3 ⊢; exact h3
      · rcases List.mem_cons.mp q with q | q
        · subst q
          by_cases z : y < a
          · rw [if_pos z] at h3 ⊢; exact h3
          · rw [if_neg z] at h3 ⊢; omega
        · exact h2 y (List.mem_cons_of_mem _ q)
theorem maxL_spec (l : List Int) : ∀ a : Int, maxL a l ∈ a :: l ∧ ∀ y ∈ a :: l, y ≤ maxL a l := by
  induction l with
  | nil => intro a; exact ⟨List.mem_cons_self, fun y hy => by rw [List.mem_singleton.mp hy]; exact Int.le_refl _⟩
  | cons b l ih =>
    intro a
    have e : maxL a (b :: l) = maxL (if a < b then b else a) l := rfl
    rw [e]
    obtain ⟨h1, h2⟩ := ih (if a < b then b else a)
    have h3 := h2 _ List.mem_cons_self
    refine ⟨?_, fun y hy => ?_⟩
    · rcases List.mem_cons.mp h1 with q | q
      · by_cases z : a < b
        · rw [if_pos z] at q; simp only [if_pos z, q]; simp
        · rw [if_neg z] at q; simp only [if_neg z, q]; simp
      · simp [q]
    · rcases List.mem_cons.mp hy with q | q
      · subst q
        by_cases z : y < b
        · rw [if_pos z] at h3 ⊢; omega
        · rw [if_neg z] at h3 ⊢; exact h3
      · rcases List.mem_cons.mp q with q | q
        · subst q
          by_cases z : a < y
          · rw [if_pos z] at h3 ⊢; exact h3
          · rw [if_neg z] at h3 ⊢; omega
        · exact h2 y (List.mem_cons_of_mem _ q)
theorem min_D (g : Bool) : Op1 c g (rMin X.K) (b1R .min) := by
  intro O ρ σ H x v Q R rx z
  cases x <;> first | exact z.elim | skip
  rename_i l
  obtain ⟨p, vs, rfl, hp, r1⟩ := rx
  cases l with
  | nil => exact (show False from z).elim
  | cons d ds =>
    cases d <;> first | exact (show False from z).elim | skip
    rename_i i
    obtain ⟨ns, rfl, z1⟩ := wpR_ints (wpR_bind.mp (show wpR c (do let r ← intsR ds; Cg.R.ok (D.int (minL i r))) _ from z))
    obtain rfl := reps_ints (ns := i :: ns) r1
    refine ⟨p, i :: ns, rfl, SqL.of hp, Nat.succ_pos _, fun m hm hl => ?_⟩
    obtain ⟨h1, h2⟩ := minL_spec ns i
    have e : m = minL i ns := Int.le_antisymm (hl _ h1) (h2 _ hm)
    rw [e]
    exact fin_scal R z1 rfl
theorem max_D (g : Bool) : Op1 c g (rMax X.K) (b1R .max) := by
  intro O ρ σ H x v Q R rx z
  cases x <;> first | exact z.elim | skip
  rename_i l
  obtain ⟨p, vs, rfl, hp, r1⟩ := rx
  cases l with
  | nil => exact (show False from z).elim
  | cons d ds =>
    cases d <;> first | exact (show False from z).elim | skip
    rename_i i
    obtain ⟨ns, rfl, z1⟩ := wpR_ints (wpR_bind.mp (show wpR c (do let r ← intsR ds; Cg.R.ok (D.int (maxL i r))) _ from z))
    obtain rfl := reps_ints (ns := i :: ns) r1
    refine ⟨p, i :: ns, rfl, SqL.of hp, Nat.succ_pos _, fun m hm hl => ?_⟩
    obtain ⟨h1, h2⟩ := maxL_spec ns i
    have e : m = maxL i ns := Int.le_antisymm (h2 _ hm) (hl _ h1)
    rw [e]
    exact fin_scal R z1 rfl
def rTupOf (X : Cx) : List V → Hp → VK → Prop := fun xs H Q => ∃ p ys, xs = [.ref p] ∧ ((SqL X.K H p ys ∧ ∀ l, H l = none → Q (.ref l) (upd H l (.tup ys))) ∨ (SqT X.K H p ys ∧ Q (.ref p) H))
theorem tup_D (hk : KxOk X c.k) (g : Bool) : Op1 c g (rTupOf X) (b1R .tupleOf) := by
  intro O ρ σ H x v Q R rx z
  cases x <;> first | exact z.elim | skip
  · obtain ⟨p, vs, rfl, hp, r1⟩ := rx
    exact ⟨p, vs, rfl, .inr ⟨by rw [hk.K]; exact hp, z _ H (.scal R ⟨p, vs, rfl, hp, r1⟩ rfl) (Keep.refl O H)⟩⟩
  · obtain ⟨p, vs, rfl, hp, r1⟩ := rx
    exact ⟨p, vs, rfl, .inl ⟨SqL.of hp, fun l hl => z _ _ (.tup R r1 hl) (keepNew hl)⟩⟩
def rLstOf (X : Cx) : List V → Hp → VK → Prop := fun xs H Q => ∃ p ys, xs = [.ref p] ∧ (SqL X.K H p ys ∨ SqT X.K H p ys) ∧ ∀ l, H l = none → Q (.ref l) (upd H l (.lst ys))
theorem lst_D (hk : KxOk X c.k) (g : Bool) : Op1 c g (rLstOf X) (b1R .listOf) := by
  intro O ρ σ H x v Q R rx z
  cases x <;> first | exact z.elim | skip
  · obtain ⟨p, vs, rfl, hp, r1⟩ := rx
    exact ⟨p, vs, rfl, .inr (by rw [hk.K]; exact hp), fun l hl => z _ _ (.list R r1 hl) (keepNew hl)⟩
  · obtain ⟨p, vs, rfl, hp, r1⟩ := rx
    exact ⟨p, vs, rfl, .inl (SqL.of hp), fun l hl => z _ _ (.list R r1 hl) (keepNew hl)⟩
def rMin2 : List V → Hp → VK → Prop := fun xs H Q => ∃ i j, xs = [.int i, .int j] ∧ Q (.int (if j < i then j else i)) H
def rMax2 : List V → Hp → VK → Prop := fun xs H Q => ∃ i j, xs = [.int i, .int j] ∧ Q (.int (if j > i then j else i)) H
theorem min2_D (g : Bool) : Op1b c g rMin2 (b2R .min) := by
  intro O ρ σ H x y v u Q R rx ry z
  cases x <;> cases y <;> first | exact z.elim | skip
  obtain rfl : v = _ := rx
  obtain rfl : u = _ := ry
  exact ⟨_, _, rfl, fin_scal R z rfl⟩
theorem max2_D (g : Bool) : Op1b c g rMax2 (b2R .max) := by
  intro O ρ σ H x y v u Q R rx ry z
  cases x <;> cases y <;> first | exact z.elim | skip
  obtain rfl : v = _ := rx
  obtain rfl : u = _ := ry
  exact ⟨_, _, rfl, fin_scal R z rfl⟩
/-! ### isinstance -/
def TY.name : TY → String
  | .int => "int" | .bool => "bool" | .tuple => "tuple" | .str => "str"
def tyB : TY → Bool
  | .int => true | .bool => true | _ => false
def tyI : TY → Bool
  | .int => true | _ => false
def tyS : TY → Bool
  | .str => true | _ => false
def tyT : TY → Bool
  | .tuple => true | _ => false
theorem tyx_of {O : Ow} {H : Hp} {d : D} {v : V} {P : Bool → Prop} {t : TY} (e : X.K = c.k.K) (r : Rep c.k (Al c O) H d v) (h : wpR c (isTy t d) P) : ∃ s b, TyX X.K H v (.type s) ∧ kitB s t.name = some b ∧ P b := by
  cases d <;> first | (cases t <;> exact h.elim) | skip
  · obtain rfl : v = _ := r
    exact ⟨"NoneType", false, .base .non, by cases t <;> decide +kernel, by cases t <;> exact h⟩
  · obtain rfl : v = _ := r
    refine ⟨"bool", tyB t, .base (.bl _), by cases t <;> decide +kernel, by cases t <;> exact h⟩
  · obtain rfl : v = _ := r
    refine ⟨"int", tyI t, .base (.int _), by cases t <;> decide +kernel, by cases t <;> exact h⟩
  · obtain rfl : v = _ := r
    refine ⟨"str", tyS t, .base (.str _), by cases t <;> decide +kernel, by cases t <;> exact h⟩
  · obtain ⟨p, vs, rfl, hp, r1⟩ := r
    refine ⟨"tuple", tyT t, ?_, by cases t <;> decide +kernel, by cases t <;> exact h⟩
    rcases hp with (hp | ⟨o, hp⟩) | ⟨o, its, n, hp, hc, _⟩
    · exact .base (.tup hp)
    · exact .fTuple hp
    · exact .kTuple (by rw [e]; exact hp) hc
  · obtain ⟨p, vs, rfl, _, hp, r1⟩ := r
    exact ⟨"list", false, .base (.lst hp), by cases t <;> decide +kernel, by cases t <;> exact h⟩
theorem pe_isaS {p q whole : Expr} {t : TY} {g g1 : Bool} (hk : KxOk X c.k) (hw : ∀ ta tb, PE X p ta → PE X q tb → PE X whole (tCB (rIsi X.K) (tCons ta (tCons tb tNil)))) (hp : PE X p (tS c g1 F)) (hq : PE X q (tC (.ty t.name))) :
    PE X whole (tS c g fun ρ => do let (x, ρ) ← F ρ; Cg.R.ok (.bool (← isTy t x), ρ)) := by
  refine (hw _ _ hp.lax hq).weak fun σ H Q ⟨O, ρ, R, z⟩ => ⟨O, ρ, R, (wpR_bind.mp z).mono fun ⟨x, ρ1⟩ z v H1 r1 k1 => ?_⟩
  obtain ⟨s, b, ty, kb, z⟩ := tyx_of hk.K r1.rep (wpR_bind.mp z)
  exact ⟨v, .ty t.name, .type s, .type t.name, b, rfl, .ty _, ty, kit_ty kb, z _ H1 (.scal r1.rel rfl rfl) k1⟩
end
end Cg
set_option Elab.async false
set_option linter.all false
set_option maxRecDepth 100000
set_option maxHeartbeats 4000000
namespace Cg
open PySem PySem.Spec PyProof.Rows L2 PySem.SeqAt

/-- what stands at r, to be changed -/
def OwnA (k : Kx) (A : Addr → Prop) (H : Hp) (r : Addr) : D → Prop
  | .lst es => ∃ ws, H r = some (.lst ws) ∧ Reps k A H es ws
  | .dct kvs => ∃ ps, H r = some (dctO k.w r ps) ∧ Repk k A H kvs ps
  | _ => False
/-- arguments; those that are changed lie at rs -/
def Args (k : Kx) (A : Addr → Prop) (H : Hp) : List Bool → List D → List V → List Addr → Prop
  | [], ds, vs, rs => ds = [] ∧ vs = [] ∧ rs = []
  | false :: ps, ds, vs, rs => ∃ d e v u, ds = d :: e ∧ vs = v :: u ∧ Rep k A H d v ∧ Args k A H ps e u rs
  | true :: ps, ds, vs, rs => ∃ d e u r s, ds = d :: e ∧ vs = .ref r :: u ∧ rs = r :: s ∧ OwnA k A H r d ∧ Args k A H ps e u s
/-- how the changed ones stand behind a call -/
def Outs (k : Kx) (A : Addr → Prop) (H : Hp) : List D → List Addr → Prop
  | [], rs => rs = []
  | d :: ds, rs => ∃ r s, rs = r :: s ∧ OwnA k A H r d ∧ Outs k A H ds s
/-- all but the tables and what may be changed stays -/
structure FrA (rs : List Addr) (H H' : Hp) : Prop where
  keep : ∀ a o, H a = some o → notTbl o → a ∉ rs → H' a = some o
  tbl : ∀ a ps, H a = some (.tbl ps) → ∃ more, H' a = some (.tbl (ps ++ more))
def TabsK (tb : List Addr) (tl : List (Addr × Str)) (H : Hp) : Prop := (∀ P ∈ tb, TabG H P) ∧ LamX.Tabs tl H
/-- what a def hands back -/
structure Back (k : Kx) (tb : List Addr) (tl : List (Addr × Str)) (A : Addr → Prop) (rs : List Addr) (H : Hp) (fr : Bool) (d : D) (outs : List D) (v : V) (H' : Hp) : Prop where
  fra : FrA rs H H'
  tabs : TabsK tb tl H'
  rep : Rep k (fun b => A b ∨ H b = none) H' d v
  outsOk : Outs k (fun b => A b ∨ H b = none) H' outs rs
  fresh : fr = true → d.isMut = true → ∃ a, v = .ref a ∧ H a = none ∧ OwnA k (fun b => (A b ∨ H b = none) ∧ b ≠ a) H' a d ∧ Outs k (fun b => (A b ∨ H b = none) ∧ b ≠ a) H' outs rs
/-- what a def promises -/
def spF (k : Kx) (tb : List Addr) (tl : List (Addr × Str)) (fr : Bool) (ps : List Bool) (f : List D → R (D × List D)) : Sp := fun vs H Q E => ∃ (A : Addr → Prop) (ds : List D) (rs : List Addr),
  Args k A H ps ds vs rs ∧ rs.Nodup ∧ (∀ r ∈ rs, ¬ A r) ∧ TabsK tb tl H ∧ match f ds with
  | .ok (d, outs) => ∀ v H', Back k tb tl A rs H fr d outs v H' → Q v H'
  | .exc e => ∀ dx H', FrA rs H H' → TabsK tb tl H' → E (k.xc e) dx H'
  | .bad => False
theorem Args.len {k : Kx} {A : Addr → Prop} {H : Hp} : ∀ {ps : List Bool} {ds : List D} {vs : List V} {rs : List Addr}, Args k A H ps ds vs rs → vs.length = ps.length
  | [], _, _, _, ⟨_, e, _⟩ => by rw [e]; rfl
  | false :: ps, _, _, _, ⟨d, e, v, u, _, h, _, t⟩ => by rw [h, List.length_cons, t.len]; rfl
  | true :: ps, _, _, _, ⟨d, e, u, r, s, _, h, _, _, t⟩ => by rw [h, List.length_cons, t.len]; rfl
section
variable {X : Cx} {c : Fc} {O : Ow} {ρ : Env} {σ : L2.St} {H : Hp}
/-- arguments that have been reckoned; those that are changed: their names and places -/
def ArgsAt (c : Fc) (O : Ow) (ρ : Env) (σ : L2.St) (H : Hp) : Es → List Bool → List D → List V → List (Nat × Addr) → Prop
  | .nil, ps, ds, vs, ls => ps = [] ∧ ds = [] ∧ vs = [] ∧ ls = []
  | .cons e es, ps, ds, vs, ls => match e with
    | .io i => ∃ p d ds' r vs' ls' g, ps = true :: p ∧ ds = d :: ds' ∧ vs = .ref r :: vs' ∧ ls = (i, r) :: ls' ∧ σ[i]? = some (some (.ref r)) ∧ O r = some i ∧ ρ[i]? = some (some (d, g)) ∧ ownG g = true ∧ d.isMut = true ∧ ArgsAt c O ρ σ H es p ds' vs' ls'
    | .tmp _ => False
    | _ => ∃ p d ds' v vs', ps = false :: p ∧ ds = d :: ds' ∧ vs = v :: vs' ∧ Rep c.k (Al c O) H d v ∧ ArgsAt c O ρ σ H es p ds' vs' ls
def tAr (c : Fc) (es : Es) (F : Env → R (List D × Env)) : TA := fun σ H Q => ∃ O ρ, Rel c O ρ σ H ∧ wpR c (F ρ) fun p => ∀ vs H' ps ls, Rel c O p.2 σ H' → Keep O H H' → ArgsAt c O p.2 σ H' es ps p.1 vs ls → Q vs H'
/-- the mask of arguments as written -/
def maskE : Es → List Bool
  | .nil => []
  | .cons e es => (match e with | .io _ => true | .tmp _ => true | _ => false) :: maskE es
theorem ArgsAt.mask : ∀ {es : Es} {ps : List Bool} {ds : List D} {vs : List V} {ls : List (Nat × Addr)}, ArgsAt c O ρ σ H es ps ds vs ls → ps = maskE es
  | .nil, _, _, _, _, ⟨h, _⟩ => h
  | .cons e es, _, _, _, _, h => by
    cases e <;> first
      | (obtain ⟨p, d, ds', r, vs', ls', g, h1, h2, h3, h4, _, _, _, _, _, t⟩ := h; rw [h1, t.mask]; rfl)
      | exact h.elim
      | (obtain ⟨p, d, ds', v, vs', h1, h2, h3, _, t⟩ := h; rw [h1, t.mask]; rfl)
theorem SlotOk.ownG {i g : Nat} {d : D} {v : V} (h : SlotOk c O i H d g v) (q : Cg.ownG g = true) : Own c O i H d v := by
  unfold SlotOk at h
  unfold Cg.ownG at q
  simp only [Bool.or_eq_true, beq_iff_eq] at q
  rw [if_neg (by omega), if_neg (by omega)] at h
  exact h
theorem Own.ofG {i g : Nat} {d : D} {v : V} (h : Own c O i H d v) (q : Cg.ownG g = true) : SlotOk c O i H d g v := by
  unfold SlotOk
  unfold Cg.ownG at q
  simp only [Bool.or_eq_true, beq_iff_eq] at q
  rw [if_neg (by omega), if_neg (by omega)]
  exact h
theorem Own.toA {i : Nat} {d : D} {r : Addr} (h : Own c O i H d (.ref r)) (m : d.isMut = true) : OwnA c.k (Al c O) H r d := by
  cases d <;> first | (simp [D.isMut] at m; done) | skip
  · obtain ⟨a, vs, e, _, h1, h2⟩ := h
    cases e
    exact ⟨vs, h1, h2⟩
  · obtain ⟨a, vs, e, _, h1, h2⟩ := h
    cases e
    exact ⟨vs, h1, h2⟩
theorem OwnA.toOwn {B : Addr → Prop} {i : Nat} {d : D} {r : Addr} (h : OwnA c.k B H r d) (hb : ∀ b, B b → Al c O b) (ho : O r = some i) : Own c O i H d (.ref r) := by
  cases d <;> first | exact h.elim | skip
  · obtain ⟨ws, h1, h2⟩ := h
    exact ⟨r, ws, rfl, ho, h1, Reps.mono hb _ _ h2⟩
  · obtain ⟨ws, h1, h2⟩ := h
    exact ⟨r, ws, rfl, ho, h1, Repk.mono hb _ _ h2⟩
theorem OwnA.dom {k : Kx} {B : Addr → Prop} {d : D} {r : Addr} (h : OwnA k B H r d) : (∃ xs, H r = some (.lst xs)) ∨ ∃ ps, H r = some (dctO k.w r ps) := by
  cases d <;> first | exact h.elim | skip
  · obtain ⟨ws, h1, _⟩ := h; exact .inl ⟨ws, h1⟩
  · obtain ⟨ws, h1, _⟩ := h; exact .inr ⟨ws, h1⟩
theorem ArgsAt.args (R : Rel c O ρ σ H) : ∀ {es : Es} {ps : List Bool} {ds : List D} {vs : List V} {ls : List (Nat × Addr)}, ArgsAt c O ρ σ H es ps ds vs ls → Args c.k (Al c O) H ps ds vs (ls.map (·.2))
  | .nil, _, _, _, _, ⟨h1, h2, h3, h4⟩ => by subst h1 h2 h3 h4; exact ⟨rfl, rfl, rfl⟩
  | .cons e es, _, _, _, _, h => by
    cases e <;> first
      | (obtain ⟨p, d, ds', r, vs', ls', g, h1, h2, h3, h4, h5, h6, h7, h8, h9, t⟩ := h
         subst h1 h2 h3 h4
         obtain ⟨v, e1, e2⟩ := R.slot _ d g h7
         rw [h5] at e1
         cases e1
         exact ⟨d, ds', vs', r, _, rfl, rfl, rfl, (e2.ownG h8).toA h9, t.args R⟩)
      | exact h.elim
      | (obtain ⟨p, d, ds', v, vs', h1, h2, h3, h4, t⟩ := h
         subst h1 h2 h3
         exact ⟨d, ds', v, vs', rfl, rfl, h4, t.args R⟩)
theorem ArgsAt.own : ∀ {es : Es} {ps : List Bool} {ds : List D} {vs : List V} {ls : List (Nat × Addr)}, ArgsAt c O ρ σ H es ps ds vs ls → ∀ p ∈ ls, O p.2 = some p.1 ∧ σ[p.1]? = some (some (.ref p.2)) ∧ ∃ d g, ρ[p.1]? = some (some (d, g)) ∧ ownG g = true
  | .nil, _, _, _, _, ⟨_, _, _, h4⟩ => fun p hp => by rw [h4] at hp; cases hp
  | .cons e es, _, _, _, _, h => by
    cases e <;> first
      | (obtain ⟨p, d, ds', r, vs', ls', g, h1, h2, h3, h4, h5, h6, h7, h8, h9, t⟩ := h
         subst h4
         intro q hq
         rcases List.mem_cons.mp hq with z | z
         · rw [z]; exact ⟨h6, h5, d, g, h7, h8⟩
         · exact t.own q z)
      | exact h.elim
      | (obtain ⟨p, d, ds', v, vs', h1, h2, h3, h4, t⟩ := h; exact t.own)
/-- the names that are handed over to be changed -/
def ioE : Es → List Nat
  | .nil => []
  | .cons e es => match e with
    | .io i => i :: ioE es
    | _ => ioE es
theorem ArgsAt.io : ∀ {es : Es} {ps : List Bool} {ds : List D} {vs : List V} {ls : List (Nat × Addr)}, ArgsAt c O ρ σ H es ps ds vs ls → ls.map (·.1) = ioE es
  | .nil, _, _, _, _, ⟨_, _, _, h4⟩ => by rw [h4]; rfl
  | .cons e es, _, _, _, _, h => by
    cases e <;> first
      | (obtain ⟨p, d, ds', r, vs', ls', g, h1, h2, h3, h4, h5, h6, h7, h8, h9, t⟩ := h
         subst h4
         simp only [List.map_cons, ioE, t.io])
      | exact h.elim
      | (obtain ⟨p, d, ds', v, vs', h1, h2, h3, h4, t⟩ := h; simp only [ioE]; exact t.io)
/-- the names behind a call -/
def putAll (ρ : Env) : List (Nat × D) → Env
  | [] => ρ
  | p :: ps => putAll (putS ρ p.1 p.2) ps
theorem outsS_eq : ∀ {es : Es} {ps : List Bool} {ds : List D} {vs : List V} {ls : List (Nat × Addr)} {outs : List D} {ρ' : Env}, ArgsAt c O ρ σ H es ps ds vs ls → outs.length = ls.length → outsS es outs ρ' = putAll ρ' ((ls.map (·.1)).zip outs)
  | .nil, _, _, _, _, outs, _, ⟨_, _, _, h4⟩, _ => by subst h4; cases outs <;> rfl
  | .cons e es, _, _, _, _, outs, _, h, hl => by
    cases e <;> first
      | (obtain ⟨p, d, ds', r, vs', ls', g, h1, h2, h3, h4, h5, h6, h7, h8, h9, t⟩ := h
         subst h4
         cases outs with
         | nil => simp at hl
         | cons o outs =>
           simp only [List.map_cons, List.zip_cons_cons, outsS, putAll]
           exact outsS_eq t (by simpa using hl))
      | exact h.elim
      | (obtain ⟨p, d, ds', v, vs', h1, h2, h3, h4, t⟩ := h
         show outsS es outs _ = _
         exact outsS_eq t hl)
theorem putS_len (ρ : Env) (i : Nat) (d : D) : (putS ρ i d).length = ρ.length := by
  unfold putS
  split
  · simp
  · rfl
theorem putS_at {ρ : Env} {i j : Nat} {d d' : D} {g : Nat} (h : (putS ρ i d)[j]? = some (some (d', g))) : (i = j ∧ d' = d ∧ ∃ e, ρ[i]? = some (some (e, g))) ∨ (i ≠ j ∧ ρ[j]? = some (some (d', g))) := by
  unfold putS at h
  split at h
  · rename_i e g' q
    by_cases z : i = j
    · subst z
      rw [List.getElem?_set_self (by exact (List.getElem?_eq_some_iff.mp q).1)] at h
      cases h
      exact .inl ⟨rfl, rfl, e, q⟩
    · rw [List.getElem?_set_ne z] at h
      exact .inr ⟨z, h⟩
  · rename_i q
    by_cases z : i = j
    · subst z
      exact absurd h (by intro h; exact q _ _ h)
    · exact .inr ⟨z, h⟩
theorem putS_same {ρ : Env} {i : Nat} {d e : D} {g : Nat} (h : ρ[i]? = some (some (e, g))) : (putS ρ i d)[i]? = some (some (d, g)) := by
  unfold putS
  rw [h]
  exact List.getElem?_set_self (List.getElem?_eq_some_iff.mp h).1
theorem putS_ne {ρ : Env} {i j : Nat} {d : D} (h : i ≠ j) : (putS ρ i d)[j]? = ρ[j]? := by
  unfold putS
  split
  · exact List.getElem?_set_ne h
  · rfl
theorem putAll_len : ∀ (ρ : Env) (l : List (Nat × D)), (putAll ρ l).length = ρ.length
  | _, [] => rfl
  | ρ, p :: ps => by rw [putAll, putAll_len, putS_len]
/-- a name behind a call: as it was, or as it was handed back -/
theorem putAll_at : ∀ {l : List (Nat × D)} {ρ : Env} {j : Nat} {d : D} {g : Nat}, (l.map (·.1)).Nodup → (putAll ρ l)[j]? = some (some (d, g)) → ((j, d) ∈ l ∧ ∃ e, ρ[j]? = some (some (e, g))) ∨ (j ∉ l.map (·.1) ∧ ρ[j]? = some (some (d, g)))
  | [], _, _, _, _, _, h => .inr ⟨by simp, h⟩
  | (i, x) :: ps, ρ, j, d, g, hn, h => by
    rw [List.map_cons, List.nodup_cons] at hn
    rcases putAll_at hn.2 h with ⟨h1, e, h2⟩ | ⟨h1, h2⟩
    · rcases putS_at h2 with ⟨z, _⟩ | ⟨z, h3⟩
      · exact absurd (z ▸ List.mem_map.mpr ⟨_, h1, rfl⟩) hn.1
      · exact .inl ⟨List.mem_cons_of_mem _ h1, e, h3⟩
    · rcases putS_at h2 with ⟨z, z2, e, h3⟩ | ⟨z, h3⟩
      · refine .inl ⟨?_, e, z ▸ h3⟩
        rw [← z, z2]
        exact List.mem_cons_self
      · refine .inr ⟨?_, h3⟩
        simp only [List.map_cons, List.mem_cons, not_or]
        exact ⟨fun q => z q.symm, h1⟩
theorem Outs.at {k : Kx} {B : Addr → Prop} : ∀ {outs : List D} {rs : List Addr}, Outs k B H outs rs → outs.length = rs.length
  | [], _, h => by rw [show _ = [] from h]; rfl
  | d :: ds, _, ⟨r, s, e, _, t⟩ => by rw [e, List.length_cons, List.length_cons, t.at]
theorem Outs.mem {k : Kx} {B : Addr → Prop} : ∀ {outs : List D} {ls : List (Nat × Addr)} {j : Nat} {d : D}, Outs k B H outs (ls.map (·.2)) → (j, d) ∈ (ls.map (·.1)).zip outs → ∃ r, (j, r) ∈ ls ∧ OwnA k B H r d
  | [], _, _, _, _, h => by simp at h
  | o :: os, [], _, _, ⟨r, s, e, _, t⟩, _ => by cases e
  | o :: os, l :: ls, j, d, ⟨r, s, e, h1, t⟩, h => by
    rw [List.map_cons] at e
    cases e
    rw [List.map_cons, List.zip_cons_cons] at h
    rcases List.mem_cons.mp h with z | z
    · cases z; exact ⟨l.2, List.mem_cons_self, h1⟩
    · obtain ⟨r, h2, h3⟩ := Outs.mem t z
      exact ⟨r, List.mem_cons_of_mem _ h2, h3⟩
theorem Outs.of {k : Kx} {B : Addr → Prop} : ∀ {outs : List D} {rs : List Addr} {r : Addr}, Outs k B H outs rs → r ∈ rs → ∃ d, OwnA k B H r d
  | [], _, _, h, hr => by rw [show _ = [] from h] at hr; cases hr
  | o :: os, _, r, ⟨r', s, e, h1, t⟩, hr => by
    subst e
    rcases List.mem_cons.mp hr with z | z
    · rw [z]; exact ⟨o, h1⟩
    · exact t.of z
/-- the names and the heap behind a call -/
theorem Rel.after {O' : Ow} {H' : Hp} {ls : List (Nat × Addr)} {outs : List D} {B : Addr → Prop} (R : Rel c O ρ σ H) (hl : ∀ p ∈ ls, O p.2 = some p.1 ∧ σ[p.1]? = some (some (.ref p.2)) ∧ ∃ d g, ρ[p.1]? = some (some (d, g)) ∧ ownG g = true) (hn : (ls.map (·.1)).Nodup)
    (h1 : ∀ b i, O b = some i → O' b = some i) (h2 : ∀ b, H b ≠ none → O' b = O b) (h3 : ∀ b i, O' b = some i → O b ≠ some i → c.H0 b = none ∧ ((∃ xs, H' b = some (.lst xs)) ∨ ∃ ps, H' b = some (dctO c.k.w b ps)))
    (fra : FrA (ls.map (·.2)) H H') (tabs : TabsK c.tb c.tl H') (ho : Outs c.k B H' outs (ls.map (·.2))) (hB : ∀ b, B b → Al c O' b) : Rel c O' (putAll ρ ((ls.map (·.1)).zip outs)) σ H' := by
  have lo : outs.length = (ls.map (·.1)).length := by rw [ho.at, List.length_map, List.length_map]
  have zn : (((ls.map (·.1)).zip outs).map (·.1)) = ls.map (·.1) := by rw [List.map_fst_zip (by omega)]
  have nin : ∀ {b : Addr}, O b = none → b ∉ ls.map (·.2) := fun {b} q hb => by
    obtain ⟨p, hp, e⟩ := List.mem_map.mp hb
    rw [← e, (hl p hp).1] at q
    cases q
  have ka : KeepA (Al c O) H H' := fun b o e n z => fra.keep b o e n (nin (z.elim (fun z => z.1) fun ⟨ys, z⟩ => R.nown e z))
  have toO : ∀ b, (Al c O b ∧ H b ≠ none) → Al c O' b := fun b z => ⟨by rw [h2 b z.2]; exact z.1.1, z.1.2⟩
  have rep : ∀ {d : D} {v : V}, Rep c.k (Al c O) H d v → Rep c.k (Al c O') H' d v := fun r => Rep.keep (fun b o e n z => ka b o e n (z.imp (fun z => z.1) id)) _ _ (Rep.restrict _ _ r) |> Rep.mono toO _ _
  have reps : ∀ {d : List D} {v : List V}, Reps c.k (Al c O) H d v → Reps c.k (Al c O') H' d v := fun r => Reps.keep (fun b o e n z => ka b o e n (z.imp (fun z => z.1) id)) _ _ (Reps.restrict _ _ r) |> Reps.mono toO _ _
  have repk : ∀ {d : List (D × D)} {v : List (NestedKey × V × V)}, Repk c.k (Al c O) H d v → Repk c.k (Al c O') H' d v := fun r => Repk.keep (fun b o e n z => ka b o e n (z.imp (fun z => z.1) id)) _ _ (Repk.restrict _ _ r) |> Repk.mono toO _ _
  have other : ∀ {b : Addr} {i : Nat}, O b = some i → i ∉ ls.map (·.1) → b ∉ ls.map (·.2) := fun {b i} q hi hb => by
    obtain ⟨p, hp, e⟩ := List.mem_map.mp hb
    rw [← e, (hl p hp).1] at q
    cases q
    exact hi (List.mem_map.mpr ⟨p, hp, rfl⟩)
  refine ⟨by rw [putAll_len]; exact R.len, fun i d g h => ?_, fun a i h => ?_, fun a i h => ?_, fun a o h n f => ?_, fun a ps h => ?_, fun a f => ?_, fun p hp => ?_, tabs, fun a q => ?_, R.zed0⟩
  · rcases putAll_at (by rw [zn]; exact hn) h with ⟨q1, e, q2⟩ | ⟨q1, q2⟩
    · obtain ⟨r, m, oa⟩ := ho.mem q1
      obtain ⟨e1, e2, d2, g2, e3, e4⟩ := hl _ m
      rw [q2] at e3
      cases e3
      exact ⟨_, e2, (oa.toOwn hB (h1 _ _ e1)).ofG e4⟩
    · rw [zn] at q1
      obtain ⟨v, e1, e2⟩ := R.slot i d g q2
      refine ⟨v, e1, ?_⟩
      unfold SlotOk at e2 ⊢
      split
      · rename_i z
        rw [if_pos z] at e2
        exact rep e2
      · rename_i z
        rw [if_neg z] at e2
        split
        · rename_i z
          rw [if_pos z] at e2
          obtain ⟨ds, a, vs, as, f1, f2, f3, f4, f5, f6⟩ := e2
          refine ⟨ds, a, vs, as, f1, f2, h1 _ _ f3, fra.keep _ _ f4 (fun _ z => by cases z) (other f3 q1), ?_, f6⟩
          have rows : ∀ {ds : List D} {vs : List V} {as : List Addr}, Rows c O i H ds vs as → Rows c O' i H' ds vs as := by
            intro ds
            induction ds with
            | nil => exact fun r => r
            | cons d ds ih => exact fun ⟨b, r, bs, es, ws, f1, f2, f3, f4, f5, f6, f7⟩ => ⟨b, r, bs, es, ws, f1, f2, f3, h1 _ _ f4, fra.keep _ _ f5 (fun _ z => by cases z) (other f4 q1), reps f6, ih f7⟩
          exact rows f5
        · rename_i z
          rw [if_neg z] at e2
          cases d with
          | lst ds =>
            obtain ⟨a, vs, f1, f2, f3, f4⟩ := e2
            exact ⟨a, vs, f1, h1 _ _ f2, fra.keep _ _ f3 (fun _ z => by cases z) (other f2 q1), reps f4⟩
          | dct kvs =>
            obtain ⟨a, ps, f1, f2, f3, f4⟩ := e2
            exact ⟨a, ps, f1, h1 _ _ f2, fra.keep _ _ f3 (fun _ z => by cases z) (other f2 q1), repk f4⟩
          | _ => exact rep e2
  · by_cases z : O a = some i
    · by_cases m : a ∈ ls.map (·.2)
      · obtain ⟨d, oa⟩ := ho.of m
        exact oa.dom
      · rcases R.dom a i z with ⟨xs, w⟩ | ⟨ps, w⟩
        · exact .inl ⟨xs, fra.keep _ _ w (fun _ z => by cases z) m⟩
        · exact .inr ⟨ps, fra.keep _ _ w (fun _ z => by cases z) m⟩
    · exact (h3 a i h z).2
  · by_cases z : O a = some i
    · exact R.own a i z
    · exact .inr (h3 a i h z).1
  · refine fra.keep a o (R.ent a o h n f) n fun m => ?_
    obtain ⟨p, hp, e⟩ := List.mem_map.mp m
    rcases R.own a p.1 (by rw [← e]; exact (hl p hp).1) with z | z
    · exact f z
    · rw [z] at h; cases h
  · obtain ⟨m, z⟩ := R.tbl a ps h
    obtain ⟨m', z'⟩ := fra.tbl a _ z
    exact ⟨m ++ m', by rw [z', Array.append_assoc]⟩
  · obtain ⟨i, z, w⟩ := R.root a f
    exact ⟨i, h1 _ _ z, w⟩
  · obtain ⟨⟨d, z1⟩, z2, z3⟩ := R.par p hp
    refine ⟨?_, z2, h1 _ _ z3⟩
    -- the name stays the caller's
    have flag : ∀ (l : List (Nat × D)) (ρ : Env) (d : D), ρ[p.1]? = some (some (d, 3)) → ∃ d, (putAll ρ l)[p.1]? = some (some (d, 3)) := by
      intro l
      induction l with
      | nil => exact fun ρ d h => ⟨d, h⟩
      | cons q l ih =>
        intro ρ d h
        by_cases z : q.1 = p.1
        · exact ih (putS ρ q.1 q.2) q.2 (by rw [z]; exact putS_same h)
        · exact ih (putS ρ q.1 q.2) d (by rw [putS_ne z]; exact h)
    exact flag _ ρ d z1
  · obtain ⟨z1, xs, z2⟩ := R.zed a q
    exact ⟨by rw [h2 a (by rw [z2]; simp)]; exact z1, xs, fra.keep _ _ z2 (fun _ z => by cases z) (nin z1)⟩
end
end Cg
set_option Elab.async false
set_option linter.all false
set_option maxRecDepth 100000
set_option maxHeartbeats 4000000
namespace Cg
open PySem PySem.Spec PyProof.Rows L2 PySem.SeqAt
section
variable {X : Cx} {c : Fc} {F : Env → R (D × Env)} {G : Env → R (List D × Env)}
theorem ownS_eq {O : Ow} {ρ : Env} {σ : L2.St} {H : Hp} {i : Nat} {P : D → Prop} (R : Rel c O ρ σ H) (h : wpR c (ownS ρ i) P) : ∃ d g r, ρ[i]? = some (some (d, g)) ∧ ownG g = true ∧ d.isMut = true ∧ σ[i]? = some (some (.ref r)) ∧ O r = some i ∧ P d := by
  unfold ownS at h
  have h := wpR_bind.mp h
  unfold getS at h
  split at h
  · rename_i p e
    obtain ⟨d, g⟩ := p
    obtain ⟨z, h⟩ := (show wpR c (if (ownG g && d.isMut) = true then Cg.R.ok d else Cg.R.bad) P from h).if_
    rw [Bool.and_eq_true] at z
    obtain ⟨v, e1, e2⟩ := R.slot i d g e
    have ow := e2.ownG z.1
    cases d <;> first | (simp [D.isMut] at z; done) | skip
    · obtain ⟨r, vs, q, q2, _⟩ := ow
      subst q
      exact ⟨_, g, r, e, z.1, z.2, e1, q2, h⟩
    · obtain ⟨r, vs, q, q2, _⟩ := ow
      subst q
      exact ⟨_, g, r, e, z.1, z.2, e1, q2, h⟩
  · exact h.elim
theorem ar_nil : PA X [] (tAr c .nil fun ρ => .ok ([], ρ)) := pa_nil.weak fun σ H Q ⟨O, ρ, R, q⟩ => q [] H [] [] R (Keep.refl O H) ⟨rfl, rfl, rfl, rfl⟩
/-- an argument that is not handed over to be changed -/
def plainArg : E → Bool
  | .io _ => false
  | .tmp _ => false
  | _ => true
theorem ar_cons {p : Expr} {ps : List Expr} {a : E} {es : Es} {g : Bool} (ha : plainArg a = true) (hp : PE X p (tS c g F)) (hs : PA X ps (tAr c es G)) (hst : starEach (p :: ps) X.env = (false, eval p X.env) :: starEach ps X.env) :
    PA X (p :: ps) (tAr c (.cons a es) fun ρ => do let (d, ρ) ← F ρ; let (ds, ρ) ← G ρ; .ok (d :: ds, ρ)) := by
  refine (pa_cons hp.lax hs hst).weak fun σ H Q ⟨O, ρ, R, q⟩ => ⟨O, ρ, R, (wpR_bind.mp q).mono fun ⟨d, ρ1⟩ q v H1 r1 k1 => ⟨O, ρ1, r1.rel, (wpR_bind.mp q).mono fun ⟨ds, ρ2⟩ q vs H2 m ls R2 k2 at2 => ?_⟩⟩
  refine q (v :: vs) H2 (false :: m) ls R2 (k1.trans k2) ?_
  have rd := r1.rel.rep k2 r1.rep
  cases a <;> first | (simp [plainArg] at ha; done) | exact ⟨m, d, ds, v, vs, rfl, rfl, rfl, rd, at2⟩
theorem ar_io {ps : List Expr} {i : Nat} {x : Str} {pos : Pos} {es : Es} (hp : PE X (.Name x pos) (tVar i)) (hs : PA X ps (tAr c es G)) (hst : starEach (.Name x pos :: ps) X.env = (false, eval (.Name x pos) X.env) :: starEach ps X.env) :
    PA X (.Name x pos :: ps) (tAr c (.cons (.io i) es) fun ρ => do let _ ← ownS ρ i; let (ds, ρ) ← G ρ; .ok ((← ownS ρ i) :: ds, ρ)) := by
  refine (pa_cons hp hs hst).weak fun σ H Q ⟨O, ρ, R, q⟩ => ?_
  obtain ⟨d0, g0, r, _, _, _, e1, e2, q⟩ := ownS_eq R (wpR_bind.mp q)
  refine ⟨.ref r, e1, O, ρ, R, (wpR_bind.mp q).mono fun ⟨ds, ρ2⟩ q vs H2 m ls R2 k2 at2 => ?_⟩
  obtain ⟨d, g, r', f1, f2, f3, f4, f5, q⟩ := ownS_eq R2 (wpR_bind.mp q)
  rw [e1] at f4
  cases f4
  exact q (.ref r :: vs) H2 (true :: m) ((i, r) :: ls) R2 k2 ⟨m, d, ds, r, vs, ls, g, rfl, rfl, rfl, rfl, e1, e2, f1, f2, f3, at2⟩
theorem nodup_of_own {O : Ow} : ∀ {ls : List (Nat × Addr)}, (∀ p ∈ ls, O p.2 = some p.1) → (ls.map (·.1)).Nodup → (ls.map (·.2)).Nodup
  | [], _, _ => List.nodup_nil
  | l :: ls, h, n => by
    rw [List.map_cons, List.nodup_cons] at n ⊢
    refine ⟨fun hm => ?_, nodup_of_own (fun p hp => h p (List.mem_cons_of_mem _ hp)) n.2⟩
    obtain ⟨p, hp, e⟩ := List.mem_map.mp hm
    have e1 := h l List.mem_cons_self
    have e2 := h p (List.mem_cons_of_mem _ hp)
    rw [e, e1] at e2
    exact n.1 (List.mem_map.mpr ⟨p, hp, (Option.some.inj e2).symm⟩)
theorem FrA.keepO {O : Ow} {H H' : Hp} {rs : List Addr} (f : FrA rs H H') (h : ∀ r ∈ rs, O r ≠ none) : Keep O H H' := fun a o e n z => f.keep a o e n fun m => h a m z
theorem pe_callS {p0 : Expr} {ps0 : List Expr} {as : Es} {g : List D → R (D × List D)} {lv : Nat} {f : Addr} {fd : FuncData} {ps : List Str} {fr : Bool} {x : Str} {p pos : Pos}
    (hp : PA X (p0 :: ps0) (tAr c as G)) {CX : CXT} (Fn : FnOk X.prog X.w X.K X.mg X.base CX lv f fd ps (spF c.k c.tb c.tl fr (maskE as) g)) (hr : Room lv X.A) (hg : Gl X x) (hm : X.mg x = some (.ref f)) (kp : PySem.W.keepIn X.K (.ref f) = true) (hb : Binds X.K fd ps [])
    (tk : Passes CX X c.E) (hn : (ioE as).Nodup) (hdb : (x == ("__debug__" : Str)) = false) (he : starEach (p0 :: ps0) X.env = (false, eval p0 X.env) :: starEach ps0 X.env) (hpl : (backTo pos (starEach ps0 X.env)).any (·.1) = false) :
    PE X (.Call (.Name x p) (p0 :: ps0) [] pos) (tS c fr fun ρ => do let (ds, ρ) ← G ρ; let (d, outs) ← g ds; .ok (d, outsS as outs ρ)) := by
  refine (pe_call (E := c.E) Fn hr hg hm kp hb .nil tk hp hdb he hpl).weak fun σ H Q ⟨O, ρ, R, z⟩ => ⟨O, ρ, R, (wpR_bind.mp z).mono fun ⟨ds, ρ1⟩ z vs H1 m ls R1 k1 at1 => ?_⟩
  have hl := at1.own
  have em := at1.mask
  have ei := at1.io
  rw [← ei] at hn
  have rn : (ls.map (·.2)).Nodup := nodup_of_own (fun p hp => (hl p hp).1) hn
  have ro : ∀ r ∈ ls.map (·.2), O r ≠ none := fun r hr => by
    obtain ⟨p, hp, e⟩ := List.mem_map.mp hr
    rw [← e, (hl p hp).1]
    simp
  show spF c.k c.tb c.tl fr (maskE as) g (vs ++ []) H1 Q c.E
  rw [List.append_nil]
  refine ⟨Al c O, ds, ls.map (·.2), by rw [← em]; exact at1.args R1, rn, fun r hr q => ro r hr q.1, R1.tabs, ?_⟩
  have z := wpR_bind.mp z
  revert z
  cases g ds with
  | bad => exact id
  | exc e =>
    intro z dx H' fra tabs
    refine z dx H' ⟨fun a o h n f => ?_, fun a ps h => ?_, tabs⟩
    · refine fra.keep a o (R1.ent a o h n f) n fun m => ?_
      obtain ⟨q, hq, e'⟩ := List.mem_map.mp m
      rcases R1.own a q.1 (by rw [← e']; exact (hl q hq).1) with y | y
      · exact f y
      · rw [y] at h; cases h
    · obtain ⟨m, y⟩ := R1.tbl a ps h
      obtain ⟨m', y'⟩ := fra.tbl a _ y
      exact ⟨m ++ m', by rw [y', Array.append_assoc]⟩
  | ok r =>
    obtain ⟨d, outs⟩ := r
    intro z v H' b
    have toAl : ∀ x, (Al c O x ∨ H1 x = none) → Al c O x := fun x q => q.elim id R1.alNew
    have oe : outsS as outs ρ1 = putAll ρ1 ((ls.map (·.1)).zip outs) := outsS_eq at1 (by rw [b.outsOk.at, List.length_map])
    have z : ∀ v H', Res fr c H O (outsS as outs ρ1) σ H' d v → Keep O H H' → Q v H' := z
    rw [oe] at z
    have kO := b.fra.keepO ro
    refine z v H' ⟨?_, Rep.mono toAl _ _ b.rep, fun hf hm => ?_⟩ (k1.trans kO)
    · exact R1.after hl hn (fun _ _ h => h) (fun _ _ => rfl) (fun b i h1 h2 => absurd h1 h2) b.fra b.tabs b.outsOk toAl
    · obtain ⟨a, e1, e2, e3, e4⟩ := b.fresh hf hm
      have nO := R1.onew e2
      have toAl2 : ∀ t x, ((Al c O x ∨ H1 x = none) ∧ x ≠ a) → Al c (setO O a t) x := fun t x q => ⟨by rw [setO_ne q.2]; exact (toAl x q.1).1, (toAl x q.1).2⟩
      refine ⟨a, e1, nO, R1.grow e2, (New.of e2).lower k1 nO, fun t => ⟨?_, by rw [e1]; exact e3.toOwn (toAl2 t) setO_same⟩⟩
      refine R1.after hl hn (fun x i h => ?_) (fun x h => setO_ne fun q => h (by rw [q]; exact e2)) (fun x i h1 h2 => ?_) b.fra b.tabs e4 (toAl2 t)
      · rw [setO_ne fun q => by rw [q, nO] at h; cases h]
        exact h
      · by_cases q : x = a
        · rw [q]; exact ⟨R1.grow e2, e3.dom⟩
        · rw [setO_ne q] at h1
          exact absurd h1 h2
end
end Cg
set_option Elab.async false
set_option linter.all false
set_option maxRecDepth 100000
set_option maxHeartbeats 4000000
namespace Cg
open PySem PySem.Spec PyProof.Rows L2 PySem.SeqAt

/-! ### statements: what stays -/
def Stay (O : Ow) (H : Hp) (O' : Ow) (H' : Hp) : Prop := ∀ a o, H a = some o → notTbl o → O a = none → O' a = none ∧ H' a = some o
theorem Stay.refl (O : Ow) (H : Hp) : Stay O H O H := fun _ _ h _ z => ⟨z, h⟩
theorem Stay.trans {O O1 O2 : Ow} {H H1 H2 : Hp} (a : Stay O H O1 H1) (b : Stay O1 H1 O2 H2) : Stay O H O2 H2 := fun x o h n z => b x o (a x o h n z).2 n (a x o h n z).1
theorem Keep.stay {O : Ow} {H H' : Hp} (k : Keep O H H') : Stay O H O H' := fun a o h n z => ⟨z, k a o h n z⟩
section
variable {k : Kx} {A : Addr → Prop} {H : Hp}
mutual
/-- only what is tracked, and no table -/
theorem Rep.narrow : ∀ (d : D) (v : V), Rep k A H d v → Rep k (fun b => A b ∧ ∃ o, H b = some o ∧ notTbl o) H d v
  | .non, _, r => r
  | .bool _, _, r => r
  | .int _, _, r => r
  | .str _, _, r => r
  | .tup ds, _, ⟨a, vs, e, s, r⟩ => ⟨a, vs, e, s, Reps.narrow ds vs r⟩
  | .lst ds, _, ⟨a, vs, e, z, s, r⟩ => ⟨a, vs, e, ⟨z, _, s, fun _ q => by cases q⟩, s, Reps.narrow ds vs r⟩
  | .dct kvs, _, ⟨a, ps, e, z, s, r⟩ => ⟨a, ps, e, ⟨z, _, s, fun _ q => by cases q⟩, s, Repk.narrow kvs ps r⟩
  | .exc c, _, ⟨a, t, e, s, z⟩ => ⟨a, t, e, s, z.imp id fun z => ⟨⟨z.1, _, z.2, fun _ q => by cases q⟩, z.2⟩⟩
  | .rep _, _, r => r
  | .scr _, _, ⟨a, e, s⟩ => ⟨a, e, s.imp (fun z => ⟨⟨z.1, _, z.2, fun _ q => by cases q⟩, z.2⟩) id⟩
theorem Reps.narrow : ∀ (ds : List D) (vs : List V), Reps k A H ds vs → Reps k (fun b => A b ∧ ∃ o, H b = some o ∧ notTbl o) H ds vs
  | [], _, r => r
  | d :: ds, _, ⟨v, r, e, h1, h2⟩ => ⟨v, r, e, Rep.narrow d v h1, Reps.narrow ds r h2⟩
theorem Repk.narrow : ∀ (ds : List (D × D)) (vs : List (NestedKey × V × V)), Repk k A H ds vs → Repk k (fun b => A b ∧ ∃ o, H b = some o ∧ notTbl o) H ds vs
  | [], _, r => r
  | p :: ds, _, ⟨x, y, r, e, h1, h2, h3⟩ => ⟨x, y, r, e, Rep.narrow p.1 x h1, Rep.narrow p.2 y h2, Repk.narrow ds r h3⟩
end
end
section
variable {X : Cx} {c : Fc} {O O' : Ow} {ρ : Env} {σ : L2.St} {H H' : Hp}
theorem Rel.keepS (R : Rel c O ρ σ H) (s : Stay O H O' H') : KeepA (fun b => Al c O b ∧ ∃ o, H b = some o ∧ notTbl o) H H' := fun b o h n z => (s b o h n (by
  rcases z with z | ⟨ys, z⟩
  · exact z.1.1
  · exact R.nown h z)).2
theorem Rel.repS (R : Rel c O ρ σ H) (s : Stay O H O' H') {d : D} {v : V} (r : Rep c.k (Al c O) H d v) : Rep c.k (Al c O') H' d v :=
  Rep.mono (fun b ⟨z, o, h, n⟩ => ⟨(s b o h n z.1).1, z.2⟩) d v (Rep.keep (R.keepS s) d v (Rep.narrow d v r))
theorem Rel.repsS (R : Rel c O ρ σ H) (s : Stay O H O' H') {d : List D} {v : List V} (r : Reps c.k (Al c O) H d v) : Reps c.k (Al c O') H' d v :=
  Reps.mono (fun b ⟨z, o, h, n⟩ => ⟨(s b o h n z.1).1, z.2⟩) d v (Reps.keep (R.keepS s) d v (Reps.narrow d v r))
theorem SlotOk.moveO {i g : Nat} {d : D} {v : V} (ha : ∀ b, Al c O b → Al c O' b) (ho : ∀ b, O b = some i → O' b = some i) (h : SlotOk c O i H d g v) : SlotOk c O' i H d g v := by
  unfold SlotOk at h ⊢
  split
  · rename_i z
    rw [if_pos z] at h
    exact Rep.mono ha _ _ h
  · rename_i z
    rw [if_neg z] at h
    split
    · rename_i z
      rw [if_pos z] at h
      obtain ⟨ds, a, vs, as, e1, e2, e3, e4, e5, e6⟩ := h
      refine ⟨ds, a, vs, as, e1, e2, ho _ e3, e4, ?_, e6⟩
      have rows : ∀ {ds : List D} {vs : List V} {as : List Addr}, Rows c O i H ds vs as → Rows c O' i H ds vs as := by
        intro ds
        induction ds with
        | nil => exact fun r => r
        | cons d ds ih => exact fun ⟨b, r, bs, es, ws, f1, f2, f3, f4, f5, f6, f7⟩ => ⟨b, r, bs, es, ws, f1, f2, f3, ho _ f4, f5, Reps.mono ha _ _ f6, ih f7⟩
      exact rows e5
    · rename_i z
      rw [if_neg z] at h
      cases d with
      | lst ds =>
        obtain ⟨a, vs, e1, e2, e3, e4⟩ := h
        exact ⟨a, vs, e1, ho _ e2, e3, Reps.mono ha _ _ e4⟩
      | dct kvs =>
        obtain ⟨a, ps, e1, e2, e3, e4⟩ := h
        exact ⟨a, ps, e1, ho _ e2, e3, Repk.mono ha _ _ e4⟩
      | _ => exact Rep.mono ha _ _ h
theorem notPar (R : Rel c O ρ σ H) {i : Nat} {d : D} {g : Nat} (e : ρ[i]? = some (some (d, g))) (hg : g ≠ 3) : ∀ p ∈ c.pr, p.1 ≠ i := fun p hp q => by
  obtain ⟨⟨d', e'⟩, _⟩ := R.par p hp
  rw [q, e] at e'
  cases e'
  exact hg rfl
/-- what a name owns passes to another, the name goes -/
theorem Rel.ownOut (R : Rel c O ρ σ H) {i : Nat} {d : D} {g : Nat} (e : ρ[i]? = some (some (d, g))) (hg : g ≠ 3) (h1 : ∀ b, O b ≠ some i → O' b = O b) : Rel c O' (ρ.set i none) σ H := by
  have np := notPar R e hg
  have hal : ∀ b, Al c O b → Al c O' b := fun b z => ⟨by rw [h1 b (by rw [z.1]; simp)]; exact z.1, z.2⟩
  have ho : ∀ b j, j ≠ i → O b = some j → O' b = some j := fun b j n z => by rw [h1 b (by rw [z]; simpa using n)]; exact z
  refine ⟨by simpa using R.len, fun j d' g' q => ?_, fun a t q => ?_, fun a t q => ?_, R.ent, R.tbl, fun a f => ?_, fun p hp => ?_, R.tabs, fun a q => ?_, R.zed0⟩
  · by_cases z : i = j
    · subst z
      by_cases hl : i < ρ.length
      · rw [List.getElem?_set_self hl] at q; cases q
      · rw [List.getElem?_eq_none (by simpa using hl)] at q; cases q
    · rw [List.getElem?_set_ne z] at q
      obtain ⟨v, e1, e2⟩ := R.slot j d' g' q
      exact ⟨v, e1, e2.moveO hal fun b => ho b j (fun y => z y.symm)⟩
  · by_cases z : O a = some i
    · exact R.dom a i z
    · rw [h1 a z] at q; exact R.dom a t q
  · by_cases z : O a = some i
    · exact R.own a i z
    · rw [h1 a z] at q; exact R.own a t q
  · obtain ⟨j, e1, e2⟩ := R.root a f
    exact ⟨j, ho a j (np _ e2) e1, e2⟩
  · obtain ⟨⟨d', e1⟩, e2, e3⟩ := R.par p hp
    refine ⟨⟨d', ?_⟩, e2, ho _ _ (np p hp) e3⟩
    rw [List.getElem?_set_ne fun y => np p hp y.symm]
    exact e1
  · obtain ⟨z1, z2⟩ := R.zed a q
    exact ⟨by rw [h1 a (by rw [z1]; simp)]; exact z1, z2⟩
/-- what a name owns is not the entry's -/
theorem Rel.ownNew (R : Rel c O ρ σ H) {i : Nat} {d : D} {g : Nat} (e : ρ[i]? = some (some (d, g))) (hg : g ≠ 3) {b : Addr} (h : O b = some i) : c.H0 b = none := by
  rcases R.own b i h with f | f
  · obtain ⟨j, e1, e2⟩ := R.root b f
    rw [h] at e1
    cases e1
    exact absurd rfl (notPar R e hg _ e2)
  · exact f
/-- a name's slot anew -/
theorem Rel.slotSet (R : Rel c O ρ σ H) {i g : Nat} {d : D} {v : V} (hi : i < ρ.length) (np : ∀ p ∈ c.pr, p.1 ≠ i) (s : SlotOk c O i H d g v) : Rel c O (ρ.set i (some (d, g))) (σ.set i (some v)) H := by
  have hi2 : i < σ.length := by rw [← R.len]; exact hi
  refine ⟨by simpa using R.len, fun j d' g' q => ?_, R.dom, R.own, R.ent, R.tbl, R.root, fun p hp => ?_, R.tabs, R.zed, R.zed0⟩
  · by_cases z : i = j
    · subst z
      rw [List.getElem?_set_self hi] at q
      cases q
      exact ⟨v, List.getElem?_set_self hi2, s⟩
    · rw [List.getElem?_set_ne z] at q
      obtain ⟨u, e1, e2⟩ := R.slot j d' g' q
      exact ⟨u, by rw [List.getElem?_set_ne z]; exact e1, e2⟩
  · obtain ⟨⟨d', e1⟩, e2, e3⟩ := R.par p hp
    have n : i ≠ p.1 := fun y => np p hp y.symm
    exact ⟨⟨d', by rw [List.getElem?_set_ne n]; exact e1⟩, by rw [List.getElem?_set_ne n]; exact e2, e3⟩
theorem Rel.notZ (R : Rel c O ρ σ H) {b : Addr} {i : Nat} (h : O b = some i) : ¬ c.Z b := fun q => by
  rw [(R.zed b q).1] at h; cases h
theorem setSame {α : Type} {l : List α} {i : Nat} {x : α} (h : l[i]? = some x) : l.set i x = l := by
  apply List.ext_getElem?
  intro j
  by_cases z : i = j
  · subst z
    rw [List.getElem?_set_self (List.getElem?_eq_some_iff.mp h).1, h]
  · rw [List.getElem?_set_ne z]
/-- a list of its own goes out of its hands -/
def freeO (O : Ow) (i : Nat) : Ow := fun b => if O b = some i then none else O b
theorem freeO_ne {O : Ow} {i : Nat} {b : Addr} (h : O b ≠ some i) : freeO O i b = O b := if_neg h
theorem freeO_none {O : Ow} {i : Nat} {b : Addr} (h : O b = some i ∨ O b = none) : freeO O i b = none := by
  unfold freeO
  split
  · rfl
  · rename_i z
    exact h.elim (fun q => absurd q z) id
theorem slot_free (R : Rel c O ρ σ H) {i : Nat} {d : D} {g : Nat} {v : V} (e : ρ[i]? = some (some (d, g))) (hg : g = 1 ∨ g = 2) (h : SlotOk c O i H d g v) : Rep c.k (Al c (freeO O i)) H d v := by
  have n3 : g ≠ 3 := by omega
  have hal : ∀ b, Al c O b → Al c (freeO O i) b := fun b z => ⟨freeO_none (.inr z.1), z.2⟩
  have mine : ∀ b, O b = some i → Al c (freeO O i) b := fun b z => ⟨freeO_none (.inl z), R.notZ z, .inr (R.ownNew e n3 z)⟩
  unfold SlotOk at h
  rw [if_neg (by omega)] at h
  split at h
  · obtain ⟨ds, a, vs, as, e1, e2, e3, e4, e5, e6⟩ := h
    subst e1
    refine ⟨a, vs, e2, mine a e3, e4, ?_⟩
    have rows : ∀ {ds : List D} {vs : List V} {as : List Addr}, Rows c O i H ds vs as → Reps c.k (Al c (freeO O i)) H ds vs := by
      intro ds
      induction ds with
      | nil => exact fun r => r.1
      | cons d ds ih =>
        intro vs as ⟨b, r, bs, es, ws, f1, f2, f3, f4, f5, f6, f7⟩
        subst f1
        exact ⟨.ref b, r, f2, ⟨b, ws, rfl, mine b f4, f5, Reps.mono hal _ _ f6⟩, ih f7⟩
    exact rows e5
  · cases d with
    | lst ds =>
      obtain ⟨a, vs, e1, e2, e3, e4⟩ := h
      exact ⟨a, vs, e1, mine a e2, e3, Reps.mono hal _ _ e4⟩
    | dct kvs =>
      obtain ⟨a, ps, e1, e2, e3, e4⟩ := h
      exact ⟨a, ps, e1, mine a e2, e3, Repk.mono hal _ _ e4⟩
    | _ => exact Rep.mono hal _ _ h
theorem stay_free {i : Nat} : Stay O H (freeO O i) H := fun a o h n z => ⟨freeO_none (.inr z), h⟩
theorem Rel.letGo : ∀ (l : List Nat) {O : Ow} {ρ : Env}, Rel c O ρ σ H → ∃ O', Rel c O' (Cg.letGo ρ l) σ H ∧ Stay O H O' H
  | [], O, ρ, R => ⟨O, R, Stay.refl O H⟩
  | i :: is, O, ρ, R => by
    have one : ∃ O', Rel c O' (match ρ[i]? with
        | some (some (d, g)) => if g = 1 ∨ g = 2 then ρ.set i (some (d, 0)) else ρ
        | _ => ρ) σ H ∧ Stay O H O' H := by
      split
      · rename_i d g e
        split
        · rename_i hg
          have n3 : g ≠ 3 := by omega
          obtain ⟨v, e1, e2⟩ := R.slot i d g e
          have hi := (List.getElem?_eq_some_iff.mp e).1
          have R1 : Rel c (freeO O i) (ρ.set i none) σ H := R.ownOut e n3 fun b => freeO_ne
          have R2 := R1.slotSet (i := i) (g := 0) (d := d) (v := v) (by simpa using hi) (notPar R e n3) (by
            unfold SlotOk
            rw [if_pos rfl]
            exact slot_free R e hg e2)
          rw [List.set_set, setSame e1] at R2
          exact ⟨_, R2, stay_free⟩
        · exact ⟨O, R, Stay.refl O H⟩
      · exact ⟨O, R, Stay.refl O H⟩
    obtain ⟨O1, R1, s1⟩ := one
    obtain ⟨O2, R2, s2⟩ := Rel.letGo is R1
    exact ⟨O2, R2, s1.trans s2⟩
/-- a new value under a name -/
theorem Res.bind {B : Hp} {i g : Nat} {g' : Bool} {d : D} {v : V} (r : Res g' c B O ρ σ H d v) (k : Keep O B H) (hf : freeS ρ i = true) (hg : g = 0 ∨ (g = 1 ∧ g' = true)) :
    ∃ O', Rel c O' (ρ.set i (some (d, g))) (σ.set i (some v)) H ∧ Stay O B O' H := by
  have R := r.rel
  have hi : i < ρ.length := by
    unfold freeS at hf
    cases e : ρ[i]? with
    | none => rw [e] at hf; cases hf
    | some x => exact (List.getElem?_eq_some_iff.mp e).1
  have np : ∀ p ∈ c.pr, p.1 ≠ i := fun p hp q => by
    obtain ⟨⟨d', e⟩, _⟩ := R.par p hp
    unfold freeS at hf
    rw [← q, e] at hf
    cases hf
  rcases hg with hg | ⟨hg, hg'⟩
  · subst hg
    exact ⟨O, R.slotSet hi np (by unfold SlotOk; rw [if_pos rfl]; exact r.rep), k.stay⟩
  · subst hg hg'
    by_cases m : d.isMut = true
    · obtain ⟨a, h1, h2, h3, h4, h5⟩ := r.fr rfl m
      obtain ⟨R2, ow⟩ := h5 i
      refine ⟨setO O a i, R2.slotSet hi np (Own.ofG ow rfl), fun b o hb n z => ?_⟩
      have nb : b ≠ a := fun q => h4 o (by rw [← q]; exact hb) n
      exact ⟨by rw [setO_ne nb]; exact z, k b o hb n z⟩
    · refine ⟨O, R.slotSet hi np (Own.ofG ?_ rfl), k.stay⟩
      have rr := r.rep
      cases d <;> first | exact rr | (exact absurd rfl m)
/-! ### readings of statements -/
def EndOk (c : Fc) (fr : Bool) (D : Ends) (O : Ow) (H : Hp) (p : Ctl × Env) : Prop := match p.1 with
  | .next => ∀ O' σ' H', Rel c O' p.2 σ' H' → Stay O H O' H' → D.nx σ' H'
  | .brk => ∀ O' σ' H', Rel c O' p.2 σ' H' → Stay O H O' H' → D.bk σ' H'
  | .cont => ∀ O' σ' H', Rel c O' p.2 σ' H' → Stay O H O' H' → D.ct σ' H'
  | .ret d => ∀ v O' σ' H', Res fr c c.H0 O' p.2 σ' H' d v → D.rt v H'
theorem EndOk.after {fr : Bool} {D : Ends} {p : Ctl × Env} (h : EndOk c fr D O H p) (s : Stay O H O' H') : EndOk c fr D O' H' p := by
  obtain ⟨k, ρ⟩ := p
  cases k <;> first
    | exact fun O2 σ2 H2 R s2 => h O2 σ2 H2 R (s.trans s2)
    | exact h
def tSt (c : Fc) (fr : Bool) (F : Env → R (Ctl × Env)) : TS := fun D σ H => ∃ O ρ, Rel c O ρ σ H ∧ wpR c (F ρ) (EndOk c fr D O H)
variable {fr : Bool} {F : Env → R (D × Env)} {G G' : Env → R (Ctl × Env)} {B : Env → R (Bool × Env)}
theorem pss_nilS : PSs X [] (tSt c fr fun ρ => Cg.R.ok (.next, ρ)) := pss_nil.weak fun D σ H ⟨O, ρ, R, z⟩ => z O σ H R (Stay.refl O H)
theorem pss_consS {st : Stmt} {rest : List Stmt} (h1 : PS X st (tSt c fr G)) (h2 : PSs X rest (tSt c fr G')) :
    PSs X (st :: rest) (tSt c fr fun ρ => do let (k, ρ) ← G ρ; match k with | .next => G' ρ | k => Cg.R.ok (k, ρ)) := by
  refine (pss_cons h1 h2).weak fun D σ H ⟨O, ρ, R, z⟩ => ⟨O, ρ, R, (wpR_bind.mp z).mono fun ⟨k, ρ1⟩ z => ?_⟩
  cases k with
  | next => exact fun O' σ' H' R' s => ⟨O', ρ1, R', (show wpR c (G' ρ1) _ from z).mono fun p e => e.after s⟩
  | brk => exact z
  | cont => exact z
  | ret d => exact z
theorem ps_ifS {t : Expr} {a b : List Stmt} {pos : Pos} (ht : PT X t (Cg.tB c B)) (ha : PSs X a (tSt c fr G)) (hb : PSs X b (tSt c fr G')) :
    PS X (.If t a b pos) (tSt c fr fun ρ => do let (x, ρ) ← B ρ; if x then G ρ else G' ρ) := by
  refine (ps_if ht ha hb).weak fun D σ H ⟨O, ρ, R, z⟩ => ⟨O, ρ, R, (wpR_bind.mp z).mono fun ⟨x, ρ1⟩ z H1 R1 k1 => ?_⟩
  cases x with
  | true => exact ⟨O, ρ1, R1, (show wpR c (G ρ1) _ from z).mono fun p e => e.after k1.stay⟩
  | false => exact ⟨O, ρ1, R1, (show wpR c (G' ρ1) _ from z).mono fun p e => e.after k1.stay⟩
theorem Res.entry {g : Bool} {B : Hp} {d : D} {v : V} (r : Res g c B O ρ σ H d v) (hf : fr = true → g = true) : Res fr c c.H0 O ρ σ H d v := ⟨r.rel, r.rep, fun z m => by
  obtain ⟨a, h1, h2, h3, h4, h5⟩ := r.fr (hf z) m
  exact ⟨a, h1, h2, h3, .of h3, h5⟩⟩
theorem ps_retS {e : Expr} {pos : Pos} {g : Bool} {l : List Nat} (he : PE X e (tS c g F)) (hf : fr = true → g = true) : PS X (.Return (some e) pos) (tSt c fr fun ρ => do let (d, ρ) ← F (Cg.letGo ρ l); Cg.R.ok (.ret d, ρ)) := by
  refine (ps_ret he).weak fun D σ H ⟨O, ρ, R, z⟩ => ?_
  obtain ⟨O1, R1, s1⟩ := R.letGo l
  exact ⟨O1, _, R1, (wpR_bind.mp z).mono fun ⟨d, ρ1⟩ z v H1 r k => z v O1 σ H1 (r.entry hf)⟩
theorem ps_retNS {pos : Pos} : PS X (.Return none pos) (tSt c fr fun ρ => Cg.R.ok (.ret .non, ρ)) :=
  ps_retN.weak fun D σ H ⟨O, ρ, R, z⟩ => z .non O σ H (.scal R rfl rfl)
theorem ps_exprS {e : Expr} {pos : Pos} {g : Bool} (he : PE X e (tS c g F)) (hs : swapsWith e none pos.line X.env = pure false) : PS X (.Expr e pos) (tSt c fr fun ρ => do let (_, ρ) ← F ρ; Cg.R.ok (.next, ρ)) := by
  refine (ps_expr he hs).weak fun D σ H ⟨O, ρ, R, z⟩ => ?_
  exact ⟨O, ρ, R, (wpR_bind.mp z).mono fun ⟨d, ρ1⟩ z v H1 r k => z O σ H1 r.rel k.stay⟩
theorem wpR_bindS {i g : Nat} {d : D} {P : Env → Prop} (h : wpR c (bindS ρ i d g) P) : freeS ρ i = true ∧ P (ρ.set i (some (d, g))) := by
  unfold bindS at h
  exact h.if_
theorem ps_setS {i g : Nat} {g' : Bool} {x : Str} {e : Expr} {pos pos' : Pos} {l : List Nat} (hN : X.N.Nodup) (hi : X.N[i]? = some x) (hx : Loc X.env.scope x) (he : PE X e (tS c g' F)) (hg : g = 0 ∨ (g = 1 ∧ g' = true))
    (hs : swapsWith e (some (.Name x pos')) pos.line X.env = pure false) (hf : X.fn x = true ∨ X.env.scope.names.lookup x = some .local) :
    PS X (.Assign [.Name x pos'] e pos) (tSt c fr fun ρ => do let (d, ρ) ← F (Cg.letGo ρ l); Cg.R.ok (.next, ← bindS ρ i d g)) := by
  refine (ps_set hN hi hx he hs hf).weak fun D σ H ⟨O, ρ, R, z⟩ => ?_
  obtain ⟨O1, R1, s1⟩ := R.letGo l
  refine ⟨O1, _, R1, (wpR_bind.mp z).mono fun ⟨d, ρ1⟩ z v H1 r k => ?_⟩
  obtain ⟨hfr, z⟩ := wpR_bindS (wpR_bind.mp z)
  obtain ⟨O2, R2, s2⟩ := r.bind k hfr hg
  exact z O2 _ H1 R2 (s1.trans s2)
/-- a list of its own is handed back -/
theorem ps_retvS {i : Nat} {x : Str} {p pos : Pos} (he : PE X (.Name x p) (tVar i)) : PS X (.Return (some (.Name x p)) pos) (tSt c fr fun ρ => do
    match (← getS ρ i) with
    | (d, g) => if g = 1 ∨ g = 2 then Cg.R.ok (.ret d, ρ.set i none) else Cg.R.bad) := by
  refine (ps_ret he).weak fun DD σ H ⟨O, ρ, R, z⟩ => ?_
  have z := wpR_bind.mp z
  unfold getS at z
  split at z
  · rename_i q e
    obtain ⟨d, g⟩ := q
    obtain ⟨hg, z⟩ := (show wpR c (if g = 1 ∨ g = 2 then Cg.R.ok (Ctl.ret d, ρ.set i none) else Cg.R.bad) _ from z).if_
    have n3 : g ≠ 3 := by omega
    obtain ⟨v, e1, e2⟩ := R.slot i d g e
    refine ⟨v, e1, z v (freeO O i) σ H ⟨R.ownOut e n3 fun b => freeO_ne, slot_free R e hg e2, fun hfr hm => ?_⟩⟩
    have aux : ∀ a, v = .ref a → O a = some i → (∀ t, Own c (setO (freeO O i) a t) t H d v) → ∃ a, v = .ref a ∧ freeO O i a = none ∧ c.H0 a = none ∧ New c.H0 a ∧ ∀ t, Rel c (setO (freeO O i) a t) (ρ.set i none) σ H ∧ Own c (setO (freeO O i) a t) t H d v := fun a h1 h2 h3 => by
      have h0 := R.ownNew e n3 h2
      refine ⟨a, h1, freeO_none (.inl h2), h0, .of h0, fun t => ⟨R.ownOut e n3 fun b hb => ?_, h3 t⟩⟩
      rw [setO_ne fun q => hb (by rw [q]; exact h2), freeO_ne hb]
    have hal : ∀ a t, O a = some i → ∀ b, Al c O b → Al c (setO (freeO O i) a t) b := fun a t ha b z => by
      have nb : b ≠ a := fun q => by rw [← q, z.1] at ha; cases ha
      exact ⟨by rw [setO_ne nb]; exact freeO_none (.inr z.1), z.2⟩
    unfold SlotOk at e2
    rw [if_neg (by omega)] at e2
    split at e2
    · obtain ⟨ds, a, vs, as, f1, f2, f3, f4, f5, f6⟩ := e2
      subst f1
      refine aux a f2 f3 fun t => ⟨a, vs, f2, setO_same, f4, ?_⟩
      have rows : ∀ {ds : List D} {vs : List V} {as : List Addr}, a ∉ as → Rows c O i H ds vs as → Reps c.k (Al c (setO (freeO O i) a t)) H ds vs := by
        intro ds
        induction ds with
        | nil => exact fun _ r => r.1
        | cons d ds ih =>
          intro vs as na ⟨b, r, bs, es, ws, k1, k2, k3, k4, k5, k6, k7⟩
          subst k1 k3
          have nb : b ≠ a := fun q => na (by rw [q]; exact List.mem_cons_self)
          exact ⟨.ref b, r, k2, ⟨b, ws, rfl, ⟨by rw [setO_ne nb]; exact freeO_none (.inl k4), R.notZ k4, .inr (R.ownNew e n3 k4)⟩, k5, Reps.mono (hal a t f3) _ _ k6⟩, ih (fun m => na (List.mem_cons_of_mem _ m)) k7⟩
      exact rows (List.nodup_cons.mp f6).1 f5
    · cases d <;> first | (simp [D.isMut] at hm; done) | skip
      · obtain ⟨a, vs, f1, f2, f3, f4⟩ := e2
        exact aux a f1 f2 fun t => ⟨a, vs, f1, setO_same, f3, Reps.mono (hal a t f2) _ _ f4⟩
      · obtain ⟨a, vs, f1, f2, f3, f4⟩ := e2
        exact aux a f1 f2 fun t => ⟨a, vs, f1, setO_same, f3, Repk.mono (hal a t f2) _ _ f4⟩
  · exact z.elim
end
end Cg
set_option Elab.async false
set_option linter.all false
set_option maxRecDepth 100000
set_option maxHeartbeats 4000000
namespace Cg
open PySem PySem.Spec PyProof.Rows L2 PySem.SeqAt

/-! ### what is walked -/
/-- new tuples laid -/
inductive Lays : Hp → Hp → Prop
  | refl (H : Hp) : Lays H H
  | step {H H' : Hp} {T : Addr} {y : List V} (h : H T = none) (t : Lays (upd H T (.tup y)) H') : Lays H H'
theorem Lays.ext {H H' : Hp} (l : Lays H H') : Ext H H' := by
  induction l with
  | refl => exact Ext.refl _
  | step h _ ih => exact (Ext.new h).trans ih
theorem Rel.lays {c : Fc} {O : Ow} {ρ : Env} {σ : L2.St} {H H' : Hp} (l : Lays H H') (R : Rel c O ρ σ H) : Rel c O ρ σ H' := by
  induction l with
  | refl => exact R
  | step h _ ih => exact ih (R.laid h)
/-- J goes through xs, as long as what no one owns stays -/
structure Goes (c : Fc) (O1 : Ow) (H1 : Hp) (J : L2.It) (xs : List D) : Prop where
  go : ∀ i O H, i < xs.length → Stay O1 H1 O H → J.go i H
  stop : ∀ O H, Stay O1 H1 O H → J.stop xs.length H
  yld : ∀ i d O H x H', xs[i]? = some d → Stay O1 H1 O H → J.yld i H x H' → Lays H H' ∧ Rep c.k (fun b => Al c O1 b ∧ ∃ o, H1 b = some o ∧ notTbl o) H' d x
def tIt (c : Fc) (F : Env → R (List D × Env)) : TI := fun σ H Q => ∃ O ρ, Rel c O ρ σ H ∧ wpR c (F ρ) fun p => ∀ J H', Rel c O p.2 σ H' → Keep O H H' → Goes c O H' J p.1 → Q J H'
/-- all but these names' slots -/
def But (ns : List Nat) (σ σ' : L2.St) : Prop := σ'.length = σ.length ∧ ∀ j, j ∉ ns → σ'[j]? = σ[j]?
theorem But.refl (ns : List Nat) (σ : L2.St) : But ns σ σ := ⟨rfl, fun _ _ => rfl⟩
def tGt (c : Fc) (ns : List Nat) (T : Env → D → R Env) : TG := fun v σ H Q => ∃ O ρ d, Rel c O ρ σ H ∧ Rep c.k (Al c O) H d v ∧ wpR c (T ρ d) fun ρ' => ∀ σ', Rel c O ρ' σ' H → But ns σ σ' → Q σ' H
def tGts (c : Fc) (ns : List Nat) (T : Env → List D → R Env) : TGs := fun v σ H Q => ∃ O ρ d, Rel c O ρ σ H ∧ Reps c.k (Al c O) H d v ∧ wpR c (T ρ d) fun ρ' => ∀ σ', Rel c O ρ' σ' H → But ns σ σ' → Q σ' H
section
variable {X : Cx} {c : Fc} {fr : Bool}
theorem _root_.L2.PG.weak {p : Expr} {t t' : TG} (h : PG X p t) (w : ∀ v σ H Q, t' v σ H Q → t v σ H Q) : PG X p t' := ⟨fun pins s σ H v u Q I r q => h.run pins s σ H v u Q I r (w v σ H Q q)⟩
theorem _root_.L2.PGs.weak {p : List Expr} {t t' : TGs} (h : PGs X p t) (w : ∀ v σ H Q, t' v σ H Q → t v σ H Q) : PGs X p t' := ⟨fun pins s σ H v u Q I r q => h.run pins s σ H v u Q I r (w v σ H Q q)⟩
theorem _root_.L2.PI.weak {tg p : Expr} {t t' : TI} (h : PI X tg p t) (w : ∀ σ H Q, t' σ H Q → t σ H Q) : PI X tg p t' := ⟨fun pins s σ H Q I q => h.run pins s σ H Q I (w σ H Q q)⟩
/-! targets -/
theorem pg_nmS {i : Nat} {x : Str} {pos : Pos} (hN : X.N.Nodup) (hi : X.N[i]? = some x) (hx : Loc X.env.scope x) (hf : X.fn x = true ∨ X.env.scope.names.lookup x = some .local) : PG X (.Name x pos) (tGt c [i] fun ρ d => bindS ρ i d 0) := by
  refine (pg_name hN hi hx hf).weak fun v σ H Q ⟨O, ρ, d, R, r, z⟩ => ?_
  obtain ⟨hfr, z⟩ := wpR_bindS z
  obtain ⟨O2, R2, s2⟩ := (Res.bind (B := H) (g' := false) ⟨R, r, fun z => nomatch z⟩ (Keep.refl O H) hfr (.inl rfl))
  have hl : i < ρ.length := by
    unfold freeS at hfr
    cases e : ρ[i]? with
    | none => rw [e] at hfr; cases hfr
    | some x => exact (List.getElem?_eq_some_iff.mp e).1
  exact z _ (R.slotSet hl (fun p hp q => by
    obtain ⟨⟨d', e⟩, _⟩ := R.par p hp
    unfold freeS at hfr
    rw [← q, e] at hfr
    cases hfr) (by unfold SlotOk; rw [if_pos rfl]; exact r)) ⟨by simp, fun j hj => List.getElem?_set_ne fun q => hj (by rw [q]; exact List.mem_singleton.mpr rfl)⟩
theorem pgs_nilS : PGs X [] (tGts c [] fun ρ l => match l with | [] => Cg.R.ok ρ | _ => Cg.R.bad) := pgs_nil.weak fun v σ H Q ⟨O, ρ, d, R, r, z⟩ => by
  cases d with
  | nil => exact ⟨r, z σ R (But.refl _ _)⟩
  | cons d ds => exact (show False from z).elim
theorem pgs_consS {e : Expr} {es : List Expr} {T : Env → D → R Env} {U : Env → List D → R Env} {ns ms : List Nat} (h1 : PG X e (tGt c ns T)) (h2 : PGs X es (tGts c ms U)) (hs : (assignEach (e :: es) X.env).map (·.2) = assign e X.env :: (assignEach es X.env).map (·.2)) :
    PGs X (e :: es) (tGts c (ns ++ ms) fun ρ l => match l with | d :: ds => do let ρ ← T ρ d; U ρ ds | _ => Cg.R.bad) := by
  refine (pgs_cons h1 h2 hs).weak fun v σ H Q ⟨O, ρ, d, R, r, z⟩ => ?_
  cases d with
  | nil => exact (show False from z).elim
  | cons d ds =>
    obtain ⟨v1, vs, e1, r1, r2⟩ := r
    exact ⟨v1, vs, e1, O, ρ, d, R, r1, (wpR_bind.mp z).mono fun ρ' z σ' R' b => ⟨O, ρ', ds, R', r2, z.mono fun ρ2 z σ2 R2 b2 => z σ2 R2 ⟨b2.1.trans b.1, fun j hj => (b2.2 j fun q => hj (List.mem_append_right _ q)).trans (b.2 j fun q => hj (List.mem_append_left _ q))⟩⟩⟩
theorem pg_tupS {es : List Expr} {k n : Nat} {pos : Pos} {U : Env → List D → R Env} {ns : List Nat} (hk : KxOk X c.k) (hc : X.calm = true) (h : PGs X es (tGts c ns U)) (hu : ∀ ρ l P, wpR c (U ρ l) P → l.length = n) (hn : (assignEach es X.env).length = n) (hst : (assignEach es X.env).findIdx? (·.1) = none) :
    PG X (.Tuple es k pos) (tGt c ns fun ρ d => match d with | .tup l => U ρ l | _ => Cg.R.bad) := by
  refine (pg_tup hc h hn hst).weak fun v σ H Q ⟨O, ρ, d, R, r, z⟩ => ?_
  cases d <;> first | exact (show False from z).elim | skip
  obtain ⟨a, vs, e, s, rr⟩ := r
  exact ⟨a, vs, e, by rw [hk.K]; exact s, by rw [rr.length]; exact hu _ _ _ z, O, ρ, _, R, rr, z⟩
/-! walks -/
theorem goes_list {O : Ow} {ρ : Env} {σ : L2.St} {H : Hp} {a : Addr} {xs : List D} {vs : List V} {K : PySem.W.Frag} (R : Rel c O ρ σ H) (h : ∀ O' H', Stay O H O' H' → SqL K H' a vs) (r : Reps c.k (Al c O) H xs vs) : Goes c O H (Itl K a) xs where
  go := fun i O' H' hi s => ⟨vs, vs[i]'(by rw [r.length]; exact hi), h O' H' s, by simp [r.length, hi]⟩
  stop := fun O' H' s => ⟨vs, h O' H' s, by rw [r.length]; exact Nat.le_refl _⟩
  yld := fun i d O' H' x H2 e s y => by
    obtain ⟨rfl, y⟩ := y
    have hx := y vs (h O' _ s)
    obtain ⟨v, h1, h2⟩ := Reps.get (Reps.keep (R.keepS s) _ _ (Reps.narrow _ _ r)) e
    rw [hx] at h1
    cases h1
    exact ⟨.refl _, h2⟩
theorem goes_tup {O : Ow} {ρ : Env} {σ : L2.St} {H : Hp} {a : Addr} {xs : List D} {vs : List V} {K : PySem.W.Frag} (R : Rel c O ρ σ H) (h : ∀ O' H', Stay O H O' H' → SqT K H' a vs) (r : Reps c.k (Al c O) H xs vs) : Goes c O H (Itt K a) xs where
  go := fun i O' H' hi s => ⟨vs, vs[i]'(by rw [r.length]; exact hi), h O' H' s, by simp [r.length, hi]⟩
  stop := fun O' H' s => ⟨vs, h O' H' s, by rw [r.length]; exact Nat.le_refl _⟩
  yld := fun i d O' H' x H2 e s y => by
    obtain ⟨rfl, y⟩ := y
    have hx := y vs (h O' _ s)
    obtain ⟨v, h1, h2⟩ := Reps.get (Reps.keep (R.keepS s) _ _ (Reps.narrow _ _ r)) e
    rw [hx] at h1
    cases h1
    exact ⟨.refl _, h2⟩
theorem goes_range {O : Ow} {H : Hp} {lo hi : Int} : Goes c O H (Itr lo (hi - lo).toNat) (rangeL lo hi) where
  go := fun i O' H' h s => by
    show i < (hi - lo).toNat
    simpa [rangeL, List.length_map, List.length_range] using h
  stop := fun O' H' s => by
    show (hi - lo).toNat ≤ (rangeL lo hi).length
    unfold rangeL
    rw [List.length_map, List.length_range]
    exact Nat.le_refl _
  yld := fun i d O' H' x H2 e s y => by
    obtain ⟨rfl, y⟩ := y
    refine ⟨.refl _, ?_⟩
    unfold rangeL at e
    rw [List.getElem?_map] at e
    cases q : (List.range (hi - lo).toNat)[i]? with
    | none => rw [q] at e; cases e
    | some j =>
      rw [q] at e
      have hj : j = i := by
        rw [List.getElem?_range] at q
        · cases q; rfl
        · exact Classical.byContradiction fun z => by rw [List.getElem?_eq_none (by simpa using z)] at q; cases q
      subst hj
      cases e
      exact y
theorem SqL.stay {K : PySem.W.Frag} {O O' : Ow} {ρ : Env} {σ : L2.St} {H H' : Hp} {a : Addr} {vs : List V} (R : Rel c O ρ σ H) (s : Stay O H O' H') (ho : O a = none) (h : SqL K H a vs) : SqL K H' a vs := by
  rcases h with (h | ⟨o, h⟩) | h
  · exact .inl (.inl (s _ _ h (fun _ q => by cases q) ho).2)
  · exact .inl (.inr ⟨o, (s _ _ h (fun _ q => by cases q) ho).2⟩)
  · exact .inr h
theorem SqT.stay {K : PySem.W.Frag} {O O' : Ow} {ρ : Env} {σ : L2.St} {H H' : Hp} {a : Addr} {vs : List V} (R : Rel c O ρ σ H) (s : Stay O H O' H') (h : SqT K H a vs) : SqT K H' a vs := by
  rcases h with (h | ⟨o, h⟩) | h
  · exact .inl (.inl (s _ _ h (fun _ q => by cases q) (R.nown h (.inl rfl))).2)
  · exact .inl (.inr ⟨o, (s _ _ h (fun _ q => by cases q) (R.nown (ys := []) h (.inr ⟨_, _, rfl⟩))).2⟩)
  · exact .inr h
/-- a list or a tuple, walked -/
theorem pi_seqs {tg l : Expr} {tl : TE} (hl : PE X l tl) :
    PI X tg l (fun σ H Q => tl σ H fun x H1 => ∃ a, x = .ref a ∧ ((∃ xs, SqL X.K H1 a xs ∧ Q (Itl X.K a) H1) ∨ (∃ xs, SqT X.K H1 a xs ∧ Q (Itt X.K a) H1))) := by
  refine ⟨fun pins s σ H Q I h => thn (hl.run pins s σ H _ I h) fun v s1 ⟨x, H1, I1, r1, a, ex, q1⟩ => ?_⟩
  subst ex
  cases r1
  rcases q1 with ⟨xs, hq, q⟩ | ⟨xs, hq, q⟩
  · obtain ⟨its, rv, pl, hz⟩ := I1.list hq
    refine wpAny_pyIter_list pl.isList ⟨s1.heap.objs.size, [s1.heap.objs.size], _, _, H1, rfl, I1.kept (t' := s1.toks) fun b o e => Heap.get?_push_of_some _ e, turn_list a _, ⟨_, Heap.get?_push_size _ rfl, rfl, rfl⟩, ?_, q⟩
    intro b hb
    rw [show b = s1.heap.objs.size by simpa using hb]
    exact I1.fpOk (Nat.le_refl _) (I1.hok.fresh (Nat.le_refl _))
  · obtain ⟨its, rv, pl, hz⟩ := I1.tuple hq
    refine wpAny_pyIter_tuple (show s1.heap.IsTuple a its.toArray from pl) ⟨s1.heap.objs.size, [s1.heap.objs.size], _, _, H1, rfl, I1.kept (t' := s1.toks) fun b o e => Heap.get?_push_of_some _ e, turn_tuple a _, ⟨_, Heap.get?_push_size _ rfl, rfl, rfl⟩, ?_, q⟩
    intro b hb
    rw [show b = s1.heap.objs.size by simpa using hb]
    exact I1.fpOk (Nat.le_refl _) (I1.hok.fresh (Nat.le_refl _))
theorem intReps {k : Kx} {A : Addr → Prop} {H : Hp} : ∀ l : List Int, Reps k A H (l.map .int) (l.map V.int)
  | [] => rfl
  | i :: l => ⟨_, _, rfl, rfl, intReps l⟩
theorem pi_valS {tg l : Expr} {F : Env → R (D × Env)} {g : Bool} (hk : KxOk X c.k) (hl : PE X l (tS c g F)) : PI X tg l (tIt c fun ρ => do let (d, ρ) ← F ρ; Cg.R.ok (← itemsR d, ρ)) := by
  refine (pi_seqs hl).weak fun σ H Q ⟨O, ρ, R, z⟩ => ⟨O, ρ, R, (wpR_bind.mp z).mono fun ⟨d, ρ1⟩ z v H1 r k => ?_⟩
  have z := wpR_bind.mp z
  have R1 := r.rel
  have rr := r.rep
  cases d <;> first | exact (show False from z).elim | skip
  · obtain ⟨a, vs, e, s, r2⟩ := rr
    rw [← hk.K] at s
    exact ⟨a, e, .inr ⟨vs, s, z _ _ R1 k (goes_tup R1 (fun O' H' st => SqT.stay R1 st s) r2)⟩⟩
  · obtain ⟨a, vs, e, al, s, r2⟩ := rr
    exact ⟨a, e, .inl ⟨vs, SqL.of s, z _ _ R1 k (goes_list R1 (fun O' H' st => SqL.stay R1 st al.1 (SqL.of s)) r2)⟩⟩
  · obtain ⟨a, e, s⟩ := rr
    rename_i xl z9
    have sq : (O a = none ∨ ∀ O' H', Stay O H1 O' H' → SqL X.K H' a (xl.map V.int)) ∧ SqL X.K H1 a (xl.map V.int) := by
      rcases s with ⟨al, s⟩ | ⟨o, s⟩ | s
      · exact ⟨.inl al.1, SqL.of s⟩
      · exact ⟨.inl (R1.nown (ys := []) s (.inr ⟨_, _, rfl⟩)), .inl (.inr ⟨o, s⟩)⟩
      · rw [← hk.K] at s
        exact ⟨.inr fun _ _ _ => .inr s, .inr s⟩
    obtain ⟨ho, s⟩ := sq
    exact ⟨a, e, .inl ⟨_, s, z _ _ R1 k (goes_list R1 (fun O' H' st => ho.elim (fun ho => SqL.stay R1 st ho s) fun ho => ho O' H' st) (intReps _))⟩⟩
theorem pi_rangeS {tg a : Expr} {p pos : Pos} {F : Env → R (D × Env)} {g : Bool} (hg : Gl X "range") (hm : X.mg "range" = none) (ha : PE X a (tS c g F)) (hs : starEach [a] X.env = [(false, eval a X.env)]) (hst : starEach (a :: []) X.env = (false, eval a X.env) :: starEach [] X.env) :
    PI X tg (.Call (.Name "range" p) [a] [] pos) (tIt c fun ρ => do
      let (d, ρ) ← F ρ
      match d with
      | .int n => if smallI n then Cg.R.ok (rangeL 0 n, ρ) else Cg.R.bad
      | _ => Cg.R.bad) := by
  refine (pi_range1 hg hm (pa_consS ha pa_nilS hst) hs).weak fun σ H Q ⟨O, ρ, R, z⟩ => ⟨O, ρ, R, ?_⟩
  refine wpR_bind.mpr ((wpR_bind.mp z).mono fun ⟨d, ρ1⟩ z vs H1 R1 r k => ?_)
  cases d <;> first | exact (show False from z).elim | skip
  rename_i n
  obtain ⟨hn, z⟩ := (show wpR c (if smallI n = true then Cg.R.ok (rangeL 0 n, ρ1) else Cg.R.bad) _ from z).if_
  obtain ⟨v, e, r⟩ := r.one
  rw [show v = V.int n from r] at e
  simp only [smallI, Bool.and_eq_true, decide_eq_true_eq] at hn
  have z : ∀ J H', Rel c O ρ1 σ H' → Keep O H H' → Goes c O H' J (rangeL 0 n) → Q J H' := z
  refine ⟨n, e, by omega, hn.1, ?_⟩
  have gr : Goes c O H1 (Itr 0 (n - 0).toNat) (rangeL 0 n) := goes_range
  rw [Int.sub_zero] at gr
  exact z _ _ R1 k gr
/-! for -/
theorem ps_forS {tg iter : Expr} {body : List Stmt} {pos : Pos} {l : List Nat} {F : Env → R (List D × Env)} {T : Env → D → R Env} {ns : List Nat} {G : Env → R (Ctl × Env)} (hp : PassesOwn (model X.prog X.w) X.A X.env X.xe) (hc : X.calm = true) (hi : PI X tg iter (tIt c F)) (hg : PG X tg (tGt c ns T)) (hb : PSs X body (tSt c fr G))
    (hs : ∀ x, foldedSetIterable iter X.env x = pure x) : PS X (.For tg iter body [] pos) (tSt c fr fun ρ => do let (xs, ρ) ← F (Cg.letGo ρ l); forR (fun x ρ => do let ρ ← T ρ x; G ρ) xs ρ) := by
  refine (ps_for hp hc hi hg hb hs).weak fun DD σ H ⟨O, ρ, R, z⟩ => ?_
  obtain ⟨O1, R1, s1⟩ := R.letGo l
  refine ⟨O1, _, R1, (wpR_bind.mp z).mono fun ⟨xs, ρ1⟩ z J H1 R2 k1 gs => ?_⟩
  have z0 : wpR c (forR (fun x ρ => do let ρ ← T ρ x; G ρ) xs ρ1) (EndOk c fr DD O H) := z
  refine ⟨fun i m σ' H' => m = xs.length - i ∧ i ≤ xs.length ∧ ∃ O' ρ', Rel c O' ρ' σ' H' ∧ Stay O1 H1 O' H' ∧ wpR c (forR (fun x ρ => do let ρ ← T ρ x; G ρ) (xs.drop i) ρ') (EndOk c fr DD O' H'), ⟨xs.length, by simp, Nat.zero_le _, O1, ρ1, R2, Stay.refl _ _, z0.mono fun p e => e.after (s1.trans k1.stay)⟩, ?_⟩
  rintro i m σ' H' ⟨rfl, hi, O', ρ', R', s', z⟩
  by_cases hl : i < xs.length
  · have hd : xs.drop i = xs[i] :: xs.drop (i + 1) := List.drop_eq_getElem_cons hl
    rw [hd] at z
    have z := wpR_bind.mp z
    refine .inr ⟨gs.go i O' H' hl s', fun σ2 H2 => ∃ O2 ρ2, Rel c O2 ρ2 σ2 H2 ∧ Stay O1 H1 O2 H2 ∧ wpR c (forR (fun x ρ => do let ρ ← T ρ x; G ρ) (xs.drop (i + 1)) ρ2) (EndOk c fr DD O2 H2), ?_, ?_⟩
    · rintro σ2 H2 ⟨O2, ρ2, R2, s2, z2⟩
      exact ⟨xs.length - (i + 1), by omega, rfl, hl, O2, ρ2, R2, s2, z2⟩
    · intro x H2 hy
      obtain ⟨la, rn⟩ := gs.yld i xs[i] O' H' x H2 (by simp [hl]) s' hy
      have Ra := R'.lays la
      have ka : Keep O' H' H2 := la.ext.toKeep
      have ra : Rep c.k (Al c O') H2 xs[i] x := Rep.mono (fun b ⟨z, o, h, n⟩ => ⟨(s' b o h n z.1).1, z.2⟩) _ _ rn
      refine ⟨O', ρ', xs[i], Ra, ra, (wpR_bind.mp z).mono fun ρ2 z σ2 Rb _ => ⟨O', ρ2, Rb, z.mono fun ⟨kk, ρ3⟩ z => ?_⟩⟩
      have st : Stay O' H' O' H2 := ka.stay
      have again : ∀ (ρ3 : Env) (O3 : Ow) (σ3 : L2.St) (H3 : Hp), wpR c (forR (fun x ρ => do let ρ ← T ρ x; G ρ) (xs.drop (i + 1)) ρ3) (EndOk c fr DD O' H') → Rel c O3 ρ3 σ3 H3 → Stay O' H2 O3 H3 →
          ∃ O2 ρ2, Rel c O2 ρ2 σ3 H3 ∧ Stay O1 H1 O2 H3 ∧ wpR c (forR (fun x ρ => do let ρ ← T ρ x; G ρ) (xs.drop (i + 1)) ρ2) (EndOk c fr DD O2 H3) := fun ρ3 O3 σ3 H3 z Rc sc =>
        ⟨O3, ρ3, Rc, s'.trans (st.trans sc), z.mono fun p e => e.after (st.trans sc)⟩
      cases kk with
      | next => exact fun O3 σ3 H3 Rc sc => again ρ3 O3 σ3 H3 z Rc sc
      | cont => exact fun O3 σ3 H3 Rc sc => again ρ3 O3 σ3 H3 z Rc sc
      | brk => exact fun O3 σ3 H3 Rc sc => (show EndOk c fr DD O' H' (.next, ρ3) from z) O3 σ3 H3 Rc (st.trans sc)
      | ret d => exact z
  · have hd : xs.drop i = [] := List.drop_eq_nil_of_le (by omega)
    rw [hd] at z
    have hi' : i = xs.length := by omega
    subst hi'
    exact .inl ⟨gs.stop O' H' s', (show EndOk c fr DD O' H' (.next, ρ') from z) O' σ' H' R' (Stay.refl _ _)⟩
end
end Cg
set_option Elab.async false
set_option linter.all false
set_option maxRecDepth 100000
set_option maxHeartbeats 4000000
namespace Cg
open PySem PySem.Spec PyProof.Rows L2 PySem.SeqAt

/-! ### a list that grows, set aside -/
def Fc.aside (c : Fc) (p : Addr) : Fc := { c with E := fun _ _ _ => False, Z := fun a => c.Z a ∨ a = p }
section
variable {c c' : Fc} {O O' : Ow} {ρ : Env} {σ : L2.St} {H H' : Hp}
section
variable {k : Kx} {A A' : Addr → Prop}
theorem Reps.each (f : ∀ d v, Rep k A H d v → Rep k A' H' d v) : ∀ (ds : List D) (vs : List V), Reps k A H ds vs → Reps k A' H' ds vs
  | [], _, r => r
  | d :: ds, _, ⟨v, r, e, h1, h2⟩ => ⟨v, r, e, f _ _ h1, Reps.each f ds r h2⟩
theorem Repk.each (f : ∀ d v, Rep k A H d v → Rep k A' H' d v) : ∀ (ds : List (D × D)) (vs : List (NestedKey × V × V)), Repk k A H ds vs → Repk k A' H' ds vs
  | [], _, r => r
  | p :: ds, _, ⟨x, y, r, e, h1, h2, h3⟩ => ⟨x, y, r, e, f _ _ h1, f _ _ h2, Repk.each f ds r h3⟩
end
theorem SlotOk.conv (hk : c'.k = c.k) (f : ∀ d v, Rep c.k (Al c O) H d v → Rep c.k (Al c' O') H' d v) {i g : Nat} {d : D} {v : V} (ho : ∀ b o, O b = some i → H b = some o → notTbl o → O' b = some i ∧ H' b = some o) (h : SlotOk c O i H d g v) : SlotOk c' O' i H' d g v := by
  unfold SlotOk at h ⊢
  split
  · rename_i z
    rw [if_pos z] at h
    rw [hk]
    exact f _ _ h
  · rename_i z
    rw [if_neg z] at h
    split
    · rename_i z
      rw [if_pos z] at h
      obtain ⟨ds, a, vs, as, e1, e2, e3, e4, e5, e6⟩ := h
      obtain ⟨k1, k2⟩ := ho _ _ e3 e4 (fun _ q => by cases q)
      refine ⟨ds, a, vs, as, e1, e2, k1, k2, ?_, e6⟩
      have rows : ∀ {ds : List D} {vs : List V} {as : List Addr}, Rows c O i H ds vs as → Rows c' O' i H' ds vs as := by
        intro ds
        induction ds with
        | nil => exact fun r => r
        | cons d ds ih =>
          intro vs as ⟨b, r, bs, es, ws, f1, f2, f3, f4, f5, f6, f7⟩
          obtain ⟨k1, k2⟩ := ho _ _ f4 f5 (fun _ q => by cases q)
          exact ⟨b, r, bs, es, ws, f1, f2, f3, k1, k2, by rw [hk]; exact Reps.each f _ _ f6, ih f7⟩
      exact rows e5
    · rename_i z
      rw [if_neg z] at h
      cases d with
      | lst ds =>
        obtain ⟨a, vs, e1, e2, e3, e4⟩ := h
        obtain ⟨k1, k2⟩ := ho _ _ e2 e3 (fun _ q => by cases q)
        exact ⟨a, vs, e1, k1, k2, by rw [hk]; exact Reps.each f _ _ e4⟩
      | dct kvs =>
        obtain ⟨a, ps, e1, e2, e3, e4⟩ := h
        obtain ⟨k1, k2⟩ := ho _ _ e2 e3 (fun _ q => by cases q)
        exact ⟨a, ps, e1, k1, by rw [hk]; exact k2, by rw [hk]; exact Repk.each f _ _ e4⟩
      | _ =>
        have r := f _ _ h
        rw [← hk] at r
        exact r
theorem TabsOk.at {xs ys : List V} {p : Addr} (t : TabsOk c H) (h : H p = some (.lst xs)) : TabsOk c (upd H p (.lst ys)) := by
  have ne : ∀ {a : Addr} {o : HO}, H a = some o → (∀ xs, o ≠ .lst xs) → upd H p (.lst ys) a = some o := fun {a o} e n => by
    rw [upd_ne fun q => ?_]
    · exact e
    · rw [q, h] at e
      cases e
      exact n _ rfl
  refine ⟨fun P hP => ?_, fun q hq => ?_⟩
  · obtain ⟨ps, h1, h2⟩ := t.1 P hP
    exact ⟨ps, ne h1 (fun _ q => by cases q), h2⟩
  · obtain ⟨ps, h1, h2, h3⟩ := t.2 q hq
    refine ⟨ps, ne h1 (fun _ q => by cases q), h2, fun pos cv hc => ?_⟩
    obtain ⟨cc, e1, e2⟩ := h3 pos cv hc
    exact ⟨cc, e1, ne e2 (fun _ q => by cases q)⟩
theorem alAside {p b : Addr} (z : Al c O b) (n : b ≠ p) : Al (c.aside p) O b := ⟨z.1, fun q => Or.elim (show c.Z b ∨ b = p from q) z.2.1 n, z.2.2⟩
theorem neOf {p b : Addr} {o : HO} (h : H p = none) (e : H b = some o) : b ≠ p := fun q => by
  rw [q, h] at e
  cases e
/-- a new list is set aside -/
theorem Rel.toAside {p : Addr} (R : Rel c O ρ σ H) (h : H p = none) {xs : List V} : Rel (c.aside p) O ρ σ (upd H p (.lst xs)) := by
  have R' : Rel c O ρ σ (upd H p (.lst xs)) := R.laid h
  have f : ∀ d v, Rep c.k (Al c O) H d v → Rep c.k (Al (c.aside p) O) (upd H p (.lst xs)) d v := fun d v r =>
    Rep.mono (fun b ⟨z, o, e, n⟩ => alAside z (neOf h e)) d v (Rep.keep (Ext.new h).keepA d v (Rep.narrow d v r))
  refine ⟨R.len, fun i d g e => ?_, R'.dom, R'.own, R'.ent, R'.tbl, R'.root, R'.par, R'.tabs, fun a q => ?_, fun a q => ?_⟩
  · obtain ⟨v, e1, e2⟩ := R.slot i d g e
    exact ⟨v, e1, SlotOk.conv (c := c) (c' := c.aside p) rfl f (fun b o z1 z2 n => ⟨z1, (Ext.new h).keep b o z2 n⟩) e2⟩
  · rcases q with q | q
    · exact R'.zed a q
    · subst q
      exact ⟨R.onew h, xs, upd_same⟩
  · rcases q with q | q
    · exact R.zed0 a q
    · subst q
      exact R.grow h
/-- .. and grows -/
theorem Rel.aside {p : Addr} (R : Rel c O ρ σ H) (hp : c.Z p) (ys : List V) : Rel c O ρ σ (upd H p (.lst ys)) ∧ KeepA (Al c O) H (upd H p (.lst ys)) := by
  obtain ⟨z1, xs, z2⟩ := R.zed p hp
  have z0 := R.zed0 p hp
  have ne : ∀ {a : Addr}, a ≠ p → upd H p (.lst ys) a = H a := fun {a} n => upd_ne n
  have ka : KeepA (Al c O) H (upd H p (.lst ys)) := fun b o e n z => by
    have nb : b ≠ p := fun q => by
      subst q
      rcases z with z | ⟨us, z⟩
      · exact z.2.1 hp
      · rw [z2] at e
        cases e
        rcases z with z | ⟨_, _, z⟩ <;> cases z
    rw [ne nb]; exact e
  have op : ∀ {a : Addr} {i : Nat}, O a = some i → a ≠ p := fun {a i} e q => by rw [q, z1] at e; cases e
  refine ⟨⟨R.len, fun i d g e => ?_, fun a i e => ?_, R.own, fun a o e n f => ?_, fun a ps e => ?_, R.root, R.par, R.tabs.at z2, fun a q => ?_, R.zed0⟩, ka⟩
  · obtain ⟨v, e1, e2⟩ := R.slot i d g e
    exact ⟨v, e1, e2.keep ka fun b i o z _ _ => by rw [ne (op z)]; assumption⟩
  · rw [ne (op e)]; exact R.dom a i e
  · rw [ne fun q => by rw [q, z0] at e; cases e]; exact R.ent a o e n f
  · rw [ne fun q => by rw [q, z0] at e; cases e]; exact R.tbl a ps e
  · by_cases n : a = p
    · subst n; exact ⟨z1, ys, upd_same⟩
    · rw [ne n]; exact R.zed a q
/-- .. and is taken back -/
theorem Rel.unaside {p : Addr} (R : Rel (c.aside p) O ρ σ H) (hp : ¬ c.Z p) (h : ∀ b, b ≠ p → O' b = O b) : Rel c O' ρ σ H := by
  obtain ⟨z1, xs, z2⟩ := R.zed p (.inr rfl)
  have op : ∀ {a : Addr} {i : Nat}, O a = some i → a ≠ p := fun {a i} e q => by rw [q, z1] at e; cases e
  have f : ∀ d v, Rep (c.aside p).k (Al (c.aside p) O) H d v → Rep (c.aside p).k (Al c O') H d v := Rep.mono fun b z => by
    have nb : b ≠ p := fun q => z.2.1 (.inr q)
    exact ⟨by rw [h b nb]; exact z.1, fun q => z.2.1 (.inl q), z.2.2⟩
  refine ⟨R.len, fun i d g e => ?_, fun a i e => ?_, fun a i e => ?_, R.ent, R.tbl, fun a q => ?_, fun q hq => ?_, R.tabs, fun a q => ?_, fun a q => R.zed0 a (.inl q)⟩
  · obtain ⟨v, e1, e2⟩ := R.slot i d g e
    exact ⟨v, e1, SlotOk.conv (c := c.aside p) (c' := c) rfl f (fun b o w1 w2 n => ⟨by rw [h b (op w1)]; exact w1, w2⟩) e2⟩
  · by_cases n : a = p
    · subst n; exact .inl ⟨xs, z2⟩
    · rw [h a n] at e; exact R.dom a i e
  · by_cases n : a = p
    · subst n; exact .inr (R.zed0 a (.inr rfl))
    · rw [h a n] at e; exact R.own a i e
  · obtain ⟨i, e1, e2⟩ := R.root a q
    exact ⟨i, by rw [h a (op e1)]; exact e1, e2⟩
  · obtain ⟨e1, e2, e3⟩ := R.par q hq
    exact ⟨e1, e2, by rw [h _ (op e3)]; exact e3⟩
  · obtain ⟨e1, e2⟩ := R.zed a (.inl q)
    have n : a ≠ p := fun z => hp (by rw [← z]; exact q)
    exact ⟨by rw [h a n]; exact e1, e2⟩
/-! ### names of a comprehension -/
theorem wipeS_at {ns : List Nat} : ∀ {ρ : Env} {j : Nat}, j ∉ ns → (wipeS ρ ns)[j]? = ρ[j]? := by
  induction ns with
  | nil => exact fun _ => rfl
  | cons n ns ih =>
    intro ρ j hj
    rw [List.mem_cons, not_or] at hj
    rw [wipeS, ih hj.2, List.getElem?_set_ne fun q => hj.1 q.symm]
theorem wipeS_len {ns : List Nat} : ∀ {ρ : Env}, (wipeS ρ ns).length = ρ.length := by
  induction ns with
  | nil => exact rfl
  | cons n ns ih => intro ρ; rw [wipeS, ih, List.length_set]
theorem wipeS_in {ns : List Nat} : ∀ {ρ : Env} {j : Nat} {x : D × Nat}, (wipeS ρ ns)[j]? = some (some x) → j ∉ ns ∧ ρ[j]? = some (some x) := by
  induction ns with
  | nil => exact fun h => ⟨by simp, h⟩
  | cons n ns ih =>
    intro ρ j x h
    obtain ⟨h1, h2⟩ := ih h
    by_cases z : n = j
    · subst z
      by_cases l : n < ρ.length
      · rw [List.getElem?_set_self l] at h2; cases h2
      · rw [List.getElem?_eq_none (by simpa using l)] at h2; cases h2
    · rw [List.getElem?_set_ne z] at h2
      exact ⟨by simp only [List.mem_cons, not_or]; exact ⟨fun q => z q.symm, h1⟩, h2⟩
theorem wipe_at {σ : L2.St} : ∀ {ns : List Nat} {j : Nat}, j ∉ ns → (wipe σ ns)[j]? = σ[j]?
  | [], _, _ => rfl
  | n :: ns, j, hj => by
    rw [List.mem_cons, not_or] at hj
    rw [wipe, List.getElem?_set_ne fun q => hj.1 q.symm, wipe_at hj.2]
theorem wipe_in {σ : L2.St} : ∀ {ns : List Nat} {j : Nat}, j ∈ ns → j < σ.length → (wipe σ ns)[j]? = some none
  | [], _, h, _ => by cases h
  | n :: ns, j, hj, hl => by
    rw [wipe]
    by_cases z : n = j
    · subst z
      exact List.getElem?_set_self (by rw [wipe_length]; exact hl)
    · rw [List.getElem?_set_ne z]
      exact wipe_in ((List.mem_cons.mp hj).resolve_left fun q => z q.symm) hl
theorem But.wipe {ns : List Nat} {σ σ' : L2.St} (b : But ns σ σ') : L2.wipe σ' ns = L2.wipe σ ns := by
  apply List.ext_getElem?
  intro j
  by_cases h : j ∈ ns
  · by_cases l : j < σ.length
    · rw [wipe_in h l, wipe_in h (by rw [b.1]; exact l)]
    · rw [List.getElem?_eq_none (by rw [wipe_length, b.1]; omega), List.getElem?_eq_none (by rw [wipe_length]; omega)]
  · rw [wipe_at h, wipe_at h, b.2 j h]
theorem wipe_but {ns : List Nat} {σ : L2.St} : But ns σ (L2.wipe σ ns) := ⟨wipe_length _ _, fun j h => wipe_at h⟩
theorem wipe_wipe {ns : List Nat} {σ : L2.St} : L2.wipe (L2.wipe σ ns) ns = L2.wipe σ ns := wipe_but.wipe
theorem Rel.wiped {ns : List Nat} (R : Rel c O ρ σ H) (np : ∀ p ∈ c.pr, p.1 ∉ ns) : Rel c O (wipeS ρ ns) (wipe σ ns) H := by
  refine ⟨by rw [wipeS_len, wipe_length]; exact R.len, fun i d g e => ?_, R.dom, R.own, R.ent, R.tbl, R.root, fun p hp => ?_, R.tabs, R.zed, R.zed0⟩
  · obtain ⟨h1, h2⟩ := wipeS_in e
    obtain ⟨v, e1, e2⟩ := R.slot i d g h2
    exact ⟨v, by rw [wipe_at h1]; exact e1, e2⟩
  · obtain ⟨⟨d, e1⟩, e2, e3⟩ := R.par p hp
    exact ⟨⟨d, by rw [wipeS_at (np p hp)]; exact e1⟩, by rw [wipe_at (np p hp)]; exact e2, e3⟩
theorem backS_len {ns : List Nat} : ∀ {ρ old : Env}, (backS ρ old ns).length = ρ.length := by
  induction ns with
  | nil => exact rfl
  | cons n ns ih =>
    intro ρ old
    rw [backS, ih]
    split <;> simp
theorem backS_out {ns : List Nat} : ∀ {ρ old : Env} {j : Nat}, j ∉ ns → (backS ρ old ns)[j]? = ρ[j]? := by
  induction ns with
  | nil => exact fun _ => rfl
  | cons n ns ih =>
    intro ρ old j hj
    rw [List.mem_cons, not_or] at hj
    rw [backS, ih hj.2]
    split
    · rw [List.getElem?_set_ne fun q => hj.1 q.symm]
    · rfl
theorem backS_in {ns : List Nat} : ∀ {ρ old : Env} {j : Nat}, j ∈ ns → ρ.length = old.length → (backS ρ old ns)[j]? = old[j]? := by
  induction ns with
  | nil => intro _ _ _ h; cases h
  | cons n ns ih =>
    intro ρ old j hj hl
    rw [backS]
    by_cases hn : j ∈ ns
    · rw [ih hn (by split <;> simp [hl])]
    · have z : j = n := (List.mem_cons.mp hj).resolve_right hn
      subst z
      rw [backS_out hn]
      split
      · rename_i s e
        rw [e, List.getElem?_set_self (by rw [hl]; exact (List.getElem?_eq_some_iff.mp e).1)]
      · rename_i e
        rw [e, List.getElem?_eq_none (by rw [hl]; exact List.getElem?_eq_none_iff.mp e)]
theorem plainS_np {ns : List Nat} (R : Rel c O ρ σ H) (h : plainS ρ ns = true) : ∀ p ∈ c.pr, p.1 ∉ ns := fun p hp hm => by
  obtain ⟨⟨d, e⟩, _⟩ := R.par p hp
  have q := List.all_eq_true.mp h p.1 hm
  rw [e] at q
  cases q
/-- the names as they were -/
theorem Rel.back {ns : List Nat} {ρ1 : Env} {O1 : Ow} {H1 : Hp} (R : Rel c O (wipeS ρ ns) (wipe σ ns) H) (R1 : Rel c O1 ρ1 σ H1) (s : Stay O1 H1 O H) (hp : plainS ρ1 ns = true) (hl : ρ.length = ρ1.length) : Rel c O (backS ρ ρ1 ns) σ H := by
  have np := plainS_np R1 hp
  refine ⟨by rw [backS_len, hl]; exact R1.len, fun i d g e => ?_, R.dom, R.own, R.ent, R.tbl, R.root, fun p hp => ?_, R.tabs, R.zed, R.zed0⟩
  · by_cases m : i ∈ ns
    · rw [backS_in m hl] at e
      have q := List.all_eq_true.mp hp i m
      rw [e] at q
      have q : (g == 0) = true := q
      rw [beq_iff_eq] at q
      subst q
      obtain ⟨v, e1, e2⟩ := R1.slot i d 0 e
      refine ⟨v, e1, ?_⟩
      unfold SlotOk at e2 ⊢
      rw [if_pos rfl] at e2 ⊢
      exact R1.repS s e2
    · rw [backS_out m, ← wipeS_at m] at e
      obtain ⟨v, e1, e2⟩ := R.slot i d g e
      rw [wipe_at m] at e1
      exact ⟨v, e1, e2⟩
  · obtain ⟨⟨d, e1⟩, e2, e3⟩ := R.par p hp
    rw [wipeS_at (np p hp)] at e1
    rw [wipe_at (np p hp)] at e2
    exact ⟨⟨d, by rw [backS_out (np p hp)]; exact e1⟩, e2, e3⟩
end
/-! ### list comprehensions -/
theorem quiet_ok {α : Type} {r : R α} {a : α} : quiet r = .ok a → r = .ok a := by
  cases r <;> first | exact id | (intro h; cases h)
theorem quiet_wp {c : Fc} {α : Type} {r : R α} {a : α} {P : α → Prop} (h : quiet r = .ok a) (p : P a) : wpR c r P := by
  rw [quiet_ok h]; exact p
theorem quiet_exc {α : Type} {r : R α} {e : Nat} : quiet r ≠ .exc e := by
  cases r <;> exact fun h => by cases h
theorem eachR_exc {α : Type} {f : D → Env → R (Option α × Env)} (hf : ∀ x ρ e, f x ρ ≠ .exc e) : ∀ (xs : List D) (ρ : Env) (e : Nat), eachR f xs ρ ≠ .exc e
  | [], ρ, e => fun h => by cases h
  | x :: xs, ρ, e => fun h => by
    rw [eachR] at h
    cases q : f x ρ with
    | bad => rw [q] at h; cases h
    | exc e' => exact hf x ρ e' q
    | ok p =>
      rw [q] at h
      have h : (eachR f xs p.2 >>= fun r => Cg.R.ok (match p.1 with | some a => a :: r.1 | none => r.1, r.2)) = .exc e := h
      cases q2 : eachR f xs p.2 with
      | bad => rw [q2] at h; cases h
      | exc e' => exact eachR_exc hf xs p.2 e' q2
      | ok r => rw [q2] at h; cases h
theorem eachR_cons {α : Type} {f : D → Env → R (Option α × Env)} {x : D} {xs : List D} {ρ ρ2 : Env} {l : List α} (h : eachR f (x :: xs) ρ = .ok (l, ρ2)) : ∃ o ρ1 r, f x ρ = .ok (o, ρ1) ∧ eachR f xs ρ1 = .ok (r, ρ2) ∧ l = (match o with | some a => a :: r | none => r) := by
  rw [eachR] at h
  cases q : f x ρ with
  | bad => rw [q] at h; cases h
  | exc e' => rw [q] at h; cases h
  | ok p =>
    rw [q] at h
    have h : (eachR f xs p.2 >>= fun r => Cg.R.ok (match p.1 with | some a => a :: r.1 | none => r.1, r.2)) = .ok (l, ρ2) := h
    cases q2 : eachR f xs p.2 with
    | bad => rw [q2] at h; cases h
    | exc e' => rw [q2] at h; cases h
    | ok r =>
      rw [q2] at h
      have h : Cg.R.ok (match p.1 with | some a => a :: r.1 | none => r.1, r.2) = .ok (l, ρ2) := h
      injection h with h
      injection h with h1 h2
      exact ⟨p.1, p.2, r.1, rfl, by rw [q2, ← h2], h1.symm⟩
def lcF (T : Env → D → R Env) (C : Env → R (Bool × Env)) (E : Env → R (D × Env)) (ns : List Nat) : D → Env → R (Option D × Env) := fun x ρ => quiet do
  let ρ ← T (wipeS ρ ns) x
  let (b, ρ) ← C ρ
  if b then
    let (d, ρ) ← E ρ
    .ok (some d, ρ)
  else .ok (none, ρ)
def lcR (F : Env → R (List D × Env)) (T : Env → D → R Env) (C : Env → R (Bool × Env)) (E : Env → R (D × Env)) (ns : List Nat) : Env → R (D × Env) := fun ρ0 => do
  let (xs, ρ) ← F ρ0
  if plainS ρ ns then
    let (l, ρ2) ← eachR (lcF T C E ns) xs ρ
    .ok (← mkLst l, backS ρ2 ρ ns)
  else .bad
section
variable {X : Cx} {c : Fc}
theorem _root_.L2.PE.any {ι : Type} {p : Expr} {t : ι → TE} (h : ∀ i, PE X p (t i)) : PE X p (fun σ H Q => ∃ i, t i σ H Q) := ⟨fun pins s σ H Q I ⟨i, q⟩ => (h i).run pins s σ H Q I q⟩
theorem _root_.L2.PTs.any {ι : Type} {p : List Expr} {t : ι → TT} (h : ∀ i, PTs X p (t i)) : PTs X p (fun σ H Q => ∃ i, t i σ H Q) := ⟨fun pins s σ H Q I ⟨i, q⟩ => (h i).run pins s σ H Q I q⟩
theorem _root_.L2.PTs.weak {p : List Expr} {t t' : TT} (h : PTs X p t) (w : ∀ σ H Q, t' σ H Q → t σ H Q) : PTs X p t' := ⟨fun pins s σ H Q I q => h.run pins s σ H Q I (w σ H Q q)⟩
theorem _root_.L2.PG.any {ι : Type} {p : Expr} {t : ι → TG} (h : ∀ i, PG X p (t i)) : PG X p (fun v σ H Q => ∃ i, t i v σ H Q) := ⟨fun pins s σ H v u Q I r ⟨i, q⟩ => (h i).run pins s σ H v u Q I r q⟩
abbrev gA (c : Fc) (ns : List Nat) (T : Env → D → R Env) : TG := fun v σ H Q => ∃ p, tGt (c.aside p) ns T v σ H Q
abbrev tA0 (c : Fc) (C : Env → R (Bool × Env)) : TT := fun σ H Q => ∃ p, Cg.tB (c.aside p) C σ H Q
abbrev eA (c : Fc) (g : Bool) (E : Env → R (D × Env)) : TE := fun σ H Q => ∃ p, tS (c.aside p) g E σ H Q
/-- how a list comprehension goes -/
theorem lc_reads {F : Env → R (List D × Env)} {T : Env → D → R Env} {C : Env → R (Bool × Env)} {E : Env → R (D × Env)} {ns : List Nat} {gr ge : Bool} {O : Ow} {ρ0 : Env} {σ : L2.St} {H : Hp} {Q : VK} (R : Rel c O ρ0 σ H)
    (z : wpR c (lcR F T C E ns ρ0) fun p => ∀ v H', Res gr c H O p.2 σ H' p.1 v → Keep O H H' → Q v H') :
    tLc (tIt c F) (gA c ns T) (tA0 c C) (eA c ge E) ns σ H Q := by
  refine ⟨O, ρ0, R, (wpR_bind.mp z).mono fun ⟨xs, ρ1⟩ z J H1 R1 k1 gs p hp => ?_⟩
  obtain ⟨pl, z⟩ := (show wpR c (if plainS ρ1 ns = true then (do
    let (l, ρ2) ← eachR (lcF T C E ns) xs ρ1
    Cg.R.ok (← mkLst l, backS ρ2 ρ1 ns)) else Cg.R.bad) _ from z).if_
  have z := wpR_bind.mp z
  have np := plainS_np R1 pl
  obtain ⟨l, ρe, he, z⟩ : ∃ l ρe, eachR (lcF T C E ns) xs ρ1 = .ok (l, ρe) ∧ wpR c (do Cg.R.ok (← mkLst l, backS ρe ρ1 ns)) fun p => ∀ v H', Res gr c H O p.2 σ H' p.1 v → Keep O H H' → Q v H' := by
    cases q : eachR (lcF T C E ns) xs ρ1 with
    | bad => rw [q] at z; exact z.elim
    | exc e => exact absurd q (eachR_exc (fun x ρ e => quiet_exc) _ _ _)
    | ok r => rw [q] at z; exact ⟨r.1, r.2, rfl, z⟩
  obtain ⟨hl, z⟩ := (wpR_bind.mp z).if_
  have z : ∀ v H', Res gr c H O (backS ρe ρ1 ns) σ H' (.lst l) v → Keep O H H' → Q v H' := z
  have len1 : ρ1.length = σ.length := R1.len
  have Ra := (R1.toAside hp (xs := [])).wiped np
  have hz : ¬ c.Z p := fun q => by
    obtain ⟨_, xs, w⟩ := R1.zed p q
    rw [hp] at w; cases w
  refine ⟨fun i m H' => m = xs.length - i ∧ i ≤ xs.length ∧ ∃ ρ' ds vs rest, Rel (c.aside p) O (wipeS ρ' ns) (wipe σ ns) H' ∧ H' p = some (.lst vs) ∧ Reps c.k (Al (c.aside p) O) H' ds vs ∧ Keep O H1 H' ∧ eachR (lcF T C E ns) (xs.drop i) ρ' = .ok (rest, ρe) ∧ l = ds ++ rest,
    ⟨xs.length, by simp, Nat.zero_le _, ρ1, [], [], l, Ra, upd_same, rfl, (Ext.new hp).toKeep, he, rfl⟩, ?_⟩
  rintro i m H' ⟨rfl, hi, ρ', ds, vs, rest, Rw, hD, rds, kp, hr, hl2⟩
  by_cases hlt : i < xs.length
  · rw [List.drop_eq_getElem_cons hlt] at hr
    obtain ⟨o, ρ5, r5, hf, hr5, hrest⟩ := eachR_cons hr
    refine .inr ⟨gs.go i O H' hlt kp.stay, fun H'' => ∃ ρ' ds vs rest, Rel (c.aside p) O (wipeS ρ' ns) (wipe σ ns) H'' ∧ H'' p = some (.lst vs) ∧ Reps c.k (Al (c.aside p) O) H'' ds vs ∧ Keep O H1 H'' ∧ eachR (lcF T C E ns) (xs.drop (i + 1)) ρ' = .ok (rest, ρe) ∧ l = ds ++ rest,
      fun H'' q => ⟨xs.length - (i + 1), by omega, rfl, hlt, q⟩, fun x H2 hy => ?_⟩
    obtain ⟨la, rn⟩ := gs.yld i xs[i] O H' x H2 (by simp [hlt]) kp.stay hy
    have R2 := Rw.lays la
    have k2 : Keep O H' H2 := la.ext.toKeep
    have rx : Rep c.k (Al (c.aside p) O) H2 xs[i] x := Rep.mono (fun b ⟨w, o, h, n⟩ => alAside w (neOf hp h)) _ _ rn
    -- the body
    have hf := quiet_ok hf
    cases qT : T (wipeS ρ' ns) xs[i] with
    | bad => rw [qT] at hf; cases hf
    | exc e => rw [qT] at hf; cases hf
    | ok ρ2 =>
    rw [qT] at hf
    have hf : (C ρ2 >>= fun w => if w.1 = true then E w.2 >>= fun u => Cg.R.ok (some u.1, u.2) else Cg.R.ok (none, w.2)) = Cg.R.ok (o, ρ5) := hf
    cases qC : C ρ2 with
    | bad => rw [qC] at hf; cases hf
    | exc e => rw [qC] at hf; cases hf
    | ok w =>
    rw [qC] at hf
    have hf : (if w.1 = true then E w.2 >>= fun u => Cg.R.ok (some u.1, u.2) else Cg.R.ok (none, w.2)) = Cg.R.ok (o, ρ5) := hf
    refine ⟨p, O, wipeS ρ' ns, xs[i], R2, rx, ?_⟩
    rw [qT]
    intro σ2 Rb bt
    have wz : wipe σ2 ns = wipe σ ns := by rw [bt.wipe, wipe_wipe]
    refine ⟨by rw [wz], p, O, ρ2, Rb, ?_⟩
    rw [qC]
    intro H3 Rc k3
    have D3 : H3 p = some (.lst vs) := k3 p _ (k2 p _ hD (fun _ q => by cases q) (Rw.zed p (.inr rfl)).1) (fun _ q => by cases q) (Rw.zed p (.inr rfl)).1
    have rd3 : Reps c.k (Al (c.aside p) O) H3 ds vs := Rb.reps k3 (Rw.reps k2 rds)
    have kp3 : Keep O H1 H3 := (kp.trans k2).trans k3
    cases qb : w.1 with
    | false =>
      rw [qb] at hf
      have hf : Cg.R.ok (none, w.2) = Cg.R.ok (o, ρ5) := hf
      injection hf with hf
      injection hf with ho hρ
      subst ho hρ
      have Rd := Rc.wiped np
      rw [wz] at Rd
      exact ⟨w.2, ds, vs, r5, Rd, D3, rd3, kp3, hr5, by rw [hl2, hrest]⟩
    | true =>
      rw [qb] at hf
      have hf : (E w.2 >>= fun u => Cg.R.ok (some u.1, u.2)) = Cg.R.ok (o, ρ5) := hf
      cases qE : E w.2 with
      | bad => rw [qE] at hf; cases hf
      | exc e => rw [qE] at hf; cases hf
      | ok u =>
        rw [qE] at hf
        have hf : Cg.R.ok (some u.1, u.2) = Cg.R.ok (o, ρ5) := hf
        injection hf with hf
        injection hf with ho hρ
        subst ho hρ
        have hrest : rest = u.1 :: r5 := hrest
        refine ⟨p, O, w.2, Rc, ?_⟩
        rw [qE]
        intro y H4 ry k4
        have D4 : H4 p = some (.lst vs) := k4 p _ D3 (fun _ q => by cases q) (Rc.zed p (.inr rfl)).1
        refine ⟨vs, D4, ?_, ?_⟩
        · rw [rds.length, sizeLine_eq]
          have hlen : l.length ≤ maxLen := hl
          rw [hl2, hrest, List.length_append, List.length_cons] at hlen
          have hm : maxLen = 16777216 := rfl
          omega
        · obtain ⟨R5, ka5⟩ := ry.rel.aside (p := p) (.inr rfl) (vs ++ [y])
          have R6 := R5.wiped np
          rw [wz] at R6
          refine ⟨u.2, ds ++ [u.1], vs ++ [y], r5, R6, upd_same, (Reps.keep ka5 _ _ (Rc.reps k4 rd3)).app ⟨y, [], rfl, Rep.keep ka5 _ _ ry.rep, rfl⟩, fun a o e n q => ?_, hr5, by rw [hl2, hrest, List.append_assoc]; rfl⟩
          rw [upd_ne fun w => by rw [w, hp] at e; cases e]
          exact (kp3.trans k4) a o e n q
  · have hd : xs.drop i = [] := List.drop_eq_nil_of_le (by omega)
    rw [hd] at hr
    have hi' : i = xs.length := by omega
    subst hi'
    have hr : Cg.R.ok (([] : List D), ρ') = Cg.R.ok (rest, ρe) := hr
    injection hr with hr
    injection hr with h1 h2
    subst h1 h2
    rw [List.append_nil] at hl2
    subst hl2
    refine .inl ⟨gs.stop O H' kp.stay, z (.ref p) H' ?_ (k1.trans kp)⟩
    have lr : ρ'.length = ρ1.length := by
      have q := Rw.len
      rw [wipeS_len, wipe_length] at q
      rw [q, len1]
    have nO := (Rw.zed p (.inr rfl)).1
    have toAl : ∀ b, Al (c.aside p) O b → Al c O b := fun b w => ⟨w.1, fun q => w.2.1 (.inl q), w.2.2⟩
    refine ⟨(Rw.unaside hz fun _ _ => rfl).back R1 kp.stay pl lr, ⟨p, vs, rfl, ⟨nO, hz, .inr (R1.grow hp)⟩, hD, Reps.mono toAl _ _ rds⟩, fun _ _ => ⟨p, rfl, nO, R1.grow hp, ?_, fun t => ⟨?_, p, vs, rfl, setO_same, hD, Reps.mono (fun b w => ⟨by rw [setO_ne fun q => w.2.1 (.inr q)]; exact w.1, fun q => w.2.1 (.inl q), w.2.2⟩) _ _ rds⟩⟩⟩
    · exact (New.of hp).lower k1 nO
    · refine (Rw.unaside hz fun b hb => setO_ne hb).back R1 (fun a o e n q => ?_) pl lr
      have na : a ≠ p := fun w => by rw [w, hp] at e; cases e
      exact ⟨by
        show setO O p t a = none
        rw [setO_ne na]; exact q, kp a o e n q⟩
end
end Cg
set_option Elab.async false
set_option linter.all false
set_option maxRecDepth 100000
set_option maxHeartbeats 4000000
namespace Cg
open PySem PySem.Spec PyProof.Rows L2 PySem.SeqAt
section
variable {X : Cx} {c : Fc} {fr : Bool}
abbrev Cx.inl (X : Cx) (s : Shared) (H : Hp) (scope : Scope) (C : Addr) (cl : List (Str × Addr)) (fp : List Addr) : Cx := X.blk s H scope (compEnvC scope cl C X.env) fp
/-- what a comprehension's parts must say, in its own context -/
structure LcOk (X : Cx) (c : Fc) (tg elt : Expr) (ifs : List Expr) (scope : Scope) (ns : List Nat) (T : Env → D → R Env) (C : Env → R (Bool × Env)) (E : Env → R (D × Env)) : Prop where
  own : ∃ own, BlkOk X.N X.env.scope scope own ∧ own.map (·.2) = ns
  tg : ∀ p s H a cl fp, PG (Cx.inl X s H scope a cl fp) tg (tGt (c.aside p) ns T)
  ifs : ∀ p s H a cl fp, PTs (Cx.inl X s H scope a cl fp) ifs (Cg.tB (c.aside p) C)
  elt : ∀ p s H a cl fp, PE (Cx.inl X s H scope a cl fp) elt (tS (c.aside p) false E)
variable {tg elt iter : Expr} {ifs : List Expr} {scope : Scope} {pos : Pos} {ns : List Nat} {F : Env → R (List D × Env)} {T : Env → D → R Env} {C : Env → R (Bool × Env)} {E : Env → R (D × Env)}
theorem pe_lcS {g : Bool} (hc : X.calm = true) (hN : X.N.Nodup) (hi : PI X tg iter (tIt c F)) (ok : LcOk X c tg elt ifs scope ns T C E) (hs : ∀ x, foldedSetIterable iter X.env x = pure x) : PE X (.ListComp elt [⟨tg, iter, ifs, 0⟩] scope pos) (tS c g (lcR F T C E ns)) := by
  obtain ⟨own, ok1, ok2⟩ := ok.own
  refine (pe_lc (g := gA c ns T) (tt := tA0 c C) (te := eA c false E) hc hN hi ok1 (fun s H a cl fp => .any fun p => ok.tg p s H a cl fp) (fun s H a cl fp => .any fun p => ok.ifs p s H a cl fp) (fun s H a cl fp => .any fun p => ok.elt p s H a cl fp) hs).weak fun σ H Q ⟨O, ρ, R, z⟩ => ?_
  rw [ok2]
  exact lc_reads R z
/-- name = [..] on its own line -/
theorem ps_setLcS {i g : Nat} {y : Str} {py spos : Pos} {l : List Nat} (hc : X.calm = true) (hN : X.N.Nodup) (hy : X.N[i]? = some y) (hyl : X.env.scope.names.lookup y = some .local) (hg : g = 0 ∨ g = 1)
    (hsw : swapsWith (.ListComp elt [⟨tg, iter, ifs, 0⟩] scope pos) (some (.Name y py)) spos.line X.env = pure true) (hi : PI X tg iter (tIt c F)) (ok : LcOk X c tg elt ifs scope ns T C E) (hs : ∀ x, foldedSetIterable iter X.env x = pure x) :
    PS X (.Assign [.Name y py] (.ListComp elt [⟨tg, iter, ifs, 0⟩] scope pos) spos) (tSt c fr fun ρ => do let (d, ρ) ← lcR F T C E ns (Cg.letGo ρ l); Cg.R.ok (.next, ← bindS ρ i d g)) := by
  obtain ⟨own, ok1, ok2⟩ := ok.own
  refine (ps_setLc (g := gA c ns T) (tt := tA0 c C) (te := eA c false E) hc hN hy hyl hsw hi ok1 (fun s H a cl fp => .any fun p => ok.tg p s H a cl fp) (fun s H a cl fp => .any fun p => ok.ifs p s H a cl fp) (fun s H a cl fp => .any fun p => ok.elt p s H a cl fp) hs).weak fun DD σ H ⟨O, ρ, R, z⟩ => ?_
  obtain ⟨O1, R1, s1⟩ := R.letGo l
  rw [ok2]
  refine lc_reads (gr := true) R1 ((wpR_bind.mp z).mono fun ⟨d, ρ1⟩ z v H1 r k => ?_)
  obtain ⟨hfr, z⟩ := wpR_bindS (wpR_bind.mp z)
  obtain ⟨O2, R2, s2⟩ := r.bind k hfr (hg.imp id fun h => ⟨h, rfl⟩)
  exact z O2 _ H1 R2 (s1.trans s2)
theorem pts_nilS : PTs X [] (Cg.tB c fun ρ => Cg.R.ok (true, ρ)) := pts_nil.weak fun σ H Q ⟨O, ρ, R, z⟩ => z H R (Keep.refl O H)
/-! ### a < b < c -/
theorem pe_chainS {p q r : Expr} {pos : Pos} {op op' : CmpOp} {r1 r2 : R2} {o1 o2 : CO} {g g1 g2 g3 : Bool} {F1 F2 F3 : Env → R (D × Env)} (ho : OpR X (compareOp op) r1) (ho' : OpR X (compareOp op') r2) (h1 : Op2 c false r1 (cmpD o1)) (h2 : Op2 c false r2 (cmpD o2))
    (hp : PE X p (tS c g1 F1)) (hq : PE X q (tS c g2 F2)) (hr : PE X r (tS c g3 F3)) (hm : lastMarks [op, op'] [q, r] = false) :
    PE X (.Compare p [op, op'] [q, r] pos) (tS c g fun ρ => do
      let (x, ρ) ← F1 ρ
      let (y, ρ) ← F2 ρ
      if (← cmpR o1 x y) then
        let (z, ρ) ← F3 ρ
        Cg.R.ok (.bool (← cmpR o2 y z), ρ)
      else Cg.R.ok (.bool false, ρ)) := by
  refine (pe_chain ho ho' hp.lax hq.lax hr.lax hm).weak fun σ H Q ⟨O, ρ, R, z⟩ => ⟨O, ρ, R, (wpR_bind.mp z).mono fun ⟨x, ρ1⟩ z v H1 s1 k1 => ⟨O, ρ1, s1.rel, (wpR_bind.mp z).mono fun ⟨y, ρ2⟩ z u H2 s2 k2 => ?_⟩⟩
  have rx : Rep c.k (Al c O) H2 x v := s1.rel.rep k2 s1.rep
  refine h1 O ρ2 σ H2 x y v u _ s2.rel rx.toB s2.rep.toB (wpR_bind.mpr ((wpR_bind.mp z).mono fun b z w H3 s3 k3 => ?_))
  refine ⟨b, s3.rep, ?_⟩
  cases b with
  | false => exact z _ H3 (.scal s3.rel rfl rfl) ((k1.trans k2).trans k3)
  | true =>
    rw [if_pos rfl] at z
    refine ⟨O, ρ2, s3.rel, (wpR_bind.mp z).mono fun ⟨zv, ρ3⟩ z w4 H4 s4 k4 => ?_⟩
    have ry : Rep c.k (Al c O) H4 y u := s3.rel.rep k4 (s2.rel.rep k3 s2.rep)
    exact h2 O ρ3 σ H4 y zv u w4 Q s4.rel ry.toB s4.rep.toB (wpR_bind.mpr ((wpR_bind.mp z).mono fun b z w5 H5 s5 k5 => z w5 H5 (.scal s5.rel s5.rep rfl) ((((k1.trans k2).trans k3).trans k4).trans k5)))
theorem pt_chainS {p q r : Expr} {pos : Pos} {op op' : CmpOp} {r1 r2 : R2} {o1 o2 : CO} {g1 g2 g3 : Bool} {F1 F2 F3 : Env → R (D × Env)} (ho : OpR X (compareOp op) r1) (ho' : OpR X (compareOp op') r2) (h1 : Op2 c false r1 (cmpD o1)) (h2 : Op2 c false r2 (cmpD o2))
    (hp : PE X p (tS c g1 F1)) (hq : PE X q (tS c g2 F2)) (hr : PE X r (tS c g3 F3)) (hm : lastMarks [op, op'] [q, r] = false) :
    PT X (.Compare p [op, op'] [q, r] pos) (Cg.tB c fun ρ => do
      let (d, ρ) ← (do
        let (x, ρ) ← F1 ρ
        let (y, ρ) ← F2 ρ
        if (← cmpR o1 x y) then
          let (z, ρ) ← F3 ρ
          Cg.R.ok (.bool (← cmpR o2 y z), ρ)
        else Cg.R.ok (.bool false, ρ) : R (D × Env))
      Cg.R.ok (← d.truth, ρ)) := by
  refine (pt_chain ho ho' hp.lax hq.lax hr.lax hm).weak fun σ H Q ⟨O, ρ, R, z⟩ => ⟨O, ρ, R, ?_⟩
  refine (wpR_bind.mp (wpR_bind.mp z)).mono fun ⟨x, ρ1⟩ z v H1 s1 k1 => ⟨O, ρ1, s1.rel, (wpR_bind.mp z).mono fun ⟨y, ρ2⟩ z u H2 s2 k2 => ?_⟩
  have rx : Rep c.k (Al c O) H2 x v := s1.rel.rep k2 s1.rep
  refine h1 O ρ2 σ H2 x y v u _ s2.rel rx.toB s2.rep.toB (wpR_bind.mpr ((wpR_bind.mp z).mono fun b z w H3 s3 k3 => ?_))
  refine ⟨b, s3.rep, ?_⟩
  cases b with
  | false => exact ⟨false, rfl, z H3 s3.rel ((k1.trans k2).trans k3)⟩
  | true =>
    rw [if_pos rfl] at z
    refine ⟨O, ρ2, s3.rel, (wpR_bind.mp z).mono fun ⟨zv, ρ3⟩ z w4 H4 s4 k4 => ?_⟩
    have ry : Rep c.k (Al c O) H4 y u := s3.rel.rep k4 (s2.rel.rep k3 s2.rep)
    exact h2 O ρ3 σ H4 y zv u w4 _ s4.rel ry.toB s4.rep.toB (wpR_bind.mpr ((wpR_bind.mp z).mono fun b z w5 H5 s5 k5 => ⟨b, s5.rep, z H5 s5.rel ((((k1.trans k2).trans k3).trans k4).trans k5)⟩))
/-! ### an own list changed -/
theorem Rel.chg {O : Ow} {ρ : Env} {σ : L2.St} {H : Hp} {i g : Nat} {d d' : D} {p : Addr} {xs ws : List V} (R : Rel c O ρ σ H) (e : ρ[i]? = some (some (d, g))) (hg : ownG g = true) (hs : σ[i]? = some (some (.ref p))) (ho : O p = some i) (hp : H p = some (.lst xs))
    (oa : OwnA c.k (Al c O) (upd H p (.lst ws)) p d') : Rel c O (putS ρ i d') σ (upd H p (.lst ws)) ∧ Stay O H O (upd H p (.lst ws)) := by
  have ne : ∀ {a : Addr}, a ≠ p → upd H p (.lst ws) a = H a := fun {a} n => upd_ne n
  have fra : FrA [p] H (upd H p (.lst ws)) := ⟨fun a o h n m => by rw [ne fun q => m (by rw [q]; exact List.mem_singleton.mpr rfl)]; exact h, fun a ps h => ⟨#[], by
    have n : a ≠ p := fun q => by rw [q, hp] at h; cases h
    rw [ne n, h]; simp⟩⟩
  refine ⟨?_, fun a o h n z => ⟨z, by rw [ne fun q => by rw [q, ho] at z; cases z]; exact h⟩⟩
  have r := R.after (O' := O) (ls := [(i, p)]) (outs := [d']) (B := Al c O) (fun q hq => by
    rw [List.mem_singleton.mp hq]
    exact ⟨ho, hs, d, g, e, hg⟩) (by simp) (fun _ _ h => h) (fun _ _ => rfl) (fun b j h1 h2 => absurd h1 h2) fra (R.tabs.at hp) ⟨p, [], rfl, oa, rfl⟩ (fun _ h => h)
  exact r
theorem ownedList {O : Ow} {ρ : Env} {σ : L2.St} {H : Hp} {i g : Nat} {ds : List D} {p : Addr} (R : Rel c O ρ σ H) (e : ρ[i]? = some (some (.lst ds, g))) (hg : ownG g = true) (hs : σ[i]? = some (some (.ref p))) : ∃ vs, H p = some (.lst vs) ∧ Reps c.k (Al c O) H ds vs := by
  obtain ⟨v, e1, e2⟩ := R.slot i _ g e
  rw [hs] at e1
  cases e1
  obtain ⟨a, vs, q1, q2, q3, q4⟩ := e2.ownG hg
  cases q1
  exact ⟨vs, q3, q4⟩
theorem repsUpd {O : Ow} {ρ : Env} {σ : L2.St} {H : Hp} {p : Addr} {i : Nat} {xs ws : List V} (R : Rel c O ρ σ H) (ho : O p = some i) (hp : H p = some (.lst xs)) : KeepA (Al c O) H (upd H p (.lst ws)) := fun b o e n z => by
  rw [upd_ne fun q => ?_]
  · exact e
  · subst q
    rcases z with z | ⟨ys, z⟩
    · rw [z.1] at ho; cases ho
    · rw [R.nown e z] at ho; cases ho
/-- x[a] = e, of an own list -/
theorem ps_putS {i : Nat} {x : Str} {px tpos pos : Pos} {a e : Expr} {l : List Nat} {g1 g2 : Bool} {F1 F2 : Env → R (D × Env)} (hx : PE X (.Name x px) (tVar i)) (he : PE X e (tS c g1 F1)) (ha : PE X a (tS c g2 F2))
    (hs : swapsWithSole [.Subscript (.Name x px) a tpos] e pos.line X.env = pure false) (hw : swappedStores [.Subscript (.Name x px) a tpos] e X.env = pure none) (h1 : (assignEach [.Subscript (.Name x px) a tpos] X.env).map (·.2) = [assign (.Subscript (.Name x px) a tpos) X.env])
    (hb : ∀ v, assign (.Subscript (.Name x px) a tpos) X.env v = (do
      let ov ← holding [v] (eval (.Name x px) X.env)
      let iv ← holding [v, ov] (eval a X.env)
      standAt tpos
      holding [v, ov, iv] (setItem ov iv v)
      release [v, ov, iv] [])) :
    PS X (.Assign [.Subscript (.Name x px) a tpos] e pos) (tSt c fr fun ρ => do
      let (d, ρ) ← F1 (Cg.letGo ρ l)
      let _ ← ownS ρ i
      let (j, ρ) ← F2 ρ
      match (← ownS ρ i) with
      | .lst l => Cg.R.ok (.next, putS ρ i (.lst (← setNth l (← j.toInt) d)))
      | _ => Cg.R.bad) := by
  refine (ps_asg he.lax (pg_sub hx ha.lax set_list hb) hs hw h1).weak fun DD σ H ⟨O, ρ, R, z⟩ => ?_
  obtain ⟨O1, R1, s1⟩ := R.letGo l
  refine ⟨O1, _, R1, (wpR_bind.mp z).mono fun ⟨d, ρ1⟩ z v H1 r1 k1 => ?_⟩
  obtain ⟨d0, g0, p, _, _, _, e1, e2, z⟩ := ownS_eq r1.rel (wpR_bind.mp z)
  refine ⟨.ref p, e1, O1, ρ1, r1.rel, (wpR_bind.mp z).mono fun ⟨j, ρ2⟩ za w H2 r2 k2 => ?_⟩
  obtain ⟨d2, g2, p', f1, f2, f3, f4, f5, zz⟩ := ownS_eq r2.rel (wpR_bind.mp za)
  clear za z
  rw [e1] at f4
  cases f4
  cases d2 <;> first | exact (show False from zz).elim | skip
  rename_i ds
  cases j <;> first | exact (show False from zz).elim | skip
  rename_i n
  have z : wpR c (setNth ds n d) (fun q => wpR c (Cg.R.ok (Ctl.next, putS ρ2 i (.lst q))) (EndOk c fr DD O H)) := wpR_bind.mp zz
  unfold setNth at z
  obtain ⟨vs, hp, rv⟩ := ownedList r2.rel f1 f2 e1
  rw [place_eq] at z
  cases q : ixN ds.length n with
  | none => rw [q] at z; exact z.elim
  | some m =>
    rw [q] at z
    have z : EndOk c fr DD O H (.next, putS ρ2 i (.lst (ds.set m d))) := z
    have rd : Rep c.k (Al c O1) H2 d v := r1.rel.rep k2 r1.rep
    have ka := repsUpd (ws := vs.set m v) r2.rel f5 hp
    obtain ⟨R3, s3⟩ := r2.rel.chg (ws := vs.set m v) f1 f2 e1 f5 hp (d' := .lst (ds.set m d)) ⟨_, upd_same, Reps.keep ka _ _ (rv.set m rd)⟩
    refine ⟨p, vs, n, m, rfl, r2.rep, hp, by rw [rv.length]; exact q, z O1 σ _ R3 (((s1.trans k1.stay).trans k2.stay).trans s3)⟩
end
end Cg
set_option Elab.async false
set_option linter.all false
set_option maxRecDepth 100000
set_option maxHeartbeats 4000000
namespace Cg
open PySem PySem.Spec PyProof.Rows L2 PySem.SeqAt

/-! ### errors made of nothing: their list of arguments is known, too -/
theorem traced_up {Z Z' : Obj → Prop} {h base : Heap} {e : Addr} {fl : Value} {ob : Obj} (x : HandSPX.TracedZ h base e Z fl) (g : h.get? e = some ob) (z : Z' ob) : HandSPX.TracedZ h base e Z' fl := by
  obtain ⟨oe, vs, T, oT, ts, h1, _, r⟩ := x
  rw [g] at h1
  cases h1
  exact ⟨ob, vs, T, oT, ts, g, z, r⟩
theorem sky_up {Z Z' : Obj → Prop} {B h : Heap} {l : List PySem.Env} {a L : Addr} {ob : Obj} (x : Sky B l a Z L h) (g : h.get? a = some ob) (z : Z' ob) : Sky B l a Z' L h := by
  rcases x with ⟨h1, h2, h3, oe, vs, h4, _, r⟩ | ⟨h1, h2, h3, h4⟩ | ⟨h1, h2, h3, h4⟩
  · rw [g] at h4
    cases h4
    exact .inl ⟨h1, h2, h3, ob, vs, g, z, r⟩
  · exact .inr (.inl ⟨h1, h2, h3, traced_up h4 g z⟩)
  · exact .inr (.inr ⟨h1, h2, h3, traced_up h4 g z⟩)
/-- such an error in the air -/
def XEx (X : Cx) (W : WX) (u : Value) (s' : Shared) : Prop := ∃ (a : Addr) (B : Heap) (sI : Shared) (pins : List (Addr × Obj)) (σ : L2.St) (H : Hp) (cls : Value) (t : Addr), u = .ref a ∧ Inv X pins σ H sI ∧
  (∀ b o, sI.heap.get? b = some o → b ∉ frs X.stack → B.get? b = some o) ∧ sI.heap.UpToSlots s'.heap ∧ Sky B X.stack a (Zx cls t) X.env.locals s'.heap ∧ H a = none ∧ H t = some (.tup []) ∧ s'.os = sI.os ∧ AllBare s'.gens ∧ W cls none σ H
def Takesx (X : Cx) (W : WX) : Prop := ∀ u s', XEx X W u s' → X.xe u s'
/-- such an error behind a call -/
def CXx (P : Program) (w : World) (outer : List PySem.Env) (H : Hp) (s : Shared) (E : XK) (u : Value) (s' : Shared) : Prop := ∃ (a : Addr) (B : Heap) (H' : Hp) (cls : Value) (t : Addr), u = .ref a ∧
  HandSPX.FlyingZ B outer a (Zx cls t) s'.heap ∧ HOk P w H' B ∧ UB (frs outer) H H' s.heap B s'.heap ∧ H' a = none ∧ H' t = some (.tup []) ∧ s'.os = s.os ∧ AllBare s'.gens ∧ E cls none H'
section
variable {X : Cx} {pins : List (Addr × Obj)} {σ : L2.St} {H : Hp} {s sI s' : Shared} {W : WX} {E : XK}
theorem flying_get {B h : Heap} {l : List PySem.Env} {a : Addr} {Z : Obj → Prop} (x : HandSPX.FlyingZ B l a Z h) : ∃ ob, h.get? a = some ob ∧ Z ob := by
  obtain ⟨_, _, _, oe, vs, _, _, _, h1, h2, _⟩ := x
  exact ⟨oe, h1, h2⟩
/-- a wish that is met by one class, one heap, one state of the slots -/
def only (cls : Value) (σ : L2.St) (H : Hp) : WX := fun cl d σ' H' => cl = cls ∧ d = none ∧ σ' = σ ∧ H' = H
theorem XEx.ofXE {a : Addr} {cls : Value} {t : Addr} {ob : Obj} (x : XE X (only cls σ H) (.ref a) s') (g : s'.heap.get? a = some ob) (z : Zx cls t ob) (ht : H t = some (.tup [])) (w : W cls none σ H) : XEx X W (.ref a) s' := by
  obtain ⟨a', B, sI, pins, σ', H', cl, d, e, I, nb, up, sky, na, os, ag, e1, e2, e3, e4⟩ := x
  cases e
  subst e1 e2 e3 e4
  exact ⟨a, B, sI, pins, σ', H', cl, t, rfl, I, nb, up, sky_up sky g z, na, ht, os, ag, w⟩
theorem XEx.of_call (I : Inv X pins σ H s) {u : Value} (x : CXx X.prog X.w X.stack H s E u s') (hW : ∀ cls H', E cls none H' → W cls none σ H') : XEx X W u s' := by
  obtain ⟨a, B, H', cls, t, rfl, fl, ok, ub, na, ht, os, ag, e⟩ := x
  obtain ⟨ob, g, z⟩ := flying_get fl
  obtain ⟨f1, f2, f3, f4⟩ := fl
  have cx : CX X.prog X.w X.stack H s (fun cl d H2 => cl = cls ∧ d = none ∧ H2 = H') (.ref a) s' := ⟨a, B, H', cls, none, rfl, ⟨f1, f2, f3, traced_up f4 g z.zc⟩, ok, ub, na, os, ag, rfl, rfl, rfl⟩
  have x : XE X (only cls σ H') (.ref a) s' := XE.of_call I (fun cl d H2 ⟨q1, q2, q3⟩ => ⟨q1, q2, rfl, q3⟩) cx
  exact XEx.ofXE x g z ht (hW _ _ e)
theorem XEx.new {a t : Addr} {oe : Obj} {vs : Array Value} {cls : Value} (I : Inv X pins σ H sI) (k : ∀ b o, sI.heap.get? b = some o → s'.heap.get? b = some o) (hn : sI.heap.get? a = none) (g : s'.heap.get? a = some oe) (z : Zx cls t oe) (hd : oe.data = .fields vs) (h1 : vs[1]? = some .none)
    (na : H a = none) (ht : H t = some (.tup [])) (os : s'.os = sI.os) (ag : AllBare s'.gens) (w : W cls none σ H) : XEx X W (.ref a) s' :=
  XEx.ofXE (XE.new (W := only cls σ H) I k hn g z.zc hd h1 na os ag ⟨rfl, rfl, rfl, rfl⟩) g z ht w
theorem XEx.leave (hs : X.stack = X.env :: X.outer) (hf : X.env.frame = some X.env.locals) (hex : X.ex = []) {E₁ : Value → Shared → Prop} (hW : ∀ cls σ H, W cls none σ H → E cls none H) {u : Value} (x : XEx X W u s') :
    wpAny (model X.prog X.w) X.A (leaving X.env u) (fun _ s2 => CXx X.prog X.w X.outer X.H_0 X.s_0 E u s2) E₁ s' := by
  obtain ⟨a, B, sI, pins, σ, H, cls, t, rfl, I, nb, up, sky, na, ht, os, ag, w⟩ := x
  have fr : X.A.frames = some (X.env :: X.outer) := by rw [I.ok.frames, hs]
  have out : ∀ b, b ∉ X.ex := fun b m => by rw [hex] at m; cases m
  have old : ∀ b o, X.s_0.heap.get? b = some o → b ∉ X.fs → b ∉ frs X.stack := fun b o e n m => by
    rcases List.mem_cons.mp (I.stkSub b m) with q | q
    · have lt := Heap.lt_size e
      rw [q] at lt
      exact Nat.lt_irrefl _ (Nat.lt_of_lt_of_le lt I.ok.above)
    · exact n q
  have done : ∀ h2, HandSPX.FlyingZ B X.outer a (Zx cls t) h2 → s'.heap.UpToSlots h2 → CXx X.prog X.w X.outer X.H_0 X.s_0 E (.ref a) { s' with heap := h2 } := by
    intro h2 fl up2
    refine ⟨a, B, H, cls, t, rfl, fl, I.inGround nb, ?_, na, ht, os.trans I.os, ag, hW _ _ _ w⟩
    constructor
    · exact fun b o e n m => nb b o (I.base.keep b o e n m (out b)) (old b o e m)
    · intro b o e m
      obtain ⟨_, o2, e2, nf⟩ := I.ok.funs.mem m
      rw [e] at e2
      cases e2
      obtain ⟨l1, g1⟩ := I.base.slot b o e (I.ok.frf b m) m (out b)
      obtain ⟨l2, g2⟩ := up b _ g1 nf
      obtain ⟨l3, g3⟩ := up2 b _ g2 nf
      exact ⟨l3, g3⟩
    · exact fun b o e n => I.base.free b o e n (out b)
    · intro b o e m
      obtain ⟨o2, g2⟩ := I.base.there b o e (out b)
      exact ⟨o2, nb b o2 g2 (old b o e m)⟩
    · exact I.base.tups
    · exact I.base.frzs
    · exact I.base.tbls
  rw [hs] at sky
  rcases sky with ⟨q1, q2, q3, oe, vs, q4, q5, q6, q7⟩ | fl | hd
  · exact PXN.leaving_firstZ Zx.steady fr q3 hf q4 q1 q2 q6 q7 q5 done
  · exact PXN.leaves_onZ Zx.steady fr hf fl done
  · exact HandSPX.leaves_heldZ hf hd done
theorem takesx_of (hs : X.stack = X.env :: X.outer) (hf : X.env.frame = some X.env.locals) (hex : X.ex = []) {E₁ : Value → Shared → Prop} (hx : X.xe = fun e s2 => wpAny (model X.prog X.w) X.A (leaving X.env e) (fun _ s3 => CXx X.prog X.w X.outer X.H_0 X.s_0 E e s3) E₁ s2) :
    Takesx X (fun cls d _ H => E cls d H) := fun u s2 x => by
  rw [hx]
  exact x.leave (E := E) hs hf hex fun _ _ _ h => h
theorem passesx (tk : Takesx X (fun cls d _ H => E cls d H)) : Passes (CXx X.prog X.w) X E := fun pins σ H s e s2 I cx => tk e s2 (XEx.of_call I cx fun _ _ h => h)
end
/-! ### making them -/
def MkX (X : Cx) (pins : List (Addr × Obj)) (σ : L2.St) (Q : XK) (u : Value) (s' : Shared) : Prop := ∃ (a t : Addr) (oe : Obj) (vs : Array Value) (sI : Shared) (H' : Hp) (cls : Value), u = .ref a ∧ Inv X pins σ H' sI ∧ (∀ b o, sI.heap.get? b = some o → s'.heap.get? b = some o) ∧ sI.heap.get? a = none ∧
  s'.heap.get? a = some oe ∧ Zx cls t oe ∧ oe.data = .fields vs ∧ vs[1]? = some .none ∧ H' a = none ∧ H' t = some (.tup []) ∧ s'.os = sI.os ∧ AllBare s'.gens ∧ Raises X cls ∧ Q cls none H'
def PMx (X : Cx) (e : Expr) (t : L2.St → Hp → XK → Prop) : Prop := ∀ (pins : List (Addr × Obj)) (s : Shared) (σ : L2.St) (H : Hp) (Q : XK), Inv X pins σ H s → t σ H Q → wpAny (model X.prog X.w) X.A (eval e X.env) (MkX X pins σ Q) X.xe s
theorem ps_raisex {X : Cx} {W : WX} {e : Expr} {t : L2.St → Hp → XK → Prop} {pos : Pos} (hc : X.calm = true) (tk : Takesx X W) (he : PMx X e t) : PS X (.Raise (some e) none pos) (fun _ σ H => t σ H fun cls d H' => W cls d σ H') := by
  refine ⟨fun pins s σ H DD I h => ?_⟩
  show wpAny _ _ (do standAt pos; raiseStmt X.env (some (do let v ← eval e X.env; standAt pos; pure v)) none) _ _ _
  refine wpAny_bind (wpAny_standAt (raise_made (I.ok.hd hc) (wpAny_bind (wpAny_mono (he pins s σ H _ I h) (fun u s1 m => wpAny_bind (wpAny_standAt (wpAny_pure ?_))) fun _ _ x => x))))
  obtain ⟨a, ta, oe, vs, sI, H', cls, rfl, J, k, hn, g, z, hd, h1, na, ht, os, ag, r, q⟩ := m
  obtain ⟨r1, r2⟩ := r (model X.prog X.w) s1.heap (J.kIn.keeps k)
  exact ⟨a, oe, vs, cls, rfl, g, z.1.1, hd, h1, r1, r2, tk _ _ (XEx.new J k hn g z hd h1 na ht os ag q)⟩
/-- X(), an own error class -/
theorem pmx_own0 {X : Cx} {C : Addr} {bmB : List Value} {B newId initId : String} {x : Str} {p pos : Pos} (F : ExcBaseFacts B newId initId bmB) (q : PySem.W.excIn X.K C bmB newId = true) (gC : X.mg x = some (.ref C)) (kC : PySem.W.keepIn X.K (.ref C) = true) (r : Raises X (.ref C)) (hg : Gl X x)
    (hdb : (x == ("__debug__" : Str)) = false) : PMx X (.Call (.Name x p) [] [] pos) (fun _ H Q => ∀ t, H t = none → Q (.ref C) none (upd H t (.tup []))) := by
  intro pins s σ H Q I h
  refine wpAny_Call_Name_kw (ld_glob I hg gC ?_ hdb)
  refine PySem.W.callWith_K0 I.kIn kC ?_
  obtain ⟨bm, N, nm, qn, bs, hdct, sn, sub, ab, col, dd, k0, k1, k2, k3, k5, mN, hC, hN, hni, T⟩ := exc_obj I.kIn q
  refine wpAny_call_exc_subT F T hC hN hni (fun h' e hm => ?_) (by show 0 ≤ sizeLine; exact Nat.zero_le _)
  obtain ⟨t, he, ht, hx⟩ := hm.there
  have nte : t ≠ e := fun z => by
    rw [z, he] at hx
    have q1 := congrArg Obj.cls (Option.some.inj hx)
    cases q1
  have hte : H t = none := I.hok.gone ht
  have he0 : H e = none := I.hok.gone hm.new
  obtain ⟨G, g1, g2⟩ := restrict h' fun b => decide (b ≠ e)
  have gne : ∀ b, b ≠ e → G.get? b = h'.get? b := fun b n => g1 b (by simpa using n)
  have kG : ∀ b u, s.heap.get? b = some u → G.get? b = some u := fun b u z => by
    rw [gne b fun w => by rw [w, hm.new] at z; cases z]
    exact hm.keeps b u z
  have gt : G.get? t = some { cls := .type "tuple", data := .seq #[] } := by rw [gne t nte]; exact hx
  have J : Inv X pins σ (upd H t (.tup [])) { s with heap := G, toks := s.toks } := I.laidN kG ht hte ⟨Nat.zero_le _, [], .nil, _, gt, rfl, _, rfl⟩
  refine ⟨e, t, _, _, { s with heap := G }, upd H t (.tup []), .ref C, rfl, J, fun b o z => ?_, g2 e (by simp), he, ⟨⟨rfl, rfl⟩, fun vs w => ?_, fun vs w => ?_⟩, rfl, rfl, ?_, upd_same, rfl, I.bare, r, h t hte⟩
  · by_cases n : b = e
    · rw [n, g2 e (by simp)] at z; cases z
    · rw [gne b n] at z; exact z
  · cases w; rfl
  · cases w; rfl
  · rw [upd_ne fun w => nte w.symm]; exact he0
end Cg
set_option Elab.async false
set_option linter.all false
set_option maxRecDepth 100000
set_option maxHeartbeats 4000000
namespace Cg
open PySem PySem.Spec PyProof.Rows L2 PySem.SeqAt
/-! ### lists of truth values: count, index -/
section
variable {X : Cx} {c : Fc} {F G : Env → R (D × Env)}
theorem wpR_bools {P : List Bool → Prop} : ∀ {l : List D}, wpR c (boolsR l) P → ∃ bs : List Bool, l = bs.map D.bool ∧ P bs
  | [], h => ⟨[], rfl, h⟩
  | .bool i :: ds, h => by
    obtain ⟨ns, e, q⟩ := wpR_bools (wpR_bind.mp (show wpR c (do let r ← boolsR ds; Cg.R.ok (i :: r)) P from h))
    exact ⟨i :: ns, by rw [e]; rfl, q⟩
  | .non :: _, h => h.elim
  | .int _ :: _, h => h.elim
  | .str _ :: _, h => h.elim
  | .tup _ :: _, h => h.elim
  | .lst _ :: _, h => h.elim
  | .dct _ :: _, h => h.elim
  | .exc _ :: _, h => h.elim
  | .rep _ :: _, h => h.elim
  | .scr _ :: _, h => h.elim
theorem reps_bools {k : Kx} {A : Addr → Prop} {H : Hp} : ∀ {ns : List Bool} {vs : List V}, Reps k A H (ns.map D.bool) vs → vs = ns.map V.bl
  | [], _, r => r
  | n :: ns, _, ⟨v, r, e, h1, h2⟩ => by rw [e, show v = V.bl n from h1, reps_bools h2]; rfl
theorem vals_bools : ∀ {bs : List Bool} {us : List Value}, Vals (bs.map V.bl) us → us = bs.map Value.bool
  | [], _, .nil => rfl
  | b :: bs, _, .cons h t => by rw [vals_bools t, show _ = Value.bool b from h]; rfl
def rCntB (K : PySem.W.Frag) : V → List V → Hp → VK → Prop := fun x xs H Q => ∃ (p : Addr) (bs : List Bool) (b : Bool), x = .ref p ∧ xs = [.bl b] ∧ SqL K H p (bs.map V.bl) ∧ Q (.int (bs.count b : Nat)) H
theorem count_eq {b : Bool} : ∀ bs : List Bool, (bs.map Value.bool).countP (fun u => u == Value.bool b) = bs.count b
  | [] => rfl
  | x :: bs => by
    rw [List.map_cons, List.countP_cons, List.count_cons, count_eq bs]
    have e : (Value.bool x == Value.bool b) = (x == b) := by cases x <;> cases b <;> rfl
    rw [e]
theorem mt_countB (hu : X.A.units + 4 < cLine) : MtR X "list.count" (rCntB X.K) := by
  intro pins s σ H x xs v us Q I rx rxs h
  obtain ⟨p, bs, b, rfl, rfl, hs, q⟩ := h
  cases rx
  obtain ⟨u, rfl, ru⟩ := rxs.one
  have ru : u = Value.bool b := ru
  subst ru
  obtain ⟨its, rv, ⟨⟨cls, dd, data, sl⟩, n, ho, hc, hdn, hd⟩, hlen⟩ := I.list hs
  simp only at hc hd
  subst hc hd
  have hi := vals_bools rv
  subst hi
  refine call_meets PySem.F.slot_list_count ⟨_, ho, rfl⟩ PySem.F.entry_list_count (PySem.F.args_list_count_2 _ _)
    (list_countAt p (bs.map Value.bool).toArray n dd sl (.bool b) (fun u => u == Value.bool b)) ⟨ho, fun y hy => ?_, ⟨.int (bs.count b : Nat), H, I.tok _, ⟨s.toks, ?_⟩, q⟩⟩
  · obtain ⟨y', hy', rfl⟩ := List.mem_map.mp (show y ∈ bs.map Value.bool by simpa using hy)
    have e : (Value.bool y' == Value.bool b) = (D.bool y').eqv (.bool b) := by cases y' <;> cases b <;> rfl
    show EqAt _ _ _ _ (Value.bool y' == Value.bool b)
    rw [e]
    exact eqAtD (a := .bool y') (b := .bool b) rfl rfl (by show _ + 0 < _; show X.A.units + _ + 0 < _; omega)
  · show Value.int ((List.countP _ (bs.map Value.bool).toArray.toList : Nat) : Int) _ = _
    rw [show (bs.map Value.bool).toArray.toList = bs.map Value.bool by simp, count_eq]
theorem isBools {O : Ow} {H : Hp} {l : List D} {v : V} {bs : List Bool} (r : RepB c O H (.lst l) v) (e : l = bs.map D.bool) : ∃ p, v = .ref p ∧ H p = some (.lst (bs.map V.bl)) := by
  obtain ⟨p, vs, rfl, hp, r1⟩ := r
  subst e
  obtain rfl := reps_bools r1
  exact ⟨p, rfl, hp⟩
theorem tyList {O : Ow} {H : Hp} {l : D} {v : V} {P : Unit → Prop} (r : RepB c O H l v) (h : wpR c (isLstR l) P) : tyV X.K "list" v H ∧ P () := by
  cases l <;> first | exact (show False from h).elim | skip
  obtain ⟨p, vs, rfl, hp, r1⟩ := r
  exact ⟨.inl ⟨rfl, vs, SqL.of hp⟩, h⟩
theorem pe_countS {o e : Expr} {a : E} {apos cpos : Pos} {g g1 : Bool} (hu : X.A.units + 4 < cLine) (ho : PE X o (tSee c a F)) (he : PE X e (tS c g1 G))
    (hw : ∀ (r : V → List V → Hp → VK → Prop) (to te : TE), MtR X "list.count" r → PE X o to → PE X e te → PE X (.Call (.Attribute o "count" apos) [e] [] cpos) (tBM X.K "list" r to (tCons te tNil))) :
    PE X (.Call (.Attribute o "count" apos) [e] [] cpos) (tS c g fun ρ => do let (l, ρ) ← seeW a F ρ; let _ ← isLstR l; let (d, ρ) ← G ρ; let l ← nowE a l ρ; Cg.R.ok (← countR l d, ρ)) := by
  refine (hw _ _ _ (mt_countB hu) ho he.lax).weak fun σ H Q ⟨O, ρ, R, z⟩ => ⟨O, ρ, R, (wpR_bind.mp z).mono fun ⟨l, ρ1⟩ z v H1 R1 k1 b1 n1 => ?_⟩
  obtain ⟨ty, z⟩ := tyList b1 (wpR_bind.mp z)
  refine ⟨ty, O, ρ1, R1, (wpR_bind.mp z).mono fun ⟨d, ρ2⟩ z u H2 r2 k2 => ?_⟩
  obtain ⟨l2, s1, z⟩ := n1 ρ2 H2 _ r2.rel k2 (wpR_bind.mp z)
  have zz := wpR_bind.mp z
  clear z n1
  cases l2 <;> first | exact (show False from zz).elim | skip
  cases d <;> first | exact (show False from zz).elim | skip
  rename_i ds b
  obtain ⟨bs, rfl, z⟩ := wpR_bools (wpR_bind.mp zz)
  obtain ⟨p, rfl, hp⟩ := isBools s1 rfl
  exact ⟨p, bs, b, rfl, by rw [show u = V.bl b from r2.rep], SqL.of hp, z _ H2 (.scal r2.rel rfl rfl) (k1.trans k2)⟩
theorem pe_indexS {o e : Expr} {a : E} {apos cpos : Pos} {g g1 : Bool} (ho : PE X o (tSee c a F)) (he : PE X e (tS c g1 G))
    (hw : ∀ (r : V → List V → Hp → VK → Prop) (to te : TE), MtR X "list.index" r → PE X o to → PE X e te → PE X (.Call (.Attribute o "index" apos) [e] [] cpos) (tBM X.K "list" r to (tCons te tNil))) :
    PE X (.Call (.Attribute o "index" apos) [e] [] cpos) (tS c g fun ρ => do let (l, ρ) ← seeW a F ρ; let _ ← isLstR l; let (d, ρ) ← G ρ; let l ← nowE a l ρ; Cg.R.ok (← indexR l d, ρ)) := by
  refine (hw _ _ _ mt_index ho he.lax).weak fun σ H Q ⟨O, ρ, R, z⟩ => ⟨O, ρ, R, (wpR_bind.mp z).mono fun ⟨l, ρ1⟩ z v H1 R1 k1 b1 n1 => ?_⟩
  obtain ⟨ty, z⟩ := tyList b1 (wpR_bind.mp z)
  refine ⟨ty, O, ρ1, R1, (wpR_bind.mp z).mono fun ⟨d, ρ2⟩ z u H2 r2 k2 => ?_⟩
  obtain ⟨l2, s1, z⟩ := n1 ρ2 H2 _ r2.rel k2 (wpR_bind.mp z)
  have zz := wpR_bind.mp z
  clear z n1
  cases l2 <;> first | exact (show False from zz).elim | skip
  cases d <;> first | exact (show False from zz).elim | skip
  rename_i ds b
  obtain ⟨bs, rfl, z⟩ := wpR_bools (wpR_bind.mp zz)
  obtain ⟨hc, z⟩ := z.if_
  obtain ⟨p, rfl, hp⟩ := isBools s1 rfl
  have hm : b ∈ bs := by simpa using hc
  have hlt : bs.idxOf b < bs.length := List.idxOf_lt_length_of_mem hm
  have fl : ∀ bs : List Bool, (bs.map V.bl).all flatV = true := fun bs => by
    rw [List.all_eq_true]
    intro v hv
    obtain ⟨w, _, rfl⟩ := List.mem_map.mp hv
    rfl
  have eb : ∀ x y : Bool, eqV (V.bl x) (V.bl y) = (x == y) := fun x y => by cases x <;> cases y <;> rfl
  refine ⟨p, bs.map V.bl, .bl b, bs.idxOf b, .bl b, rfl, by rw [show u = V.bl b from r2.rep], SqL.of hp, rfl, fl bs, ?_, by rw [eb]; simp, fun m w hm2 hw2 => ?_, z _ H2 (.scal r2.rel rfl rfl) (k1.trans k2)⟩
  · rw [List.getElem?_map, List.getElem?_eq_getElem hlt, List.getElem_idxOf hlt]
    rfl
  · rw [List.getElem?_map] at hw2
    cases q : bs[m]? with
    | none => rw [q] at hw2; cases hw2
    | some x =>
      rw [q] at hw2
      cases hw2
      rw [eb]
      have hne : bs[m]? ≠ some b := fun hh => by
        obtain ⟨hl, hh⟩ := List.getElem?_eq_some_iff.mp hh
        have := List.not_of_lt_findIdx (xs := bs) (p := fun x => x == b) (i := m) hm2
        rw [hh] at this
        simp at this
      rw [q] at hne
      simpa using hne
end
/-! ### error values -/
/-- what is asked of the error classes -/
structure ErrOk (X : Cx) (k : Kx) : Prop where
  cls : ∀ e, e < 5 → ∃ C, k.xc e = .ref C ∧ L2.ExcC X.K C
  kit : ∀ e c, e < 5 → c < 6 → PySem.W.kitOne X.K (k.xc e) (k.xc c) = some (c == e || c == 0 || c == 5)
  str : ∀ e, e < 5 → PySem.W.findIn X.K (k.xc e) "__str__" = some (some (.builtin "BaseException.__str__"))
  pin : ∀ a cls t, k.pin a cls t → ∃ oe, (a, oe) ∈ X.pn ∧ Zx cls t oe ∧ ∃ vs, oe.data = .fields vs
def clsV : Value → V
  | .ref a => .ref a
  | .type n => .ty n
  | _ => .non
section
variable {X : Cx} {c : Fc} {F : Env → R (D × Env)}
/-- an error's object in the machine's heap -/
theorem exc_at {pins : List (Addr × Obj)} {σ : L2.St} {H : Hp} {s : Shared} {k : Kx} {A : Addr → Prop} {e : Nat} {v : V} (I : Inv X pins σ H s) (hk : KxOk X k) (eo : ErrOk X k) (r : Rep k A H (.exc e) v) :
    ∃ a t oe vs, v = .ref a ∧ s.heap.get? a = some oe ∧ Zx (k.xc e) t oe ∧ oe.data = .fields vs ∧ IsTup s.heap t #[] := by
  obtain ⟨a, t, rfl, st, z⟩ := r
  rw [← hk.K] at st
  obtain ⟨its, rv, tt, _⟩ := I.tuple st
  cases rv
  rcases z with z | ⟨_, z⟩
  · obtain ⟨oe, m, zx, vs, hd⟩ := eo.pin _ _ _ z
    obtain ⟨g, _⟩ := I.pin (a, oe) (List.mem_append_left _ m)
    exact ⟨a, t, oe, vs, rfl, g, zx, hd, tt⟩
  · obtain ⟨⟨oe, vs, g, zx, hd⟩, _⟩ := I.hok a _ z
    exact ⟨a, t, oe, vs, rfl, g, zx, hd, tt⟩
def rIsErr (k : Kx) : List V → Hp → VK → Prop := fun xs H Q => ∃ (A : Addr → Prop) (e n : Nat) (v : V), xs = [v, clsV (k.xc n)] ∧ Rep k A H (.exc e) v ∧ e < 5 ∧ n < 6 ∧ (∃ u, k.xc n = u ∧ ((∃ a, u = .ref a) ∨ ∃ m, u = .type m)) ∧ Q (.bl (n == e || n == 0 || n == 5)) H
theorem call_isErr {k : Kx} (hk : KxOk X k) (eo : ErrOk X k) : CallR X (.builtin "isinstance") (rIsErr k) := by
  intro pins s σ H xs us Q I r h
  obtain ⟨A, e, n, v, rfl, rx, he, hn, hu, q⟩ := h
  obtain ⟨a, t, oe, vs, rfl, g, zx, hd, _⟩ := exc_at I hk eo rx
  obtain ⟨C, eC, xC⟩ := eo.cls e he
  cases r with
  | cons r1 rr =>
    cases rr with
    | cons r2 rr =>
      cases rr
      cases r1
      have key : ∀ u2, RelV (clsV (k.xc n)) u2 → u2 = k.xc n := by
        intro u2 r2
        obtain ⟨u, e1, e2⟩ := hu
        rw [e1] at r2 ⊢
        rcases e2 with ⟨b, rfl⟩ | ⟨m, rfl⟩
        · exact r2
        · exact r2
      have r3 := key _ r2
      subst r3
      have J : PySem.W.InstAt s.heap a oe C none := by
        obtain ⟨oc, od, oda, osl⟩ := oe
        obtain ⟨⟨h1, h2⟩, _⟩ := zx
        rw [eC] at h1
        dsimp only at h1 h2 hd
        subst h1 h2 hd
        exact ⟨g, rfl, rfl, trivial⟩
      have kk := eo.kit e n he hn
      rw [eC] at kk
      exact PySem.W.kia_one (PySem.W.handS_kitx_exc xC.hg xC.hk xC.hs xC.hd xC.ha xC.hn xC.ht xC.hm) I.kIn J kk (fun z => nomatch z) fun tk => ⟨.bl _, H, I.kept (t' := tk) fun _ _ z => z, rfl, q⟩
theorem pe_isErrS {p q whole : Expr} {n : Nat} {g g1 : Bool} (hk : KxOk X c.k) (eo : ErrOk X c.k) (hn : n < 6) (hu : (∃ a, c.k.xc n = .ref a) ∨ ∃ m, c.k.xc n = .type m) (hw : ∀ (r : List V → Hp → VK → Prop) ta tb, CallR X (.builtin "isinstance") r → PE X p ta → PE X q tb → PE X whole (tCB r (tCons ta (tCons tb tNil))))
    (hp : PE X p (tS c g1 F)) (hq : PE X q (tC (clsV (c.k.xc n)))) : PE X whole (tS c g fun ρ => do let (x, ρ) ← F ρ; Cg.R.ok (.bool (← isExcR n x), ρ)) := by
  refine (hw _ _ _ (call_isErr hk eo) hp.lax hq).weak fun σ H Q ⟨O, ρ, R, z⟩ => ⟨O, ρ, R, (wpR_bind.mp z).mono fun ⟨x, ρ1⟩ z v H1 r1 k1 => ?_⟩
  have zz := wpR_bind.mp z
  have rr := r1.rep
  clear z
  cases x <;> first | exact (show False from zz).elim | skip
  rename_i e
  obtain ⟨he, z⟩ := (show wpR c (if e < 5 then Cg.R.ok (n == e || n == 0 || n == 5) else Cg.R.bad) _ from zz).if_
  exact ⟨Al c O, e, n, v, rfl, rr, he, hn, ⟨_, rfl, hu⟩, z _ H1 (.scal r1.rel rfl rfl) k1⟩
/-! str(e) -/
def rStrErr (k : Kx) : List V → Hp → VK → Prop := fun xs H Q => ∃ (A : Addr → Prop) (e : Nat) (v : V), xs = [v] ∧ Rep k A H (.exc e) v ∧ e < 5 ∧ Q (.str W.empty.txt) H
theorem call_strErr {k : Kx} (hu : X.A.units + 2 < cLine) (hk : KxOk X k) (eo : ErrOk X k) : CallR X (.type "str") (rStrErr k) := by
  intro pins s σ H xs us Q I r h
  obtain ⟨A, e, v, rfl, rx, he, q⟩ := h
  obtain ⟨a, t, oe, vs, rfl, g, zx, hd, tt⟩ := exc_at I hk eo rx
  obtain ⟨C, eC, xC⟩ := eo.cls e he
  obtain ⟨u, rfl, ru⟩ := r.one
  have ru : u = Value.ref a := ru
  subst ru
  have st := eo.str e he
  rw [eC] at st
  have cl := zx.1.1
  rw [eC] at cl
  obtain ⟨ot, gt, ct, n, dt⟩ := tt
  exact PySem.P.str_of_C_none hu ⟨I.kIn, oe, vs, g, cl, hd, zx.2.2 vs hd⟩ ⟨ot, n, gt, ct, dt⟩ st xC.hs ⟨.str W.empty.txt, H, I.tok _, ⟨_, rfl⟩, q⟩
theorem strErr_D (g : Bool) : Op1 c g (rStrErr c.k) (b1R .strExc) := by
  intro O ρ σ H x v Q R rx z
  cases x <;> first | exact (show False from z).elim | skip
  rename_i e
  obtain ⟨he, z⟩ := (show wpR c (if e < 5 then Cg.R.ok (D.str .empty) else Cg.R.bad) _ from z).if_
  have rr : Rep c.k (fun _ => True) H (.exc e) v := rx.any
  exact ⟨_, e, v, rfl, rr, he, fin_scal R z rfl⟩
/-! X() as a value -/
theorem pe_own0 {C : Addr} {bmB : List Value} {B newId initId : String} {x : Str} {p pos : Pos} (Fx : ExcBaseFacts B newId initId bmB) (q : PySem.W.excIn X.K C bmB newId = true) (gC : X.mg x = some (.ref C)) (kC : PySem.W.keepIn X.K (.ref C) = true) (hg : Gl X x)
    (hdb : (x == ("__debug__" : Str)) = false) : PE X (.Call (.Name x p) [] [] pos) (fun _ H Q => ∀ t a, H t = none → H a = none → a ≠ t → Q (.ref a) (upd (upd H t (.tup [])) a (ExV (.ref C) a t))) := by
  refine ⟨fun pins s σ H Q I h => ?_⟩
  refine wpAny_Call_Name_kw (ld_glob I hg gC ?_ hdb)
  refine PySem.W.callWith_K0 I.kIn kC ?_
  obtain ⟨bm, N, nm, qn, bs, hdct, sn, sub, ab, col, dd, k0, k1, k2, k3, k5, mN, hC, hN, hni, T⟩ := exc_obj I.kIn q
  refine wpAny_call_exc_subT Fx T hC hN hni (fun h' e hm => ?_) (by show 0 ≤ sizeLine; exact Nat.zero_le _)
  obtain ⟨t, he, ht, hx⟩ := hm.there
  have nte : t ≠ e := fun z => by
    rw [z, he] at hx
    have q1 := congrArg Obj.cls (Option.some.inj hx)
    cases q1
  have hte : H t = none := I.hok.gone ht
  have he0 : H e = none := I.hok.gone hm.new
  obtain ⟨G, g1, g2⟩ := restrict h' fun b => decide (b ≠ e)
  have gne : ∀ b, b ≠ e → G.get? b = h'.get? b := fun b n => g1 b (by simpa using n)
  have kG : ∀ b u, s.heap.get? b = some u → G.get? b = some u := fun b u z => by
    rw [gne b fun w => by rw [w, hm.new] at z; cases z]
    exact hm.keeps b u z
  have gt : G.get? t = some { cls := .type "tuple", data := .seq #[] } := by rw [gne t nte]; exact hx
  have J : Inv X pins σ (upd H t (.tup [])) { s with heap := G, toks := s.toks } := I.laidN kG ht hte ⟨Nat.zero_le _, [], .nil, _, gt, rfl, _, rfl⟩
  have J2 : Inv X pins σ (upd (upd H t (.tup [])) e (ExV (.ref C) e t)) { s with heap := h', toks := s.toks } := J.laidN (h' := h') (fun b o z => by
    by_cases n : b = e
    · rw [n, g2 e (by simp)] at z; cases z
    · rw [gne b n] at z; exact z) (g2 e (by simp)) (by rw [upd_ne fun w => nte w.symm]; exact he0) ⟨⟨_, _, he, ⟨⟨rfl, rfl⟩, fun vs w => by cases w; rfl, fun vs w => by cases w; rfl⟩, rfl⟩, ⟨_, he⟩, fun h1 h2 ⟨oe, vs, w1, w2, w3⟩ hh => ⟨oe, vs, hh _ w1, w2, w3⟩⟩
  exact ⟨.ref e, _, J2, rfl, h t e hte he0 fun w => nte w.symm⟩
theorem pe_mkErrS {whole : Expr} {n : Nat} {g : Bool} {C : Addr} (hp : PE X whole (fun _ H Q => ∀ t a, H t = none → H a = none → a ≠ t → Q (.ref a) (upd (upd H t (.tup [])) a (ExV (.ref C) a t)))) (hC : c.k.xc n = .ref C) : PE X whole (tS c g fun ρ => if n < 5 then Cg.R.ok (.exc n, ρ) else Cg.R.bad) := by
  refine hp.weak fun σ H Q ⟨O, ρ, R, z⟩ t a ht ha hn => ?_
  obtain ⟨_, z⟩ := z.if_
  have R1 := R.laid (o := .tup []) ht
  have ha1 : upd H t (.tup []) a = none := by rw [upd_ne hn]; exact ha
  have R2 := R1.laid (o := ExV (.ref C) a t) ha1
  have k : Keep O H _ := (Ext.new (o := .tup []) ht).toKeep.trans (Ext.new (o := ExV (.ref C) a t) ha1).toKeep
  refine z _ _ (.scal R2 ⟨a, t, rfl, SqT.of ?_, .inr ⟨R1.alNew ha1, ?_⟩⟩ rfl) k
  · rw [upd_ne fun w => hn w.symm]; exact upd_same
  · rw [hC]; exact upd_same
end
end Cg
set_option Elab.async false
set_option linter.all false
set_option maxRecDepth 100000
set_option maxHeartbeats 4000000
namespace Cg
open PySem PySem.Spec PyProof.Rows L2 PySem.SeqAt
/-! ### a def that is handed the error that is handled -/
structure FnE (P : Program) (w : World) (K : PySem.W.Frag) (mg : Str → Option Value) (base : Heap) (CX : CXT) (lv : Nat) (f : Addr) (fd : FuncData) (ps : List Str) (sp : Addr × Obj → Sp) : Prop where
  len : ∀ q vs H Q E, sp q vs H Q E → vs.length = ps.length
  run : ∀ (A : Around) (outer : List PySem.Env) (s : Shared) (H : Hp) (as : PySem.Args) (us : List Value) (vs : List V) (Q : VK) (E : XK) (q : Addr × Obj), L2H.RoomH lv A → L2H.PinOk outer H s q → Env0 P w K mg base A outer s H → BindsTo s fd as (ps.zip us) → Vals vs us → sp q vs H Q E →
    codeAny (model P w) A (.call (.ref f) as) (CR CX outer P w H s Q E) s
theorem fnE_of {CX : CXT} {P : Program} {w : World} {K : PySem.W.Frag} {mg : Str → Option Value} {base : Heap} {lv : Nat} {f : Addr} {name qual : Str} {params : Arguments} {body : List Stmt} {scope : Scope} {dV kV doc pm cdv ct oc : Value} {an od : Option Addr} {osl : Array (Option Value)} {N ps : List Str} {sp : Addr × Obj → Sp}
    (lk : K.lookup f = some ⟨oc, od, .func (PySem.W.fnOf name qual params body scope dV kV doc pm an cdv ct), osl⟩) (hcd : PySem.W.codeIn K cdv qual = true) (S : FnScope N ps scope) (len : ∀ q vs H Q E, sp q vs H Q E → vs.length = ps.length)
    (hb : ∀ (A : Around) (outer : List PySem.Env) (s : Shared) (H : Hp) (vs : List V) (Q : VK) (E : XK) (q : Addr × Obj), L2H.RoomH lv (A.deeper (envOfC qual scope s.heap.objs.size f cdv)) → sp q vs H Q E →
      ∃ t, PSs (L2H.cxH CX P w K mg base N qual scope f cdv A outer s H E q) body t ∧ t { nx := fun _ H' => Q .non H', rt := Q } (L2.start N vs) H) :
    FnE P w K mg base CX (lv + 1) f (PySem.W.fnOf name qual params body scope dV kV doc pm an cdv ct) ps sp := by
  refine ⟨len, fun A outer s H as us vs Q E q room pin e0 bd rv hsp => ?_⟩
  have keep : ∀ b o, base.get? b = some o → s.heap.get? b = some o := fun b o e => (e0.bs b o e).1
  have kin : K.In s.heap := e0.mod.kin.keeps keep
  have kinds : ∀ y ∈ ps.zip us, scope.names.lookup y.1 = some .local ∨ (scope.names.lookup y.1 = some .cell ∧ ((cellsFrom (s.heap.objs.size + 1) scope.names []).lookup y.1).isSome = true) := by
    intro y hy
    obtain ⟨n, v⟩ := y
    exact (S.par n (List.of_mem_zip hy).1).imp id fun z => ⟨z, PySem.W.cellsFrom_some _ _ _ (.inl z)⟩
  refine codeAny_call_function room.depth (kin _ _ lk) rfl S.co S.gen rfl (PySem.W.codeRec_of kin hcd) (bd _ _ _ _ (wpAny_newFunctionEnv_cells S.kind kinds fun env he s1 x => ?_))
  subst he
  refine ⟨(e0.mod.nolimit.keeps keep).keeps x.toInCall.keep, codeAny_func ?_⟩
  obtain ⟨t, ht, hq⟩ := hb A outer s H vs Q E q (room.deeper _) hsp
  have I := L2H.inv_startH (CX := CX) (E := E) (cd := cdv) S pin e0 (len _ _ _ _ _ hsp) rv x
  refine wpAny_mono (ht.run [] s1 _ H _ I hq) (fun fl s2 hs => ?_) fun e s2 hs => hs
  cases fl with
  | ret u =>
    obtain ⟨v, σ2, H2, J, r, z⟩ := hs
    exact ⟨v, H2, J.os, J.bare, J.base, J.hok, r, z⟩
  | next =>
    obtain ⟨σ2, H2, J, z⟩ := hs
    exact ⟨.non, H2, J.os, J.bare, J.base, J.hok, rfl, z⟩
  | brk =>
    obtain ⟨_, _, _, z⟩ := hs
    exact z.elim
  | cont =>
    obtain ⟨_, _, _, z⟩ := hs
    exact z.elim
section
variable {X : Cx}
/-- the error itself is handed over -/
theorem run_fnE {CX : CXT} {lv : Nat} {f : Addr} {fd : FuncData} {ps : List Str} {sp : Addr × Obj → Sp} {E : XK} {pins : List (Addr × Obj)} {σ : L2.St} {H : Hp} {s : Shared} {Q : VK} {us : List Value} {vs : List V} {q : Addr × Obj} (Fn : FnE X.prog X.w X.K X.mg X.base CX lv f fd ps sp)
    (room : L2H.RoomH lv X.A) (hq : q ∈ X.pn) (bd : Binds X.K fd ps []) (hx : Passes CX X E) (I : Inv X pins σ H s) (r : Vals vs us) (h : sp q vs H Q E) : wpAny (model X.prog X.w) X.A (call (.ref f) us) (EP X pins σ Q) X.xe s := by
  have hl : us.length = ps.length := by rw [← r.length]; exact Fn.len _ _ _ _ _ h
  have b := bd s us I.kIn (by rw [List.append_nil]; exact hl)
  rw [List.append_nil] at b
  obtain ⟨g, n, n1, n2, n3⟩ := I.pin q (List.mem_append_left _ hq)
  have pin : L2H.PinOk X.stack H s q := ⟨g, n, fun m => (List.mem_cons.mp (I.stkSub q.1 m)).elim n1 n2, n3⟩
  refine wpAny_call (codeAny_mono (Fn.run X.A X.stack s H ⟨us, []⟩ us vs Q E q room pin I.env0 b r h) fun res s2 z => ?_)
  cases res with
  | error e => exact hx pins σ H s e s2 I z
  | ok fl =>
    cases fl with
    | ret u => exact I.after z
    | next => exact z.elim
    | brk => exact z.elim
    | cont => exact z.elim
theorem pe_callE {CX : CXT} {lv : Nat} {f : Addr} {fd : FuncData} {ps : List Str} {sp : Addr × Obj → Sp} {E : XK} {x : Str} {p0 : Expr} {ta : TA} {p pos : Pos} {q : Addr × Obj} (Fn : FnE X.prog X.w X.K X.mg X.base CX lv f fd ps sp) (room : L2H.RoomH lv X.A) (hq : q ∈ X.pn) (hg : Gl X x) (hm : X.mg x = some (.ref f))
    (kp : PySem.W.keepIn X.K (.ref f) = true) (bd : Binds X.K fd ps []) (hx : Passes CX X E) (ha : PA X [p0] ta) (hdb : (x == ("__debug__" : Str)) = false) (he : starEach [p0] X.env = (false, eval p0 X.env) :: starEach [] X.env) (hpl : (backTo pos (starEach [] X.env)).any (·.1) = false) :
    PE X (.Call (.Name x p) [p0] [] pos) (fun σ H Q => ta σ H fun vs H1 => sp q vs H1 Q E) := by
  refine ⟨fun pins s σ H Q I h => wpAny_Call_Name_kw (ld_glob I hg hm ?_ hdb)⟩
  exact PySem.W.callWith_K (h₀ := X.base) I.ok.mod.kin kp (thn (ha.run pos pins s σ H _ I h) fun us s1 ⟨vs, H1, I1, r, z⟩ => ⟨I1.kIn, run_fnE Fn room hq bd hx I1 r z⟩) he hpl
/-! ### try: body, except x as n: suite; every error is of x -/
def wTry (K : PySem.W.Frag) (cv : Value) (i : Nat) (ts : Addr → Obj → Value → Addr → TS) (D : Ends) : WX := fun cls _ σ H => PySem.W.exmOne K cls cv = some true ∧ ∀ a oe t, H a = none → H t = some (.tup []) → Zx cls t oe → (∃ vs, oe.data = .fields vs) →
  ts a oe cls t { nx := fun σ' H' => D.nx (σ'.set i none) H', rt := D.rt, bk := fun σ' H' => D.bk (σ'.set i none) H', ct := fun σ' H' => D.ct (σ'.set i none) H' } (σ.set i (some (.ref a))) H
theorem ps_tryx {x n : Str} {cv : Value} {i : Nat} {body suite : List Stmt} {b₀ : Stmt} {np pos pos' : Pos} {tb : WX → TS} {ts : Addr → Obj → Value → Addr → TS} (hs : X.stack = X.env :: X.outer) (hf : X.env.frame = some X.env.locals) (hN : X.N.Nodup) (hi : X.N[i]? = some n) (hl : X.env.kindOf n = some .local) (hc : Names X x cv)
    (hb : ∀ (W : WX) (pn : List (Addr × Obj)) (xe : Value → Shared → Prop), Takesx (X.tr pn xe) W → PassesOwn (model X.prog X.w) X.A X.env xe → PSs (X.tr pn xe) body (tb W))
    (hsu : ∀ (a : Addr) (oe : Obj) (cls : Value) (t : Addr) (pn : List (Addr × Obj)), Zx cls t oe → (∃ vs, oe.data = .fields vs) → PSs (X.suite a ((a, oe) :: pn)) (b₀ :: suite) (ts a oe cls t)) :
    PS X (.Try body [.ExceptHandler (some (.Name x np)) (some n) (b₀ :: suite) pos'] [] [] pos) (fun D σ H => tb (wTry X.K cv i ts D) D σ H) := by
  refine ⟨fun pins s σ H DD I h => ?_⟩
  have ok := I.ok
  have frames : X.A.frames = some (X.env :: X.outer) := by rw [ok.frames, hs]
  have into : ∀ {f : Flow} {s1 : Shared} {xe : Value → Shared → Prop}, SP (X.tr (X.pn ++ pins) xe) [] DD f s1 → SP X pins DD f s1 := by
    intro f s1 xe z
    cases f with
    | next => obtain ⟨σ2, H2, J, q⟩ := z; exact ⟨σ2, H2, J.ofTry ok, q⟩
    | brk => obtain ⟨σ2, H2, J, q⟩ := z; exact ⟨σ2, H2, J.ofTry ok, q⟩
    | cont => obtain ⟨σ2, H2, J, q⟩ := z; exact ⟨σ2, H2, J.ofTry ok, q⟩
    | ret u => obtain ⟨v, σ2, H2, J, r, q⟩ := z; exact ⟨v, σ2, H2, J.ofTry ok, r, q⟩
  let xe : Value → Shared → Prop := fun e s1 => wpAny (model X.prog X.w) X.A (noteFrame e X.env) (fun _ s2 => wpAny (model X.prog X.w) X.A (setFlight e none) (fun _ s3 => wpAny (model X.prog X.w) X.A (handleBy e X.env [.ExceptHandler (some (.Name x np)) (some n) (b₀ :: suite) pos']) (SP X pins DD) X.xe s3) X.xe s2) X.xe s1
  have caught : Takesx (X.tr (X.pn ++ pins) xe) (wTry X.K cv i ts DD) := by
    intro u s' y
    obtain ⟨a, B, sI, pins2, σ2, H2, cls, t, rfl, J0, nb, up, sky, na, ht, os, ag, hm, yes⟩ := y
    have J : Inv X pins σ2 H2 sI := J0.ofTry ok
    have sky2 : Sky B (X.env :: X.outer) a (Zx cls t) X.env.locals s'.heap := by rw [← hs]; exact sky
    show wpAny (model X.prog X.w) X.A (noteFrame (.ref a) X.env) _ _ _
    refine L2N.Sky.land Zx.steady frames hf sky2 fun h3 f3 up3 => ?_
    have at_ : ∀ {h4 : Heap}, HandSPX.FlyingZ B (X.env :: X.outer) a (Zx cls t) h4 → s'.heap.UpToSlots h4 → ∃ oe vs, h4.get? a = some oe ∧ Zx cls t oe ∧ oe.data = .fields vs ∧ a ≠ X.env.locals ∧ a ∉ X.fs ∧ Inv X pins σ2 H2 { s' with heap := h4 } := by
      intro h4 f4 up4
      obtain ⟨oe, vs, g, z, hd⟩ := f4.there
      have off : a ∉ frs (X.env :: X.outer) := fun m => by
        obtain ⟨_, o2, e2, nf⟩ := f4.2.2.1.mem m
        rw [g] at e2
        cases e2
        exact nf _ hd
      refine ⟨oe, vs, g, z, hd, fun q => off (List.mem_filterMap.mpr ⟨X.env, List.mem_cons_self, by rw [hf, q]⟩), fun m => ?_, J.landed nb f4.1 (up.trans up4) os ag⟩
      obtain ⟨e, he, q⟩ := List.mem_filterMap.mp m
      exact off (List.mem_filterMap.mpr ⟨e, List.mem_cons_of_mem _ he, q⟩)
    obtain ⟨oe3, vs3, g3, z3, d3, nL, nF, J3⟩ := at_ f3 up3
    have S3 := J3.suite g3 d3 na nL nF
    refine wpAny_handleBy_cons (codeAny_handlers_test ?_) (by intro q; cases q)
    have LT : PySem.W.Looks (model X.prog X.w) h3 (typeOf (.ref a)) cls := fun A Q E s k q => wpAny_typeOf_ref (k _ _ g3) (by rw [z3.1.1]; exact q)
    have LM := PySem.W.exm_one (M := model X.prog X.w) J3.kIn LT hm
    have test : ∀ {Q : Value → Shared → Prop} {E : Value → Shared → Prop}, Q cv { s' with heap := h3 } → wpAny (model X.prog X.w) (X.A.mark (some (.ref a))) (eval (.Name x np) X.env) Q E { s' with heap := h3 } := by
      intro Q E q
      obtain ⟨hg, hdb, hm | ⟨hm, hv, hn⟩⟩ := hc
      · exact ld_glob (X := X.suite a ((a, oe3) :: (X.pn ++ pins))) S3 hg hm q hdb
      · exact ld_blt (X := X.suite a ((a, oe3) :: (X.pn ++ pins))) S3 hg hm hv q hn hdb
    refine test (LM.here (codeAny_handlers_suite_as (HandSPX.lands_againZ f3 fun h4 f4 up4 => ?_)))
    obtain ⟨oe4, vs4, g4, z4, d4, _, _, J4⟩ := at_ f4 (up3.trans up4)
    have S4 := J4.suite g4 d4 na nL nF
    refine store_ok (X := X.suite a ((a, oe4) :: (X.pn ++ pins))) (v := .ref a) S4 hN hi (.inl hl) rfl (fun s5 S5 => ?_) (.inr hl)
    refine wpAny_mono ((hsu a oe4 cls t (X.pn ++ pins) z4 ⟨_, d4⟩).run [] s5 _ H2 _ S5 (yes a oe4 t na ht z4 ⟨_, d4⟩)) (fun f s6 z => ?_) (fun _ _ z => False.elim z)
    have fin : ∀ {σ6 : L2.St} {H6 : Hp} {Q : Shared → Prop}, Inv (X.suite a ((a, oe4) :: (X.pn ++ pins))) [] σ6 H6 s6 → (∀ s7, Inv X pins (σ6.set i none) H6 s7 → Q s7) → wpAny (model X.prog X.w) X.A (do bindName X.env n .none; unbindBehindTheSuite X.env n pos') (fun _ s7 => Q s7) X.xe s6 :=
      fun S6 q => gone_ok (S6.unsuite ok) hN hi hl q
    cases f with
    | next => obtain ⟨σ6, H6, S6, q⟩ := z; exact fin S6 fun s7 J7 => ⟨_, _, J7, q⟩
    | brk => obtain ⟨σ6, H6, S6, q⟩ := z; exact fin S6 fun s7 J7 => ⟨_, _, J7, q⟩
    | cont => obtain ⟨σ6, H6, S6, q⟩ := z; exact fin S6 fun s7 J7 => ⟨_, _, J7, q⟩
    | ret u => obtain ⟨v, σ6, H6, S6, r, q⟩ := z; exact fin S6 fun s7 J7 => ⟨v, _, _, J7, r, q⟩
  refine wpAny_Try_except (wpAny_mono ((hb _ (X.pn ++ pins) xe caught PassesOwn.looking).run [] s σ H _ (I.toTry _) h) (fun f s1 z => ?_) (fun e s1 z => z))
  cases f with
  | next => exact wpAny_execs_nil (into z)
  | brk => exact into z
  | cont => exact into z
  | ret u => exact into z
end
/-! ### the same, with another wish about errors -/
section
variable {c : Fc} {E' : XK} {O : Ow} {ρ : Env} {σ : L2.St} {H : Hp}
theorem Rel.withE (R : Rel c O ρ σ H) : Rel { c with E := E' } O ρ σ H := ⟨R.len, fun i d g e => by
  obtain ⟨v, e1, e2⟩ := R.slot i d g e
  exact ⟨v, e1, SlotOk.conv (c := c) (c' := { c with E := E' }) rfl (fun _ _ r => r) (fun _ _ z1 z2 _ => ⟨z1, z2⟩) e2⟩, R.dom, R.own, R.ent, R.tbl, R.root, R.par, R.tabs, R.zed, R.zed0⟩
theorem Rel.ofE (R : Rel { c with E := E' } O ρ σ H) : Rel c O ρ σ H := ⟨R.len, fun i d g e => by
  obtain ⟨v, e1, e2⟩ := R.slot i d g e
  exact ⟨v, e1, SlotOk.conv (c := { c with E := E' }) (c' := c) rfl (fun _ _ r => r) (fun _ _ z1 z2 _ => ⟨z1, z2⟩) e2⟩, R.dom, R.own, R.ent, R.tbl, R.root, R.par, R.tabs, R.zed, R.zed0⟩
theorem Own.ofE {t : Nat} {d : D} {v : V} (h : Own { c with E := E' } O t H d v) : Own c O t H d v := by
  cases d <;> exact h
theorem Res.ofE {g : Bool} {B : Hp} {d : D} {v : V} (r : Res g { c with E := E' } B O ρ σ H d v) : Res g c B O ρ σ H d v := ⟨r.rel.ofE, r.rep, fun q m => by
  obtain ⟨a, e1, e2, e3, e4, e5⟩ := r.fr q m
  exact ⟨a, e1, e2, e3, e4, fun t => ⟨(e5 t).1.ofE, (e5 t).2.ofE⟩⟩⟩
end
/-! ### try: .., except x as e: return f(e) -/
section
variable {X : Cx} {c : Fc} {fr : Bool}
/-- what the def that tells errors apart promises -/
def spE (k : Kx) (tb : List Addr) (tl : List (Addr × Str)) (f : List D → R (D × List D)) : Addr × Obj → Sp := fun q vs H Q _ => ∃ e t, e < 5 ∧ vs = [.ref q.1] ∧ Zx (k.xc e) t q.2 ∧ (∃ ws, q.2.data = .fields ws) ∧ H t = some (.tup []) ∧ TabsK tb tl H ∧ match f [.exc e] with
  | .ok (.str w, _) => ∀ H', FrA [] H H' → TabsK tb tl H' → Q (.str w.txt) H'
  | _ => False
def tryR (B : Env → R (Ctl × Env)) (f : List D → R (D × List D)) : Env → R (Ctl × Env) := fun ρ => match B ρ with
  | .ok (.ret d, ρ) => .ok (.ret d, ρ)
  | .ok (.next, ρ) => .ok (.next, ρ)
  | .ok _ => .bad
  | .exc e => if e < 5 then (match f [.exc e] with
      | .ok (.str w, _) => .ok (.ret (.str w), [])
      | _ => .bad) else .bad
  | .bad => .bad
theorem ps_tryS {x n fx : Str} {cv : Value} {i lv : Nat} {body : List Stmt} {fa : Addr} {fd : FuncData} {fps : List Str} {p1 p2 np cpos rpos pos pos' : Pos} {B : Env → R (Ctl × Env)} {f : List D → R (D × List D)} (hs : X.stack = X.env :: X.outer) (hf : X.env.frame = some X.env.locals) (hN : X.N.Nodup) (hi : X.N[i]? = some n) (hl : X.env.kindOf n = some .local)
    (hc : Names X x cv) (hcv : ∀ e, e < 5 → PySem.W.exmOne X.K (c.k.xc e) cv = some true) (hpr : c.pr = []) (hF : ∀ a, ¬ c.F a) (hZ : ∀ a, ¬ c.Z a) (hb : ∀ (E' : XK) (pn : List (Addr × Obj)) (xe : Value → Shared → Prop), Takesx (X.tr pn xe) (fun cls d _ H => E' cls d H) → PassesOwn (model X.prog X.w) X.A X.env xe → PSs (X.tr pn xe) body (tSt { c with E := E' } fr B))
    (Fn : FnE X.prog X.w X.K X.mg X.base (CXx X.prog X.w) lv fa fd fps (spE c.k c.tb c.tl f)) (room : L2H.RoomH lv X.A) (hg : Gl X fx) (hm : X.mg fx = some (.ref fa)) (kp : PySem.W.keepIn X.K (.ref fa) = true) (bd : Binds X.K fd fps []) (hdb : (fx == ("__debug__" : Str)) = false) (hdn : (n == ("__debug__" : Str)) = false) (hcn : (n == ("__classdict__" : Str)) = false) :
    PS X (.Try body [.ExceptHandler (some (.Name x np)) (some n) [.Return (some (.Call (.Name fx p1) [.Name n p2] [] cpos)) rpos] pos'] [] [] pos) (tSt c fr (tryR B f)) := by
  refine (ps_tryx (tb := fun W DD σ H => ∃ E' : XK, (∀ cls σ' H', σ'.length = X.N.length → E' cls none H' → W cls none σ' H') ∧ tSt { c with E := E' } fr B DD σ H)
    (ts := fun a oe cls t => tRet (fun σ H Q => tCons (tVar i) tNil σ H fun vs H1 => spE c.k c.tb c.tl f (a, oe) vs H1 Q (fun _ _ _ => False))) hs hf hN hi hl hc (fun W pn xe tk hp => ⟨fun pins s σ H DD I ⟨E', h1, h2⟩ => (hb E' pn xe (fun u s' y => tk u s' ?_) hp).run pins s σ H DD I h2⟩) (fun a oe cls t pn z hd => pss_one (ps_ret ?_))).weak fun DD σ H ⟨O, ρ, R, z⟩ => ?_
  · obtain ⟨a, B, sI, pins, σ, H, cls, t, e, I, nb, up, sky, na, ht, os, ag, w⟩ := y
    exact ⟨a, B, sI, pins, σ, H, cls, t, e, I, nb, up, sky, na, ht, os, ag, h1 _ _ _ I.len w⟩
  · have hv : Vis X.env.scope n := .inl hl
    exact pe_callE (X := X.suite a ((a, oe) :: pn)) (q := (a, oe)) (CX := CXx X.prog X.w) (E := fun _ _ _ => False) Fn ⟨room.dp, room.un⟩ List.mem_cons_self hg hm kp bd (fun pins σ H s e s2 I y => by
      obtain ⟨_, _, _, _, _, _, _, _, _, _, _, _, _, w⟩ := y
      exact w.elim) (pa_cons (pe_var hi hv hdn hcn) pa_nil rfl) hdb rfl rfl
  · -- what the errors must meet
    have z : wpR c (match B ρ with
      | .ok (.ret d, ρ) => .ok (.ret d, ρ)
      | .ok (.next, ρ) => .ok (.next, ρ)
      | .ok _ => .bad
      | .exc e => if e < 5 then (match f [.exc e] with
          | .ok (.str w, _) => .ok (.ret (.str w), [])
          | _ => .bad) else .bad
      | .bad => .bad) (EndOk c fr DD O H) := z
    let E' : XK := fun cls _ H' => ∀ σ', σ'.length = X.N.length → wTry X.K cv i (fun a oe cls t => tRet (fun σ H Q => tCons (tVar i) tNil σ H fun vs H1 => spE c.k c.tb c.tl f (a, oe) vs H1 Q (fun _ _ _ => False))) DD cls none σ' H'
    refine ⟨E', fun cls σ' H' hl h => h σ' hl, O, ρ, R.withE, ?_⟩
    have ends : ∀ p, EndOk c fr DD O H p → EndOk { c with E := E' } fr DD O H p := by
      intro p h
      obtain ⟨k, ρ2⟩ := p
      cases k <;> first
        | exact fun O2 σ2 H2 R2 s2 => h O2 σ2 H2 R2.ofE s2
        | exact fun v O2 σ2 H2 r => h v O2 σ2 H2 r.ofE
    cases q : B ρ with
    | bad => rw [q] at z; exact z.elim
    | ok p =>
      rw [q] at z
      obtain ⟨k, ρ1⟩ := p
      cases k with
      | next => exact ends (.next, ρ1) z
      | ret d => exact ends (.ret d, ρ1) z
      | brk => exact (show False from z).elim
      | cont => exact (show False from z).elim
    | exc e =>
      rw [q] at z
      obtain ⟨he, z⟩ := z.if_
      intro dx H' out σ' hlen
      refine ⟨hcv e he, fun a oe t ha ht zx hd => ?_⟩
      have hi' : i < σ'.length := by rw [hlen]; exact (List.getElem?_eq_some_iff.mp hi).1
      refine ⟨.ref a, List.getElem?_set_self hi', ?_⟩
      refine ⟨e, t, he, rfl, zx, hd, ht, out.2.2, ?_⟩
      revert z
      cases f [.exc e] with
      | bad => exact id
      | exc e2 => exact id
      | ok p =>
        obtain ⟨d, outs⟩ := p
        intro z
        cases d <;> first | exact (show False from z).elim | skip
        intro H2 fra tabs
        have z : EndOk c fr DD O H (.ret (.str _), []) := z
        refine z _ (fun _ => none) [] H2 ⟨⟨rfl, fun j d g h => (by simp at h), fun a i h => (by cases h), fun a i h => (by cases h), fun a o h n _ => ?_, fun a ps h => ?_, fun a h => (hF a h).elim, fun p hp => ?_, tabs, fun a h => (hZ a h).elim, fun a h => (hZ a h).elim⟩, rfl, fun _ m => (by cases m)⟩
        · exact fra.keep a o (out.1 a o h n (hF a)) n (by simp)
        · obtain ⟨m, y⟩ := out.2.1 a ps h
          obtain ⟨m', y'⟩ := fra.tbl a _ y
          exact ⟨m ++ m', by rw [y', Array.append_assoc]⟩
        · rw [hpr] at hp; cases hp
end
end Cg
set_option Elab.async false
set_option linter.all false
set_option maxRecDepth 100000
set_option maxHeartbeats 4000000
namespace Cg
open PySem PySem.Spec PyProof.Rows L2 GenW
/-! ### a generator expression, its element a run of any kind -/
/-- its scope, in a def of scope sc with the names N; vs: the slots of its own names -/
structure GxS (N : List Str) (sc scope : Scope) (vs : List Nat) : Prop where
  kind : scope.kind = .function
  co : scope.isCoroutine = false
  cell : ∀ y ∈ scope.names, y.2 ≠ .cell
  dot : scope.names.lookup (".0" : Str) = some NameKind.local
  free : ∀ y ∈ scope.names, y.2 = .free → sc.names.lookup y.1 = some .cell ∨ sc.names.lookup y.1 = some .free
  own : ∀ i x, N[i]? = some x → scope.names.lookup x = some .local → i ∈ vs
abbrev gxEnv (X : Cx) (scope : Scope) (C : Addr) (code : Value) : PySem.Env := genEnv scope (cloFrom X.env.cells scope.names []) C code builtinsNs X.env
/-- its frame's context: entered at s4 -/
def gxCx (X : Cx) (A : Around) (s4 : Shared) (H4 : Hp) (scope : Scope) (code : Value) (fp : List Addr) (pn : List (Addr × Obj)) : Cx where
  prog := X.prog
  w := X.w
  K := X.K
  mg := X.mg
  base := X.base
  A := A
  N := X.N
  s_0 := s4
  H_0 := H4
  env := gxEnv X scope s4.heap.objs.size code
  outer := X.stack
  stack := gxEnv X scope s4.heap.objs.size code :: X.stack
  ex := fp
  fn := fun _ => false
  calm := true
  pn := pn
  xe := fun _ _ => False
section
variable {X : Cx} {pins pn : List (Addr × Obj)} {σ : L2.St} {H : Hp} {s s4 s5 : Shared} {scope : Scope} {vs : List Nat} {fp : List Addr} {code : Value} {A : Around}
theorem GxS.has (S : GxS X.N X.env.scope scope vs) (ok : X.Ok) : ∀ y ∈ scope.names, y.2 = .free → ∃ c, X.env.cells.lookup y.1 = some c := fun y hy e => by
  rcases S.free y hy e with k | k
  · exact ok.has _ (.inl k)
  · exact ok.has _ (.inr k)
theorem gx_start (I : Inv X pins σ H s4) (S : GxS X.N X.env.scope scope vs) (hd : A.handled = none) (hfr : A.frames = some (gxEnv X scope s4.heap.objs.size code :: X.stack)) (hfp : ∀ b ∈ fp, FpOk X pins H b) (old : ∀ b ∈ fp, b < s4.heap.objs.size)
    (kp : ∀ b o, s4.heap.get? b = some o → s5.heap.get? b = some o) (ho : s5.os = s4.os) (hb : AllBare s5.gens) {m : Str → Option Value} (hn : s5.heap.Ns s4.heap.objs.size m) (hpn : ∀ p ∈ pn, s5.heap.get? p.1 = some p.2 ∧ s4.heap.objs.size < p.1 ∧ ∀ v, p.2.data ≠ .cell v) :
    Inv (gxCx X A s4 H scope code fp pn) [] (wipe σ vs) H s5 := by
  have e0 := I.env0
  have hfree := S.has I.ok
  have cm : ∀ {y c}, (cloFrom X.env.cells scope.names []).lookup y = some c → X.env.cells.lookup y = some c := fun {y c} e => by
    rcases cloFrom_mem (PySem.mem_of_lookup e) with hm | ⟨h1, h2⟩
    · cases hm
    · obtain ⟨c1, hc⟩ := hfree _ h1 rfl
      have hc : X.env.cells.lookup y = some c1 := hc
      have e2 : c = c1 := by
        rw [h2, hc] <;> rfl
      rw [e2]
      exact hc
  have look : ∀ {y}, scope.names.lookup y = some .free → ∃ c, (cloFrom X.env.cells scope.names []).lookup y = some c := fun {y} hl => by
    have hy : (y, NameKind.free) ∈ scope.names := PySem.mem_of_lookup hl
    exact mem_lookup (cloFrom_has (cells := X.env.cells) (acc := []) hy)
  have cellK : ∀ {c : Addr} {v : Option Value}, s4.heap.IsCell c v → s5.heap.IsCell c v := fun {c v} ⟨o, ho, hd⟩ => ⟨_, kp _ _ ho, hd⟩
  refine ⟨⟨e0.mod, S.kind, I.ok.glob, rfl, Nat.le_refl _, fun y z c e1 e2 => I.ok.inj y z c (cm e1) (cm e2), fun y hy => ?_, fun y c z _ => ?_, fun _ => hd, hfr, .inr ⟨rfl, rfl⟩, fun b hb => ⟨Nat.ne_of_lt (old b hb), fun x c e => (hfp b hb).2.2.2.2.1 x c (cm e)⟩, e0.bs, e0.bsz, fun b o e hb => ?_,
      fun b hb => ?_, e0.funs, e0.frf⟩,
    ho, hb, Un.kept kp, ⟨_, hn, fun i y v e1 e2 e3 => ?_⟩, fun y c e => ?_, e0.hok.fresh (Nat.le_refl _), fun y c e => ?_, fun q hq => ?_, e0.hok.kept kp, ?_⟩
  · have hy : scope.names.lookup y = some .cell ∨ scope.names.lookup y = some .free := hy
    rcases hy with hy | hy
    · exact absurd rfl (S.cell _ (PySem.mem_of_lookup hy))
    · exact look hy
  · have z : false = true := z
    cases z
  · rcases (hfp b hb).2.2.2.1 with z | z
    · exact I.ok.noex b o e z
    · exact absurd (Nat.lt_of_lt_of_le (Heap.lt_size e) (Nat.le_trans I.ok.bsz z)) (Nat.lt_irrefl _)
  · intro hm
    rcases List.mem_cons.mp (I.stkSub b hm) with z | z
    · exact (hfp b hb).2.1 z
    · exact (hfp b hb).2.2.1 z
  · have e3 : Vis scope y := e3
    obtain ⟨e2, nv⟩ := wipe_some e2
    rcases e3 with k | k | k
    · exact absurd (S.own i y e1 k) nv
    · exact absurd rfl (S.cell _ (PySem.mem_of_lookup k))
    · obtain ⟨m, hn, hl⟩ := I.loc
      have hvis : Vis X.env.scope y := (S.free _ (PySem.mem_of_lookup k) rfl).elim (fun k => .inr (.inl k)) (fun k => .inr (.inr k))
      obtain ⟨w', r, q⟩ := hl i y v e1 e2 hvis
      obtain ⟨c2, h2⟩ := look k
      refine ⟨w', r, .inr ⟨.inr k, c2, h2, ?_⟩⟩
      have c1 := cm h2
      rcases q with ⟨k', _⟩ | ⟨_, c3, e', z⟩
      · have k' : X.env.scope.names.lookup y = some .local := k'
        rcases S.free _ (PySem.mem_of_lookup k) rfl with k2 | k2 <;> rw [show X.env.scope.names.lookup y = _ from k2] at k' <;> cases k'
      · rw [c1] at e'
        cases e'
        exact cellK z
  · obtain ⟨w', z⟩ := I.cell y c (cm e)
    exact ⟨w', cellK z⟩
  · exact I.freeC y c (cm e)
  · have hq : q ∈ pn := by
      rcases List.mem_append.mp hq with z | z
      · exact z
      · cases z
    obtain ⟨q1, q2, q3⟩ := hpn q hq
    refine ⟨q1, e0.hok.fresh (Nat.le_of_lt q2), Nat.ne_of_gt q2, fun hm => ?_, q3⟩
    obtain ⟨_, o, ho, _⟩ := e0.funs.mem hm
    exact absurd (Nat.lt_trans (Heap.lt_size ho) q2) (Nat.lt_irrefl _)
  · rw [wipe_length]; exact I.len
/-- while the generator sleeps: its consumer writes the objects at Sl alone -/
structure Slp (Sl : List Addr) (s s' : Shared) : Prop where
  os : s'.os = s.os
  bare : AllBare s'.gens
  keep : ∀ b o, b ∉ Sl → s.heap.get? b = some o → s'.heap.get? b = some o
  there : ∀ b ∈ Sl, ∃ o, s'.heap.get? b = some o ∧ ∀ v, o.data ≠ .cell v
/-- the consumer's objects: younger than the generator -/
def Young (X : Cx) (Sl : List Addr) : Prop := ∀ b ∈ Sl, X.s_0.heap.objs.size ≤ b ∧ b ≠ X.env.locals ∧ (∀ x c, X.env.cells.lookup x = some c → c ≠ b) ∧ b ∉ X.fs
theorem inv_slp {X : Cx} {σ : L2.St} {H : Hp} {s s' : Shared} {Sl : List Addr} (I : Inv X (pinsAt Sl s.heap) σ H s) (hpn : ∀ p ∈ X.pn, p.1 ∉ Sl) (hA : Young X Sl) (hH : ∀ b ∈ Sl, H b = none) (z : Slp Sl s s') : Inv X (pinsAt Sl s'.heap) σ H s' := by
  have I0 : Inv X [] σ H s := I.pins_of fun p hp => by cases hp
  have nt : ∀ b u, H b = some u → b ∉ Sl := fun b u q hb => by rw [hH b hb] at q; cases q
  obtain ⟨z1, z2, z3, z4⟩ := z
  obtain ⟨hh, g, d, t, o⟩ := s'
  have ho : o = s.os := z1
  subst ho
  have J : Inv X [] σ H { s with heap := hh, gens := g, drawn := d, toks := t } := by
    refine I0.step (g' := g) (t' := t) (d' := d) (ch := Sl) (fun b hb => ?_)
      (fun b ob _ _ hc q _ => z3 b ob hc q) (fun b ob _ _ hc q _ => ⟨ob.slots, z3 b ob hc q⟩) (fun _ _ _ _ n => n) (fun b ob hc q => ⟨ob, z3 b ob hc q⟩)
      (fun _ _ q => q) (fun _ _ _ q => q) (fun b ps q => ⟨#[], by rw [q]; simp⟩) (fun m hm => ?_) (fun b u q => ?_) z2
    · refine ⟨.inr (hA b hb).1, (hA b hb).2.1, (hA b hb).2.2.1, fun p hp e => ?_⟩
      rcases List.mem_append.mp hp with z | z
      · exact hpn p z (e ▸ hb)
      · cases z
    · obtain ⟨ob, es, ep, ho, r⟩ := hm
      exact ⟨ob, es, ep, z3 _ ob (fun hb => (hA _ hb).2.1 rfl) ho, r⟩
    · refine (I0.hok b u q).stay (fun c v hc y => z3 c v ?_ y) (fun _ y => y) fun _ _ y => y
      rcases hc with y | y
      · rw [y]; exact nt b u q
      · exact nt c _ y
  refine J.pins_of fun p hp => ?_
  obtain ⟨hb, e⟩ := of_pinsAt hp
  obtain ⟨o, e', d'⟩ := z4 p.1 hb
  have e2 : hh.get? p.1 = some p.2 := e
  rw [e2] at e'
  cases e'
  exact ⟨e2, hH _ hb, (hA _ hb).2.1, (hA _ hb).2.2.2, d'⟩
/-- the turn's code -/
theorem gx_turn {elt tg iter : Expr} {ifs : List Expr} {scope : Scope} {pos : Pos} {it : Value} {env : PySem.Env} {A : Around} : A.over (.compLoop (.GeneratorExp elt [⟨tg, iter, ifs, 0⟩] scope pos) 0 it .none env) [] = A.deeper env := by
  first
    | rfl
    | (obtain ⟨hd, d, fr, gs, u⟩ := A; simp [Around.over, Around.deeper, marksOver, frameCount, unitsOf, envsOf, guardsOf, pushEnvs, pushGuards, Code.envs, Code.env?, Code.isFrame, Code.guards, Code.isGuard, Code.weight, Code.frames, Code.isCreation, Code.isCaller, Code.cUnits])
end
theorem inv_wiped {X : Cx} {pins : List (Addr × Obj)} {σ : L2.St} {H : Hp} {s : Shared} {vs : List Nat} (I : Inv X pins σ H s) : Inv X pins (wipe σ vs) H s := by
  obtain ⟨m, hn, hl⟩ := I.loc
  exact ⟨I.ok, I.os, I.bare, I.base, ⟨m, hn, fun i x v h1 h2 h3 => hl i x v h1 (wipe_some h2).1 h3⟩, I.cell, I.free, I.freeC, I.pin, I.hok, by rw [wipe_length]; exact I.len⟩
theorem pinsAt_eq {h h' : Heap} : ∀ {fp : List Addr}, (∀ b ∈ fp, h.get? b = h'.get? b) → pinsAt fp h = pinsAt fp h' := fun {fp} e => by
  unfold pinsAt
  induction fp with
  | nil => rfl
  | cons b r ih =>
    rw [List.filterMap_cons, List.filterMap_cons, e b List.mem_cons_self, ih fun c hc => e c (List.mem_cons_of_mem _ hc)]
/-- these are there, and no cells -/
def There (Sl : List Addr) (s : Shared) : Prop := ∀ b ∈ Sl, ∃ o, s.heap.get? b = some o ∧ ∀ v, o.data ≠ .cell v
theorem There.kept {X : Cx} {pl : List (Addr × Obj)} {σ : L2.St} {H : Hp} {s s' : Shared} {Sl : List Addr} (t : There Sl s) (I : Inv X (pinsAt Sl s.heap ++ pl) σ H s') : pinsAt Sl s'.heap = pinsAt Sl s.heap ∧ There Sl s' := by
  have e : ∀ b ∈ Sl, s'.heap.get? b = s.heap.get? b := fun b hb => by
    obtain ⟨o, ho, _⟩ := t b hb
    rw [ho]
    exact (I.pin (b, o) (List.mem_append_right _ (List.mem_append_left _ (mem_pinsAt hb ho)))).1
  exact ⟨pinsAt_eq e, fun b hb => by rw [e b hb]; exact t b hb⟩
/-- handed out -/
def GxY (Xg : Cx) (Sl : List Addr) (Td : List V → Shared → Prop) (W : Nat → Nat → List V → Hp → Prop) (Yd : Nat → Nat → List V → V → Hp → Prop) : Protocol := fun _ s₀ u s1 kap =>
  ∃ i m ys x σ' H', RelV x u ∧ Yd i m ys x H' ∧ Inv Xg (pinsAt Sl s1.heap) σ' H' s1 ∧ There Sl s1 ∧ pinsAt Sl s1.heap = pinsAt Sl s₀.heap ∧ Td ys s₀ ∧ ∀ s' m', Slp Sl s1 s' → m' < m → W (i + 1) m' (ys ++ [x]) H' → Td (ys ++ [x]) s' → kap (.send .none) s'
def GxF (Xg : Cx) (Sl : List Addr) (Td : List V → Shared → Prop) (J : L2.It) (W : Nat → Nat → List V → Hp → Prop) : Nat → Shared → Shared → Prop := fun _ s₀ s1 =>
  ∃ i m ys σ' H', (m = 0 ∧ W i m ys H') ∧ J.stop i H' ∧ Inv Xg (pinsAt Sl s1.heap) σ' H' s1 ∧ There Sl s1 ∧ pinsAt Sl s1.heap = pinsAt Sl s₀.heap ∧ Td ys s₀
def GxE (Xg : Cx) (Sl : List Addr) (Td : List V → Shared → Prop) (J : L2.It) (W : Nat → Nat → List V → Hp → Prop) : GenEnd := fun n s₀ r s1 => ((r = .ok (.ret .none) ∨ r = .ok .next) ∧ GxF Xg Sl Td J W n s₀ s1) ∨ ∃ e, r = .error e ∧ False
/-- what is asked of each turn -/
def GxT (J : L2.It) (g : TG) (tt : TT) (te : TE) (vs : List Nat) (σ : L2.St) (W : Nat → Nat → List V → Hp → Prop) (Yd : Nat → Nat → List V → V → Hp → Prop) : Prop :=
  ∀ i m ys H, W i m ys H → (m = 0 ∧ J.stop i H) ∨ (J.go i H ∧ ∀ x H', J.yld i H x H' → g x (wipe σ vs) H' fun σ2 H2 => wipe σ2 vs = wipe σ vs ∧ tt σ2 H2 fun b H3 => if b = true then te σ2 H3 fun y H4 => Yd i m ys y H4 else ∃ m', m' < m ∧ W (i + 1) m' ys H3)
section
variable {X : Cx} {pn : List (Addr × Obj)} {σ : L2.St} {s4 : Shared} {H4 : Hp} {scope : Scope} {vs : List Nat} {fp : List Addr} {code : Value} {A : Around} {J : L2.It} {g : TG} {tt : TT} {te : TE} {W : Nat → Nat → List V → Hp → Prop} {Yd : Nat → Nat → List V → V → Hp → Prop}
  {tg elt iter : Expr} {ifs : List Expr} {it : Addr} {tn : Nat → Heap → Prop} {Sl : List Addr} {Td : List V → Shared → Prop} {pos : Pos}
theorem seg_gx (hco : scope.isCoroutine = false) (T : Turn X.prog X.w X.K tg J fp it tn)
    (hg : PG (gxCx X (A.deeper (gxEnv X scope s4.heap.objs.size code)) s4 H4 scope code fp pn) tg g) (ht : PTs (gxCx X (A.deeper (gxEnv X scope s4.heap.objs.size code)) s4 H4 scope code fp pn) ifs tt) (he : PE (gxCx X (A.deeper (gxEnv X scope s4.heap.objs.size code)) s4 H4 scope code fp pn) elt te)
    (fok : ∀ b ∈ fp, b ≠ s4.heap.objs.size ∧ b ∉ frs X.stack ∧ (∀ x c, (gxEnv X scope s4.heap.objs.size code).cells.lookup x = some c → c ≠ b) ∧ b ∉ Sl ∧ ∀ p ∈ pn, p.1 ≠ b)
    (hpn : ∀ p ∈ pn, p.1 ∉ Sl) (hA : Young (gxCx X (A.deeper (gxEnv X scope s4.heap.objs.size code)) s4 H4 scope code fp pn) Sl)
    (turn : GxT J g tt te vs σ W Yd) :
    ∀ (m n i : Nat) (ys : List V) (s₀ s : Shared) (H : Hp), m < n → W i m ys H → Inv (gxCx X (A.deeper (gxEnv X scope s4.heap.objs.size code)) s4 H4 scope code fp pn) (pinsAt Sl s.heap) (wipe σ vs) H s → There Sl s → pinsAt Sl s.heap = pinsAt Sl s₀.heap → Td ys s₀ → tn i s.heap → (∀ b ∈ fp, H b = none) →
      Seg (model X.prog X.w) A (GxE (gxCx X (A.deeper (gxEnv X scope s4.heap.objs.size code)) s4 H4 scope code fp pn) Sl Td J W) (GxY (gxCx X (A.deeper (gxEnv X scope s4.heap.objs.size code)) s4 H4 scope code fp pn) Sl Td W Yd) n s₀
        (.compLoop (.GeneratorExp elt [⟨tg, iter, ifs, 0⟩] scope pos) 0 (.ref it) .none (gxEnv X scope s4.heap.objs.size code))
        ((model X.prog X.w).den (.compLoop (.GeneratorExp elt [⟨tg, iter, ifs, 0⟩] scope pos) 0 (.ref it) .none (gxEnv X scope s4.heap.objs.size code))) [] s := by
  intro m
  induction m using Nat.strongRecOn with
  | ind m ih =>
    intro n i ys s₀ s H hmn w I th es td st fn
    have stat : ∀ {H' : Hp}, (∀ b ∈ fp, H' b = none) → ∀ b ∈ fp, FpOk (gxCx X (A.deeper (gxEnv X scope s4.heap.objs.size code)) s4 H4 scope code fp pn) (pinsAt Sl s.heap) H' b := fun hn b hb => by
      obtain ⟨f1, f2, f3, f4, f5⟩ := fok b hb
      refine ⟨hn b hb, f1, f2, .inl hb, f3, fun p hp e => ?_⟩
      rcases List.mem_append.mp hp with z | z
      · exact f5 p z e
      · exact f4 (e ▸ (of_pinsAt z).1)
    show Seg _ A _ _ _ s₀ _ ((compTurn (.GeneratorExp elt [⟨tg, iter, ifs, 0⟩] scope pos) 0 (.ref it) .none (gxEnv X scope s4.heap.objs.size code)).onRaise (leaving (gxEnv X scope s4.heap.objs.size code))) [] s
    rw [compTurn_gen, Sem.onRaise_eq_wrap]
    refine seg_bind_wrap (wpAny_standAt ?_)
    refine seg_bind_wrap ?_
    rw [gx_turn]
    rcases turn i m ys H w with ⟨hm0, stop⟩ | ⟨go, step⟩
    · refine thn (T.done (gxCx X (A.deeper (gxEnv X scope s4.heap.objs.size code)) s4 H4 scope code fp pn) rfl rfl rfl rfl i _ s _ H _ I (stat fn) st stop) fun r s1 ⟨hr, I1⟩ => ?_
      subst hr
      obtain ⟨k1, k2⟩ := th.kept (pl := []) (by rw [List.append_nil]; exact I1)
      exact seg_end (.ok .next) (.inl ⟨.inr rfl, i, m, ys, _, H, ⟨hm0, w⟩, stop, by rw [k1]; exact I1, k2, k1.trans es, td⟩)
    · refine thn (T.item (gxCx X (A.deeper (gxEnv X scope s4.heap.objs.size code)) s4 H4 scope code fp pn) rfl rfl rfl rfl i _ s _ H _ I (stat fn) st go) fun r s1 ⟨u, hr, h1⟩ => ?_
      subst hr
      refine seg_bind_wrap ?_
      rw [gx_turn]
      refine thn h1 fun _ s2 ⟨x, H2, I2, r2, y2, st2, fn2⟩ => ?_
      have I2' := I2.pinned (stat fn2) (T.obj _ _ st2)
      refine seg_bind_wrap ?_
      rw [gx_turn]
      refine wpAny_mono (hg.run _ s2 _ H2 x u _ I2' r2 (step x H2 y2)) (fun _ s3 ⟨σ3, H3, I3, e3, q3⟩ => ?_) fun _ _ z => z.elim
      refine seg_bind_wrap ?_
      rw [gx_turn]
      refine wpAny_mono (ht.run _ s3 σ3 H3 _ I3 q3) (fun b s5 ⟨H5, I5, q5⟩ => ?_) fun _ _ z => z.elim
      have keep : ∀ {σ' : L2.St} {H' : Hp} {s' : Shared}, Inv (gxCx X (A.deeper (gxEnv X scope s4.heap.objs.size code)) s4 H4 scope code fp pn) (pinsAt Sl s.heap ++ pinsAt fp s2.heap) σ' H' s' → tn (i + 1) s'.heap ∧ ∀ b ∈ fp, H' b = none := fun {σ' H' s'} I' =>
        ⟨T.keep _ _ _ st2 fun b hb o e => (I'.pin (b, o) (List.mem_append_right _ (List.mem_append_right _ (mem_pinsAt hb e)))).1, fun b hb => by
          obtain ⟨o, e, d⟩ := T.obj _ _ st2 b hb
          exact (I'.pin (b, o) (List.mem_append_right _ (List.mem_append_right _ (mem_pinsAt hb e)))).2.1⟩
      cases b with
      | false =>
        simp only [Bool.false_eq_true, if_false] at q5 ⊢
        obtain ⟨m', hm, w'⟩ := q5
        obtain ⟨k1, k2⟩ := th.kept I5
        obtain ⟨t5, f5⟩ := keep I5
        refine seg_again rfl (ih m' hm n (i + 1) ys s₀ s5 H5 (by omega) w' ?_ k2 (k1.trans es) td t5 f5)
        rw [k1, ← e3]
        exact inv_wiped I5.unpinned
      | true =>
        simp only [if_true] at q5 ⊢
        have hy : ∀ v, yieldOut (gxEnv X scope s4.heap.objs.size code) v = yieldValue v := fun v => by
          have h : (gxEnv X scope s4.heap.objs.size code).scope.isCoroutine = false := hco
          simp only [yieldOut, h, Bool.false_eq_true, if_false]
        simp only [hy]
        rw [Sem.bind_eq_wrap', Sem.bind_eq_wrap', Sem.wrap_wrap, Sem.wrap_wrap]
        refine seg_wrap ?_
        rw [gx_turn]
        refine wpAny_mono (he.run _ s5 σ3 H5 _ I5 q5) (fun u6 s6 ⟨y6, H6, I6, r6, q6⟩ => ?_) fun _ _ z => z.elim
        obtain ⟨k1, k2⟩ := th.kept I6
        obtain ⟨t6, f6⟩ := keep I6
        have J6 := I6.unpinned
        obtain ⟨n', rfl⟩ : ∃ n', n = n' + 1 := ⟨n - 1, by omega⟩
        have J7 : Inv (gxCx X (A.deeper (gxEnv X scope s4.heap.objs.size code)) s4 H4 scope code fp pn) (pinsAt Sl s6.heap) σ3 H6 s6 := by rw [k1]; exact J6
        refine seg_at (seg_yield rfl rfl rfl ⟨i, m, ys, y6, σ3, H6, r6, q6, J7, k2, k1.trans es, td, fun s' m' z hm w' td' => ?_⟩)
        have hS0 : ∀ b ∈ Sl, H6 b = none := fun b hb => by
          obtain ⟨o, e, _⟩ := k2 b hb
          exact (J7.pin (b, o) (List.mem_append_right _ (mem_pinsAt hb e))).2.1
        have J8 := inv_slp J7 hpn hA hS0 z
        refine seg_again rfl (ih m' hm n' (i + 1) (ys ++ [y6]) s' s' H6 (by omega) w' ?_ z.there rfl td' (T.keep _ _ _ t6 fun b hb o e => z.keep b o (fok b hb).2.2.2.1 e) f6)
        rw [← e3]
        exact inv_wiped J8
/-- its first waking -/
theorem seg_gx0 (hco : scope.isCoroutine = false) (T : Turn X.prog X.w X.K tg J fp it tn)
    (hg : PG (gxCx X (A.deeper (gxEnv X scope s4.heap.objs.size code)) s4 H4 scope code fp pn) tg g) (ht : PTs (gxCx X (A.deeper (gxEnv X scope s4.heap.objs.size code)) s4 H4 scope code fp pn) ifs tt) (he : PE (gxCx X (A.deeper (gxEnv X scope s4.heap.objs.size code)) s4 H4 scope code fp pn) elt te)
    (fok : ∀ b ∈ fp, b ≠ s4.heap.objs.size ∧ b ∉ frs X.stack ∧ (∀ x c, (gxEnv X scope s4.heap.objs.size code).cells.lookup x = some c → c ≠ b) ∧ b ∉ Sl ∧ ∀ p ∈ pn, p.1 ≠ b)
    (hpn : ∀ p ∈ pn, p.1 ∉ Sl) (hA : Young (gxCx X (A.deeper (gxEnv X scope s4.heap.objs.size code)) s4 H4 scope code fp pn) Sl)
    (turn : GxT J g tt te vs σ W Yd) {m n : Nat} {s : Shared} {H : Hp} (hmn : m < n) (w : W 0 m [] H) (I : Inv (gxCx X (A.deeper (gxEnv X scope s4.heap.objs.size code)) s4 H4 scope code fp pn) (pinsAt Sl s.heap) (wipe σ vs) H s) (th : There Sl s) (td : Td [] s) (st : tn 0 s.heap) (fn : ∀ b ∈ fp, H b = none) :
      Seg (model X.prog X.w) A (GxE (gxCx X (A.deeper (gxEnv X scope s4.heap.objs.size code)) s4 H4 scope code fp pn) Sl Td J W) (GxY (gxCx X (A.deeper (gxEnv X scope s4.heap.objs.size code)) s4 H4 scope code fp pn) Sl Td W Yd) n s
        (.compStart (.GeneratorExp elt [⟨tg, iter, ifs, 0⟩] scope pos) 0 (.ref it) .none (gxEnv X scope s4.heap.objs.size code))
        ((model X.prog X.w).den (.compStart (.GeneratorExp elt [⟨tg, iter, ifs, 0⟩] scope pos) 0 (.ref it) .none (gxEnv X scope s4.heap.objs.size code))) [] s := by
  have loop := seg_gx (iter := iter) (pos := pos) (Td := Td) hco T hg ht he fok hpn hA turn m n 0 [] s s H hmn w I th rfl td st fn
  show Seg _ A _ _ _ s _ ((compStart (.GeneratorExp elt [⟨tg, iter, ifs, 0⟩] scope pos) 0 (.ref it) .none (gxEnv X scope s4.heap.objs.size code)).onRaise (leaving (gxEnv X scope s4.heap.objs.size code))) [] s
  unfold compStart
  rw [Sem.onRaise_eq_wrap]
  show Seg _ A _ _ _ s _ ((ask >>= _).wrap _ _ _ _) [] s
  refine seg_bind_wrap (wpAny_askSetting ?_)
  split
  · exact seg_again rfl loop
  · first
      | exact seg_bind_wrap (wpAny_rule (seg_bind_wrap (wpAny_standAt (seg_bind_wrap (T.self _ 0 s _ _ st (seg_again rfl loop))))))
      | (refine seg_bind_wrap (wpAny_rule ?_); show Seg _ A _ _ _ s _ ((standAt iter.pos >>= _).wrap _ _ _ _) [] s; exact seg_bind_wrap (wpAny_standAt (seg_bind_wrap (T.self _ 0 s _ _ st (seg_again rfl loop)))))
end
end Cg
set_option Elab.async false
set_option linter.all false
set_option maxRecDepth 100000
set_option maxHeartbeats 4000000
namespace Cg
open PySem PySem.Spec PyProof.Rows L2 GenW
/-! ### all(..), sum(..) of a generator expression -/
section
variable {Xg : Cx} {pn : List (Addr × Obj)} {J : L2.It} {W : Nat → Nat → List V → Hp → Prop} {A : Around} {R : Result → Shared → Prop} {a : Addr} {g : Nat} {go : Obj}
/-- asleep, or not begun -/
def Asleep (Xg : Cx) (A : Around) (Sl : List Addr) (Td : List V → Shared → Prop) (J : L2.It) (W : Nat → Nat → List V → Hp → Prop) (Yd : Nat → Nat → List V → V → Hp → Prop) (g n : Nat) (s : Shared) : Prop :=
  ∃ gs, s.gens[g]? = some gs ∧ gs.Goes (model Xg.prog Xg.w) A (GxE Xg Sl Td J W) (GxY Xg Sl Td W Yd) n (.send .none) (s.setGen g .running)
theorem pin_at {Xg : Cx} {pl : List (Addr × Obj)} {σ : L2.St} {H : Hp} {s : Shared} (hpn : Xg.pn = [(a, go)]) (I : Inv Xg pl σ H s) : s.heap.get? a = some go := (I.pin (a, go) (List.mem_append_left _ (by rw [hpn]; exact List.mem_singleton.mpr rfl))).1
def YdAll (W : Nat → Nat → List V → Hp → Prop) (Qf : Hp → Prop) : Nat → Nat → List V → V → Hp → Prop := fun i m ys x H => ∃ b, x = .bl b ∧ (if b = true then ∃ m', m' < m ∧ W (i + 1) m' (ys ++ [x]) H else Qf H)
theorem all_gx {Qf : Hp → Prop} (hpn : Xg.pn = [(a, go)]) (hgo : ∀ h : Heap, h.get? a = some go → h.IsGen a g) (hh : A.handled = none) (hd : A.depth < recursionLimit)
    (hend : ∀ i m ys σ' H' s1 h', (m = 0 ∧ W i m ys H') → J.stop i H' → Inv Xg [] σ' H' s1 → (∀ b o, s1.heap.get? b = some o → h'.get? b = some o) → R (.ok (.ret (.bool true))) { s1.setGen g .finished with heap := h' })
    (hcut : ∀ σ' H' s1 gs', Qf H' → Inv Xg [] σ' H' s1 → gs'.bare = true → R (.ok (.ret (.bool false))) (s1.setGen g gs')) :
    ∀ (n : Nat) (s : Shared), s.heap.IsGen a g → s.heap.NoLimit → Asleep Xg A.in1.in1 [] (fun _ _ => True) J W (YdAll W Qf) g n s → codeAny (model Xg.prog Xg.w) A (.builtin "all.loop" ⟨[.ref a], []⟩) R s := by
  intro n
  induction n with
  | zero =>
    intro s hg hl ⟨gs, hgs, hgoes⟩
    refine codeAny_builtin F.entry_all_loop ?_
    rw [Around.under_plainId F.plain_all_loop _]
    show wpAny _ A.in1 (pyNext (.ref a) >>= _) _ _ s
    refine wpAny_bind (next_genG (A := A.in1) (F := GxF Xg [] (fun _ _ => True) J W) (Er := fun _ _ => False) hh hl hd hg hgs hgoes (fun v s₁ gs' hbare hv => ?_) (fun s₁ hp h' hk => ?_) fun e s₁ he => he.elim)
    · obtain ⟨i, m, ys, x, σ', H', r, ⟨b, rfl, hy⟩, I, th, _, _, hk⟩ := hv
      obtain rfl : v = .bool b := r
      refine wpAny_bind (wpAny_holding (wpAny_truthy_bool ?_))
      refine wpAny_bind (wpAny_letGo ?_)
      cases b with
      | true =>
        obtain ⟨m', hm, w'⟩ := hy
        exact (hk s₁ m' ⟨rfl, I.bare, fun _ _ _ e => e, fun b hb => by cases hb⟩ hm w' trivial).elim
      | false =>
        simp only [Bool.false_eq_true, if_false]
        exact wpAny_bind (wpAny_rule (wpAny_pure (hcut σ' H' s₁ gs' hy I hbare)))
    · obtain ⟨i, m, ys, σ', H', w, stop, I, th, _⟩ := hp
      exact wpAny_bind (wpAny_rule (wpAny_pure (hend i m ys σ' H' s₁ h' w stop I hk)))
  | succ n ih =>
    intro s hg hl ⟨gs, hgs, hgoes⟩
    have hgl : g < s.gens.size := (Array.getElem?_eq_some_iff.mp hgs).1
    refine codeAny_builtin F.entry_all_loop ?_
    rw [Around.under_plainId F.plain_all_loop _]
    show wpAny _ A.in1 (pyNext (.ref a) >>= _) _ _ s
    refine wpAny_bind (wpAny_gsz (n := g + 1) hgl (next_genG (A := A.in1) (F := GxF Xg [] (fun _ _ => True) J W) (Er := fun _ _ => False) hh hl hd hg hgs hgoes (fun v s₁ gs' hbare hv => ?_) (fun s₁ hp h' hk => ?_) fun e s₁ he => he.elim))
    · intro hsz
      obtain ⟨i, m, ys, x, σ', H', r, ⟨b, rfl, hy⟩, I, th, _, _, hk⟩ := hv
      obtain rfl : v = .bool b := r
      refine wpAny_bind (wpAny_holding (wpAny_truthy_bool ?_))
      refine wpAny_bind (wpAny_letGo ?_)
      have hsz1 : g < s₁.gens.size := by
        have q : (s₁.setGen g gs').gens.size = s₁.gens.size := setGen_size _ _ _
        have hsz' : g + 1 ≤ (s₁.setGen g gs').gens.size := hsz
        omega
      cases b with
      | true =>
        obtain ⟨m', hm, w'⟩ := hy
        simp only [if_true]
        refine wpAny_pure ⟨plainId_quiet F.plain_all_loop _, ih (s₁.setGen g gs') (hgo _ (show s₁.heap.get? a = some go from pin_at hpn I)) (show s₁.heap.NoLimit from I.nolimit) ⟨gs', setGen_at hsz1, ?_⟩⟩
        exact hk _ m' ⟨rfl, allBare_setGen (s := s₁.setGen g gs') (allBare_setGen I.bare hbare) rfl, fun _ _ _ e => e, fun b hb => by cases hb⟩ hm w' trivial
      | false =>
        simp only [Bool.false_eq_true, if_false]
        exact wpAny_bind (wpAny_rule (wpAny_pure (hcut σ' H' s₁ gs' hy I hbare)))
    · intro _
      obtain ⟨i, m, ys, σ', H', w, stop, I, th, _⟩ := hp
      exact wpAny_bind (wpAny_rule (wpAny_pure (hend i m ys σ' H' s₁ h' w stop I hk)))
/-- the object in which sum keeps what it has -/
abbrev sumObj (k : Int) (t : Tok) (c : Nat) : Obj := { cls := .type "list", dict := none, data := .seq #[.int k t] c, slots := #[] }
def YdSum (W : Nat → Nat → List V → Hp → Prop) : Nat → Nat → List V → V → Hp → Prop := fun i m ys x H => ∃ k, x = .int k ∧ ∃ m', m' < m ∧ W (i + 1) m' (ys ++ [x]) H
/-- the whole numbers in a list of values -/
def sumV : List V → Int
  | [] => 0
  | .int k :: r => k + sumV r
  | _ :: r => sumV r
theorem sumV_snoc : ∀ {l : List V} {k : Int}, sumV (l ++ [.int k]) = sumV l + k
  | [], k => by simp [sumV]
  | x :: r, k => by
    cases x <;> simp only [List.cons_append, sumV, sumV_snoc (l := r) (k := k)]
    omega
/-- what sum holds -/
def TdSum (S : Addr) : List V → Shared → Prop := fun ys s => ∃ t c, s.heap.get? S = some (sumObj (sumV ys) t c)
theorem pinsAt_get {S : Addr} {s s' : Shared} (h : pinsAt [S] s.heap = pinsAt [S] s'.heap) {o : Obj} (e : s'.heap.get? S = some o) : s.heap.get? S = some o := by
  have m := mem_pinsAt (fp := [S]) (List.mem_singleton.mpr rfl) e
  rw [← h] at m
  exact (of_pinsAt m).2
theorem sum_gx {S : Addr} (hpn : Xg.pn = [(a, go)]) (hgo : ∀ h : Heap, h.get? a = some go → h.IsGen a g) (hh : A.handled = none) (hd : A.depth < recursionLimit) (hSa : S ≠ a) (hSc : S ≠ cStatics)
    (hend : ∀ i m ys σ' H' s1 h' t, (m = 0 ∧ W i m ys H') → J.stop i H' → Inv Xg (pinsAt [S] s1.heap) σ' H' s1 → (∀ b o, s1.heap.get? b = some o → h'.get? b = some o) → R (.ok (.ret (.int (sumV ys) t))) { s1.setGen g .finished with heap := h' }) :
    ∀ (n : Nat) (s : Shared) (tA : Tok) (k : Int) (c : Nat) (st : Int), (st = 0 ∨ st = 2) → s.heap.IsGen a g → s.heap.NoLimit → s.heap.get? S = some (sumObj k tA c) → Asleep Xg A.in1.in1 [S] (TdSum S) J W (YdSum W) g n s →
      codeAny (model Xg.prog Xg.w) A (.builtin "sum.loop" ⟨[.ref a, .ref S, rawInt st, rawInt 0], []⟩) R s := by
  have put : ∀ {s1 s2 : Shared} {ys : List V} {kx : Int} {tk : Tok} {c' : Nat}, s2.os = s1.os → AllBare s2.gens → (∀ b o, b ≠ S → s1.heap.get? b = some o → s2.heap.get? b = some o) → s2.heap.get? S = some (sumObj (sumV ys + kx) tk c') → Slp [S] s1 s2 ∧ TdSum S (ys ++ [.int kx]) s2 := fun {s1 s2 ys kx tk c'} h1 h2 h3 h4 =>
    ⟨⟨h1, h2, fun b o hb e => h3 b o (fun z => hb (by rw [z]; exact List.mem_singleton.mpr rfl)) e, fun b hb => by
      rw [List.mem_singleton.mp hb]
      exact ⟨_, h4, fun v z => by cases z⟩⟩, tk, c', by rw [sumV_snoc]; exact h4⟩
  intro n
  induction n with
  | zero =>
    intro s tA k c st hst2 hg hl hS ⟨gs, hgs, hgoes⟩
    refine codeAny_builtin F.entry_sum_loop ?_
    rw [Around.under_plainId F.plain_sum_loop _]
    show wpAny _ A.in1 (seqItems? (.ref S) >>= _) _ _ s
    refine wpAny_bind (wpAny_seqItems hS rfl ?_)
    show wpAny _ A.in1 (tryCatch (pyNext (.ref a)) _ >>= _) _ _ s
    refine wpAny_bind (wpAny_tryCatch (next_genG (A := A.in1) (F := GxF Xg [S] (TdSum S) J W) (Er := fun _ _ => False) hh hl hd hg hgs hgoes (fun v s₁ gs' hbare hv => ?_) (fun s₁ hp h' hk => ?_) fun e s₁ he => he.elim))
    · obtain ⟨i, m, ys, x, σ', H', r, ⟨kx, rfl, m', hm, w'⟩, I, th, es, ⟨t0, c0, e0⟩, hk⟩ := hv
      have e1 : s₁.heap.get? S = some (sumObj (sumV ys) t0 c0) := pinsAt_get es e0
      obtain ⟨p1, p2⟩ := put (s1 := s₁) (s2 := { s₁ with heap := s₁.heap.update S (Obj.mapSeq fun _ => #[Value.int (sumV ys + kx) 0]) }) (ys := ys) (kx := kx) rfl I.bare (fun b o hb e => (Heap.get?_update_other _ _ (Ne.symm hb)).trans e) (Heap.get?_update_self _ e1 rfl)
      exact (hk _ m' p1 hm w' p2).elim
    · obtain ⟨i, m, ys, σ', H', w, stop, I, th, es, ⟨t0, c0, e0⟩⟩ := hp
      have e1 : s.heap.get? S = some (sumObj (sumV ys) t0 c0) := e0
      rw [hS] at e1
      cases e1
      exact wpAny_pure (hend i m ys σ' H' s₁ h' _ w stop I hk)
  | succ n ih =>
    intro s tA k c st hst2 hg hl hS ⟨gs, hgs, hgoes⟩
    have hgl : g < s.gens.size := (Array.getElem?_eq_some_iff.mp hgs).1
    refine codeAny_builtin F.entry_sum_loop ?_
    rw [Around.under_plainId F.plain_sum_loop _]
    show wpAny _ A.in1 (seqItems? (.ref S) >>= _) _ _ s
    refine wpAny_bind (wpAny_seqItems hS rfl ?_)
    show wpAny _ A.in1 (tryCatch (pyNext (.ref a)) _ >>= _) _ _ s
    refine wpAny_bind (wpAny_tryCatch (wpAny_gsz (n := g + 1) hgl (next_genG (A := A.in1) (F := GxF Xg [S] (TdSum S) J W) (Er := fun _ _ => False) hh hl hd hg hgs hgoes (fun v s₁ gs' hbare hv => ?_) (fun s₁ hp h' hk => ?_) fun e s₁ he => he.elim)))
    · intro hsz
      obtain ⟨i, m, ys, x, σ', H', r, ⟨kx, rfl, m', hm, w'⟩, I, th, es, ⟨t0, c0, e0⟩, hk⟩ := hv
      obtain ⟨t, rfl⟩ : ∃ t, v = .int kx t := r
      have e1 : s₁.heap.get? S = some (sumObj (sumV ys) t0 c0) := pinsAt_get es e0
      have e2 : s.heap.get? S = some (sumObj (sumV ys) t0 c0) := e0
      rw [hS] at e2
      cases e2
      have hsz1 : g < s₁.gens.size := by
        have q : (s₁.setGen g gs').gens.size = s₁.gens.size := setGen_size _ _ _
        have hsz' : g + 1 ≤ (s₁.setGen g gs').gens.size := hsz
        omega
      have ea : s₁.heap.get? a = some go := pin_at hpn I
      -- the next turn, from a state in which S holds the sum
      have next : ∀ (h3 : Heap) (tk : Nat) (tB : Tok) (c' : Nat) (st : Int), (st = 0 ∨ st = 2) → (∀ b o, b ≠ S → s₁.heap.get? b = some o → h3.get? b = some o) → h3.get? S = some (sumObj (sumV ys + kx) tB c') →
          codeAny (model Xg.prog Xg.w) A (.builtin "sum.loop" ⟨[.ref a, .ref S, rawInt st, rawInt 0], []⟩) R { s₁.setGen g gs' with heap := h3, toks := tk } := fun h3 tk tB c' st hst3 k3 eS => by
        refine ih { s₁.setGen g gs' with heap := h3, toks := tk } tB _ c' st hst3 (hgo _ (k3 a go (Ne.symm hSa) ea)) ?_ eS ⟨gs', setGen_at hsz1, ?_⟩
        · obtain ⟨mc, hns, hnn⟩ := I.nolimit
          exact ⟨mc, hns.at' fun o e => k3 _ o (Ne.symm hSc) e, hnn⟩
        · obtain ⟨p1, p2⟩ := put (s1 := s₁) (s2 := ({ s₁.setGen g gs' with heap := h3, toks := tk } : Shared).setGen g .running) (ys := ys) (kx := kx) rfl (allBare_setGen (s := ({ s₁.setGen g gs' with heap := h3, toks := tk } : Shared)) (allBare_setGen I.bare hbare) rfl) k3 eS
          exact hk _ m' p1 hm w' p2
      have upK : ∀ (h : Heap) (f : Obj → Obj), (∀ b o, b ≠ S → s₁.heap.get? b = some o → h.get? b = some o) → ∀ b o, b ≠ S → s₁.heap.get? b = some o → (h.update S f).get? b = some o := fun h f q b o hb e => (Heap.get?_update_other _ _ (Ne.symm hb)).trans (q b o hb e)
      have k0 : ∀ b o, b ≠ S → s₁.heap.get? b = some o → s₁.heap.get? b = some o := fun _ _ _ e => e
      have hS' : (s₁.setGen g gs').heap.get? S = some (sumObj (sumV ys) tA c) := e1
      rcases hst2 with rfl | rfl
      · show wpAny _ A.in1 (if (_ : Bool) = true then (mkInt (sumV ys + kx) >>= _) else _) _ _ _
        split
        · refine wpAny_bind (wpAny_mkInt ?_)
          show wpAny _ A.in1 (updateSeq S (fun _ => #[.int (sumV ys + kx) s₁.toks]) >>= _) _ _ _
          refine wpAny_bind ?_
          refine wpAny_updateSeq hS' rfl (wpAny_pure ⟨plainId_quiet F.plain_sum_loop _, next _ _ _ _ 0 (.inl rfl) (upK _ _ k0) (Heap.get?_update_self _ hS' rfl)⟩)
        · refine wpAny_bind (wpAny_rule ?_)
          refine wpAny_bind (wpAny_attempt (wpAny_holding (wpAny_add_int ?_)))
          show wpAny _ A.in1 (updateSeq S (fun _ => #[.int (sumV ys + kx) s₁.toks]) >>= _) _ _ _
          refine wpAny_bind (wpAny_updateSeq hS' rfl ?_)
          have hS₂ := Heap.get?_update_self (Obj.mapSeq fun _ => #[Value.int (sumV ys + kx) s₁.toks]) hS' rfl
          refine wpAny_bind (wpAny_letGo ?_)
          refine wpAny_bind (wpAny_updateSeq hS₂ rfl (wpAny_pure ⟨plainId_quiet F.plain_sum_loop _, next _ _ _ _ 2 (.inr rfl) (upK _ _ (upK _ _ k0)) (Heap.get?_update_self _ hS₂ rfl)⟩))
      · show wpAny _ A.in1 ((holding [Value.int kx t] (binaryOp .Add (.int (sumV ys) tA) (.int kx t))).attempt >>= _) _ _ _
        refine wpAny_bind (wpAny_attempt (wpAny_holding (wpAny_add_int ?_)))
        show wpAny _ A.in1 (updateSeq S (fun _ => #[.int (sumV ys + kx) s₁.toks]) >>= _) _ _ _
        refine wpAny_bind (wpAny_updateSeq hS' rfl ?_)
        have hS₂ := Heap.get?_update_self (Obj.mapSeq fun _ => #[Value.int (sumV ys + kx) s₁.toks]) hS' rfl
        refine wpAny_bind (wpAny_letGo ?_)
        refine wpAny_bind (wpAny_updateSeq hS₂ rfl (wpAny_pure ⟨plainId_quiet F.plain_sum_loop _, next _ _ _ _ 2 (.inr rfl) (upK _ _ (upK _ _ k0)) (Heap.get?_update_self _ hS₂ rfl)⟩))
    · intro _
      obtain ⟨i, m, ys, σ', H', w, stop, I, th, es, ⟨t0, c0, e0⟩⟩ := hp
      have e1 : s.heap.get? S = some (sumObj (sumV ys) t0 c0) := e0
      rw [hS] at e1
      cases e1
      exact wpAny_pure (hend i m ys σ' H' s₁ h' _ w stop I hk)
end
end Cg
set_option Elab.async false
set_option linter.all false
set_option maxRecDepth 100000
set_option maxHeartbeats 4000000
namespace Cg
open PySem PySem.Spec PyProof.Rows L2 GenW
/-! ### a generator expression is made -/
/-- the table has grown -/
def Grown (P : Addr) (H H' : Hp) : Prop := GxR.Tabbed P H H' ∧ ∀ ps, H P = some (.tbl ps) → ∃ more, H' P = some (.tbl (ps ++ more))
/-- what has come of it -/
structure Made (X : Cx) (pins : List (Addr × Obj)) (σ : L2.St) (tg elt iter : Expr) (ifs : List Expr) (scope : Scope) (gpos : Pos) (P : Addr) (R : L2.It → Hp → Prop) (a g : Nat) (go : Obj) (code : Value) (s4 : Shared) (H2 H3 : Hp) (it : Addr) (fp : List Addr) (tn : Nat → Heap → Prop) (J : L2.It) (s5 : Shared) : Prop where
  r : R J H2
  tab : Grown P H2 H3
  I4 : Inv X pins σ H3 s4
  T : Turn X.prog X.w X.K tg J fp it tn
  st : tn 0 s5.heap
  fpk : ∀ b ∈ fp, FpOk X pins H3 b
  old : ∀ b ∈ fp, b < s4.heap.objs.size
  kp : ∀ b o, s4.heap.get? b = some o → s5.heap.get? b = some o
  os : s5.os = s4.os
  bare : AllBare s5.gens
  ns : ∃ m, s5.heap.Ns s4.heap.objs.size m
  ga : s5.heap.get? a = some go
  gis : ∀ h : Heap, h.get? a = some go → h.IsGen a g
  lt : s4.heap.objs.size < a
  lt5 : a < s5.heap.objs.size
  gd : ∀ v, go.data ≠ .cell v
  gs : s5.gens[g]? = some (.fresh (.compStart (.GeneratorExp elt [⟨tg, iter, ifs, 0⟩] scope gpos) 0 (.ref it) .none (gxEnv X scope s4.heap.objs.size code)))
section
variable {X : Cx} {pins : List (Addr × Obj)} {σ : L2.St} {H : Hp} {s : Shared} {tg elt iter : Expr} {ifs : List Expr} {scope : Scope} {gpos : Pos} {c P : Addr} {vs : List Nat} {wi : TI} {R : L2.It → Hp → Prop} {Q' : Value → Shared → Prop}
theorem gen_gx (hh : X.A.handled = none) (hd : X.A.depth < recursionLimit) (TB : GxR.TabB X.base X.mg c P) (hcode : X.env.code = .ref c) (S : GxS X.N X.env.scope scope vs) (hi : PI X tg iter wi) (hs : ∀ v, genFold iter X.env v = pure v) (I : Inv X pins σ H s)
    (h : wi σ H fun J H1 => GxR.TabG H1 P ∧ R J H1)
    (hQ : ∀ a g go code s4 H2 H3 it fp tn J s5, Made X pins σ tg elt iter ifs scope gpos P R a g go code s4 H2 H3 it fp tn J s5 → Q' (.ref a) s5) :
    wpAny (model X.prog X.w) X.A (eval (.GeneratorExp elt [⟨tg, iter, ifs, 0⟩] scope gpos) X.env) Q' X.xe s := by
  refine wpAny_GeneratorExp_make S.co (closure_ok (S.has I.ok)) S.cell S.dot S.kind hd ?_ hs
  refine thn (hi.run pins s σ H _ I h) fun xv s1 h1 => thn h1 fun itv s2 h2 => ?_
  obtain ⟨it, fp, tn, J, H2, rfl, I2, T, st2, f2, ⟨ps, hP, ht⟩, hR⟩ := h2
  have hPs : s2.heap.get? P = some { cls := .none, data := .fields ps } := I2.hok P _ hP
  have cd : PySem.W.CodeHd s2.heap c P := TB.code.keeps fun b u e => I2.bk b u e
  have cont : ∀ (code : Value) (h3 : Heap) (tk : Nat) (ps' : Array Value), Heap.ExtBut P s2.heap h3 → h3.get? P = some { cls := .none, data := .fields ps' } → (∃ more, ps' = ps ++ more) → TriplesOk ps'.toList →
      wpAny (model X.prog X.w) X.A (builtinsFor X.env.globals X.env.builtins) (fun bi s₄ => ∀ h', h'.Ns s₄.heap.objs.size (fun y => if y = ".0" then some (.ref it) else none) → Heap.SameBut s₄.heap.objs.size (s₄.heap.push { cls := .type "frame", data := .dict #[] }) h' →
          Q' (.ref h'.objs.size) { s₄ with
            gens := s₄.gens.push (.fresh (.compStart (.GeneratorExp elt [⟨tg, iter, ifs, 0⟩] scope gpos) 0 (.ref it) .none (genEnv scope (cloFrom X.env.cells scope.names []) s₄.heap.objs.size code bi X.env))),
            toks := s₄.toks + 1 + 1 + 1,
            heap := h'.push { cls := .type "generator", data := .fields #[.int s₄.gens.size 0, .str "<genexpr>" (s₄.toks + 1), .str (X.env.qual ++ "<genexpr>") (s₄.toks + 1 + 1)] } }) X.xe { s2 with heap := h3, toks := tk } := by
    intro code h3 tk ps' hx hP3 hmore ht3
    obtain ⟨bm, ob, e1, e2, e3, e4, e5, e6, e7, e8⟩ := TB.bm
    have keep3 : ∀ b u, b ≠ P → s2.heap.get? b = some u → h3.get? b = some u := fun b u hb e => hx b u hb e
    refine wpAny_builtinsFor (m := X.mg) (by rw [I2.ok.glob]; exact ((I2.mod.glob.keeps I2.bk)).extBut hx TB.gP) e1 e2 (keep3 _ _ e4 (I2.bk _ _ e5)) e6 e7 e8 ?_
    intro h' hns hsb
    obtain ⟨more, em⟩ := hmore
    have I3 : Inv X pins σ (upd H2 P (.tbl (ps ++ more))) { s2 with heap := h3, toks := tk } :=
      GxR.inv_tab (g' := s2.gens) (d' := s2.drawn) I2 hP (fun b o hb e => keep3 b o hb e) (by rw [← em]; exact hP3) I2.bare
    have nP : ∀ b ∈ fp, b ≠ P := fun b hb e => by
      have z := (f2 b hb).1
      rw [e, hP] at z
      cases z
    have f3 : ∀ b ∈ fp, FpOk X pins (upd H2 P (.tbl (ps ++ more))) b := fun b hb => ⟨by rw [upd_ne (nP b hb)]; exact (f2 b hb).1, (f2 b hb).2⟩
    have st3 : tn 0 h3 := T.keep _ _ _ st2 fun b hb o e => keep3 b o (nP b hb) e
    have kp' : ∀ b o, h3.get? b = some o → h'.get? b = some o := fun b o e => hsb.extBut b o (Nat.ne_of_lt (Heap.lt_size e)) (Heap.get?_push_of_some _ e)
    have kp5 : ∀ (go : Obj) b o, h3.get? b = some o → (h'.push go).get? b = some o := fun go b o e => Heap.get?_push_of_some _ (kp' b o e)
    have sz : h'.objs.size = h3.objs.size + 1 := by rw [hsb.1, Heap.size_push]
    refine hQ h'.objs.size s2.gens.size _ code { s2 with heap := h3, toks := tk } H2 (upd H2 P (.tbl (ps ++ more))) it fp tn J _ ⟨hR, ⟨⟨⟨ps ++ more, upd_same, by rw [← em]; exact ht3⟩, fun b hb => upd_ne hb⟩, fun ps' e => by
        rw [hP] at e
        cases e
        exact ⟨more, upd_same⟩⟩, I3, T, T.keep _ _ _ st3 fun b _ o e => kp5 _ b o e, f3, fun b hb => ?_, kp5 _, rfl, AllBare.push I2.bare rfl,
      ⟨_, hns.push _⟩, Heap.get?_push_size _ rfl, fun h e => ⟨_, _, _, e, rfl, rfl, rfl⟩, ?_, ?_, (fun v z => by cases z), Array.getElem?_push_size ..⟩
    · obtain ⟨o, e, _⟩ := T.obj _ _ st3 b hb
      exact Heap.lt_size e
    · show h3.objs.size < h'.objs.size
      omega
    · show h'.objs.size < (h'.push _).objs.size
      rw [Heap.size_push]
      exact Nat.lt_succ_self _
  refine ⟨I2.nolimit, ?_⟩
  cases hf : codeAmong gpos ps.toList with
  | none =>
    refine wpAny_genexprCodeX hcode (cd.code hPs ht) (cd.tab hPs) hf fun c' h' tk hx hge hlt hco' _ htab' _ => ?_
    obtain ⟨o1, vs, f1, tf, fl, tg, inF, tx, tt, op, _, _, _, _, _, _, _, _, _, htr, _⟩ := hco'
    exact cont _ h' tk _ hx htab'.2 ⟨_, rfl⟩ htr
  | some cv =>
    refine wpAny_genexprCode_hit hcode (cd.code hPs ht) hf ?_
    exact cont cv s2.heap s2.toks ps (Heap.ExtBut.refl _ _) hPs ⟨#[], by simp⟩ ht
/-- behind it: the def goes on -/
theorem gx_back {A : Around} {H3 H' : Hp} {s4 s1 s' : Shared} {code : Value} {fp : List Addr} {pn pl : List (Addr × Obj)} {σ' : L2.St} (I4 : Inv X pins σ H3 s4) (fpk : ∀ b ∈ fp, FpOk X pins H3 b) (J : Inv (gxCx X A s4 H3 scope code fp pn) pl σ' H' s1)
    (kp : ∀ b o, s1.heap.get? b = some o → s'.heap.get? b = some o) (ho : s'.os = s1.os) (hb : AllBare s'.gens) : Inv X pins σ H' s' := by
  refine I4.call' (ch := fp) (ho.trans J.os) ((show Un (frs X.stack) fp H3 H' s4.heap s1.heap from J.base).trans (Un.kept kp)) (J.hok.kept kp) hb fun b hb => ?_
  obtain ⟨_, f1, _, f3, f4, f5⟩ := fpk b hb
  exact ⟨f3, f1, f4, f5⟩
abbrev gxA (X : Cx) (s4 : Shared) (scope : Scope) (code : Value) : Around := X.A.in1.in1.deeper (gxEnv X scope s4.heap.objs.size code)
abbrev gxC (X : Cx) (s4 : Shared) (H4 : Hp) (scope : Scope) (code : Value) (fp : List Addr) (pn : List (Addr × Obj)) : Cx := gxCx X (gxA X s4 scope code) s4 H4 scope code fp pn
variable {g : TG} {tt : TT} {te : TE} {J : L2.It} {W : Nat → Nat → List V → Hp → Prop} {Yd : Nat → Nat → List V → V → Hp → Prop}
/-- it sleeps, ready for its consumer -/
theorem made_asleep {Sl : List Addr} {Td : List V → Shared → Prop} {a gn : Nat} {go : Obj} {code : Value} {s4 s5 s6 : Shared} {H2 H3 : Hp} {it : Addr} {fp : List Addr} {tn : Nat → Heap → Prop} {m : Nat} (hh : X.A.handled = none) (S : GxS X.N X.env.scope scope vs)
    (hg : ∀ s4 H4 code fp pn, PG (gxC X s4 H4 scope code fp pn) tg g) (ht : ∀ s4 H4 code fp pn, PTs (gxC X s4 H4 scope code fp pn) ifs tt) (he : ∀ s4 H4 code fp pn, PE (gxC X s4 H4 scope code fp pn) elt te)
    (M : Made X pins σ tg elt iter ifs scope gpos P R a gn go code s4 H2 H3 it fp tn J s5) (turn : GxT J g tt te vs σ W Yd) (w : W 0 m [] H3)
    (k6 : ∀ b o, s5.heap.get? b = some o → s6.heap.get? b = some o) (ho : s6.os = s5.os) (hgn : s6.gens = s5.gens) (young : ∀ b ∈ Sl, s5.heap.objs.size ≤ b) (th : There Sl s6) (td : Td [] (s6.setGen gn .running)) :
    Asleep (gxC X s4 H3 scope code fp [(a, go)]) X.A.in1.in1 Sl Td J W Yd gn (m + 1) s6 := by
  have sz : s4.heap.objs.size < s5.heap.objs.size := Nat.lt_trans M.lt M.lt5
  have yS : ∀ b ∈ Sl, s4.heap.objs.size < b ∧ b ≠ a := fun b hb => ⟨Nat.lt_of_lt_of_le sz (young b hb), fun e => absurd (Nat.lt_of_lt_of_le M.lt5 (e ▸ young b hb)) (Nat.lt_irrefl _)⟩
  have hb6 : AllBare (s6.setGen gn .running).gens := allBare_setGen (by rw [hgn]; exact M.bare) rfl
  obtain ⟨mm, hn⟩ := M.ns
  have hfr : (gxA X s4 scope code).frames = some (gxEnv X scope s4.heap.objs.size code :: X.stack) := Around.frames_deeper (show X.A.in1.in1.frames = some X.stack from M.I4.env0.frames)
  have I := gx_start (A := gxA X s4 scope code) (s5 := s6.setGen gn .running) (code := code) (pn := [(a, go)]) M.I4 S (show (gxA X s4 scope code).handled = none from hh) hfr M.fpk M.old (fun b o e => k6 b o (M.kp b o e)) (ho.trans M.os) hb6 (m := mm)
    (show s6.heap.Ns s4.heap.objs.size mm from hn.at' fun o e => k6 _ o e) (fun p hp => by
      rw [List.mem_singleton.mp hp]
      exact ⟨k6 _ _ M.ga, M.lt, M.gd⟩)
  have cl : ∀ x c, (gxEnv X scope s4.heap.objs.size code).cells.lookup x = some c → c < s4.heap.objs.size := fun x c e => by
    have e2 : (cloFrom X.env.cells scope.names []).lookup x = some c := e
    rcases cloFrom_mem (PySem.mem_of_lookup e2) with hm | ⟨h1, h2⟩
    · cases hm
    · obtain ⟨c1, hc⟩ := S.has M.I4.ok _ h1 rfl
      have hc : X.env.cells.lookup x = some c1 := hc
      have e3 : c = c1 := by
        rw [h2, hc] <;> rfl
      rw [e3]
      obtain ⟨v, q⟩ := M.I4.cell x c1 hc
      exact q.lt
  have hA : Young (gxC X s4 H3 scope code fp [(a, go)]) Sl := fun b hb => by
    obtain ⟨y1, y2⟩ := yS b hb
    refine ⟨Nat.le_of_lt y1, Nat.ne_of_gt y1, fun x c e z => absurd (Nat.lt_trans (z ▸ cl x c e) y1) (Nat.lt_irrefl _), fun hm => ?_⟩
    obtain ⟨_, o, ho, _⟩ := M.I4.env0.funs.mem hm
    exact absurd (Nat.lt_trans (Heap.lt_size ho) y1) (Nat.lt_irrefl _)
  have I' : Inv (gxC X s4 H3 scope code fp [(a, go)]) (pinsAt Sl (s6.setGen gn .running).heap) (wipe σ vs) H3 (s6.setGen gn .running) := by
    refine I.pins_of fun p hp => ?_
    obtain ⟨hb, e⟩ := of_pinsAt hp
    obtain ⟨o, e', d'⟩ := th p.1 hb
    have e2 : s6.heap.get? p.1 = some p.2 := e
    rw [e2] at e'
    cases e'
    exact ⟨e2, M.I4.hok.fresh (Nat.le_of_lt (yS _ hb).1), (hA _ hb).2.1, (hA _ hb).2.2.2, d'⟩
  refine ⟨.fresh (.compStart (.GeneratorExp elt [⟨tg, iter, ifs, 0⟩] scope gpos) 0 (.ref it) .none (gxEnv X scope s4.heap.objs.size code)), by rw [hgn]; exact M.gs, rfl, ?_⟩
  refine seg_gx0 (vs := vs) S.co M.T (hg _ _ _ _ _) (ht _ _ _ _ _) (he _ _ _ _ _) (fun b hb => ?_) (fun p hp => ?_) hA turn (Nat.lt_succ_self m) w I' th td (M.T.keep _ _ _ M.st fun b _ o e => k6 b o e) fun b hb => (M.fpk b hb).1
  · refine ⟨Nat.ne_of_lt (M.old b hb), fun hm => ?_, fun x c e z => ?_, fun z => absurd (Nat.lt_trans (M.old b hb) (yS b z).1) (Nat.lt_irrefl _), fun p hp => ?_⟩
    · rcases List.mem_cons.mp (M.I4.stkSub b hm) with z | z
      · exact (M.fpk b hb).2.1 z
      · exact (M.fpk b hb).2.2.1 z
    · have e2 : (cloFrom X.env.cells scope.names []).lookup x = some c := e
      rcases cloFrom_mem (PySem.mem_of_lookup e2) with hm | ⟨h1, h2⟩
      · cases hm
      · obtain ⟨c1, hc⟩ := S.has M.I4.ok _ h1 rfl
        have hc : X.env.cells.lookup x = some c1 := hc
        have e3 : c = c1 := by
          rw [h2, hc] <;> rfl
        exact (M.fpk b hb).2.2.2.2.1 x c1 hc (e3 ▸ z)
    · rw [List.mem_singleton.mp hp]
      exact Nat.ne_of_gt (Nat.lt_trans (M.old b hb) M.lt)
  · rw [List.mem_singleton.mp hp]
    exact fun hm => (yS a hm).2 rfl
/-! ### all(.. for ..), sum(.. for ..) -/
def tGall (P : Addr) (wi : TI) (g : TG) (tt : TT) (te : TE) (vs : List Nat) : TE := fun σ H Q => wi σ H fun J H1 => GxR.TabG H1 P ∧ ∀ H2, Grown P H1 H2 → ∃ W : Nat → Nat → List V → Hp → Prop, (∃ m, W 0 m [] H2) ∧
  GxT J g tt te vs σ W (YdAll W fun H' => Q (.bl false) H') ∧ ∀ i m ys H', (m = 0 ∧ W i m ys H') → J.stop i H' → Q (.bl true) H'
def tGsum (P : Addr) (wi : TI) (g : TG) (tt : TT) (te : TE) (vs : List Nat) : TE := fun σ H Q => wi σ H fun J H1 => GxR.TabG H1 P ∧ ∀ H2, Grown P H1 H2 → ∃ W : Nat → Nat → List V → Hp → Prop, (∃ m, W 0 m [] H2) ∧
  GxT J g tt te vs σ W (YdSum W) ∧ ∀ i m ys H', (m = 0 ∧ W i m ys H') → J.stop i H' → Q (.int (sumV ys)) H'
theorem pe_gallX {k : Nat} {p pos : Pos} (hr : Room k X.A) (hgl : Gl X "all") (hm : X.mg "all" = none) (hb : bootBuiltins "all" = some (.builtin "all")) (TB : GxR.TabB X.base X.mg c P) (hcode : X.env.code = .ref c) (S : GxS X.N X.env.scope scope vs)
    (hi : PI X tg iter wi) (hs : ∀ v, genFold iter X.env v = pure v)
    (hg : ∀ s4 H4 code fp pn, PG (gxC X s4 H4 scope code fp pn) tg g) (ht : ∀ s4 H4 code fp pn, PTs (gxC X s4 H4 scope code fp pn) ifs tt) (he : ∀ s4 H4 code fp pn, PE (gxC X s4 H4 scope code fp pn) elt te)
    (hst : starEach [.GeneratorExp elt [⟨tg, iter, ifs, 0⟩] scope gpos] X.env = (false, eval (.GeneratorExp elt [⟨tg, iter, ifs, 0⟩] scope gpos) X.env) :: starEach [] X.env := by rfl) :
    PE X (.Call (.Name "all" p) [.GeneratorExp elt [⟨tg, iter, ifs, 0⟩] scope gpos] [] pos) (tGall P wi g tt te vs) := by
  refine ⟨fun pins s σ H Q I h => ?_⟩
  refine wpAny_Call_Name_kw (ld_blt I hgl hm hb ?_)
  refine PyProof.Rows.callWith_builtin1 ?_ hst (by rfl)
  rw [hst]
  show wpAny _ _ (spliced ((false, eval (.GeneratorExp elt [⟨tg, iter, ifs, 0⟩] scope gpos) X.env) :: backTo pos (starEach [] X.env))) _ _ s
  refine Calls.spliced_cons (gen_gx (R := fun J H1 => ∀ H2, Grown P H1 H2 → ∃ W : Nat → Nat → List V → Hp → Prop, (∃ m, W 0 m [] H2) ∧ GxT J g tt te vs σ W (YdAll W fun H' => Q (.bl false) H') ∧ ∀ i m ys H', (m = 0 ∧ W i m ys H') → J.stop i H' → Q (.bl true) H')
    hr.hd hr.depth TB hcode S hi hs I h fun a gn go code s4 H2 H3 it fp tn J s5 M => ?_)
  refine Calls.spliced_nil ?_
  obtain ⟨W, ⟨m, w⟩, turn, fin⟩ := M.r H3 M.tab
  refine call_function_tree F.kind_all F.plain_all F.entry_all (F.args_all1 _) ?_
  unfold Builtin.«all»
  refine wpAny_bind (m := oneArg "all" _) (wpAny_pure ?_)
  refine wpAny_bind (wpAny_pyIter_gen (M.gis _ M.ga) ?_)
  refine wpAny_pure ⟨plainId_quiet F.plain_all_loop _, ?_⟩
  refine all_gx (Xg := gxC X s4 H3 scope code fp [(a, go)]) (J := J) (W := W) (A := X.A) (a := a) (g := gn) (go := go) (Qf := fun H' => Q (.bl false) H') rfl M.gis hr.hd hr.depth (fun i m ys σ' H' s1 h' w' st I' k' => ?_) (fun σ' H' s1 gs' q I' hbare => ?_) (m + 1) s5 (M.gis _ M.ga) (M.I4.nolimit.keeps M.kp) ?_
  · exact ⟨.bl true, H', gx_back (s' := { s1.setGen gn .finished with heap := h' }) M.I4 M.fpk I' k' rfl (allBare_setGen I'.bare rfl), rfl, fin i m ys H' w' st⟩
  · exact ⟨.bl false, H', gx_back (s' := s1.setGen gn gs') M.I4 M.fpk I' (fun _ _ e => e) rfl (allBare_setGen I'.bare hbare), rfl, q⟩
  · exact made_asleep hr.hd S hg ht he M turn w (fun _ _ e => e) rfl rfl (fun b hb => by cases hb) (fun b hb => by cases hb) trivial
theorem pe_gsumX {k : Nat} {p pos : Pos} (hr : Room k X.A) (hgl : Gl X "sum") (hm : X.mg "sum" = none) (hb : bootBuiltins "sum" = some (.builtin "sum")) (TB : GxR.TabB X.base X.mg c P) (hcode : X.env.code = .ref c) (S : GxS X.N X.env.scope scope vs)
    (hi : PI X tg iter wi) (hs : ∀ v, genFold iter X.env v = pure v)
    (hg : ∀ s4 H4 code fp pn, PG (gxC X s4 H4 scope code fp pn) tg g) (ht : ∀ s4 H4 code fp pn, PTs (gxC X s4 H4 scope code fp pn) ifs tt) (he : ∀ s4 H4 code fp pn, PE (gxC X s4 H4 scope code fp pn) elt te)
    (hst : starEach [.GeneratorExp elt [⟨tg, iter, ifs, 0⟩] scope gpos] X.env = (false, eval (.GeneratorExp elt [⟨tg, iter, ifs, 0⟩] scope gpos) X.env) :: starEach [] X.env := by rfl) :
    PE X (.Call (.Name "sum" p) [.GeneratorExp elt [⟨tg, iter, ifs, 0⟩] scope gpos] [] pos) (tGsum P wi g tt te vs) := by
  refine ⟨fun pins s σ H Q I h => ?_⟩
  refine wpAny_Call_Name_kw (ld_blt I hgl hm hb ?_)
  refine PyProof.Rows.callWith_builtin1 ?_ hst (by rfl)
  rw [hst]
  show wpAny _ _ (spliced ((false, eval (.GeneratorExp elt [⟨tg, iter, ifs, 0⟩] scope gpos) X.env) :: backTo pos (starEach [] X.env))) _ _ s
  refine Calls.spliced_cons (gen_gx (R := fun J H1 => ∀ H2, Grown P H1 H2 → ∃ W : Nat → Nat → List V → Hp → Prop, (∃ m, W 0 m [] H2) ∧ GxT J g tt te vs σ W (YdSum W) ∧ ∀ i m ys H', (m = 0 ∧ W i m ys H') → J.stop i H' → Q (.int (sumV ys)) H')
    hr.hd hr.depth TB hcode S hi hs I h fun a gn go code s4 H2 H3 it fp tn J s5 M => ?_)
  refine Calls.spliced_nil ?_
  obtain ⟨W, ⟨m, w⟩, turn, fin⟩ := M.r H3 M.tab
  refine call_function_tree F.kind_sum F.plain_sum F.entry_sum (F.args_sum1 _) ?_
  unfold Builtin.«sum»
  simp only [List.length_cons, List.length_nil]
  rw [if_neg (by decide)]
  refine wpAny_bind (wpAny_of_eq (show Builtin.Builtins.bindParams "sum" ["start"] 0 { } = pure [none] from rfl) ?_)
  refine wpAny_bind (wpAny_pyIter_gen (M.gis _ M.ga) ?_)
  refine wpAny_bind (wpAny_mkInt ?_)
  refine wpAny_bind (wpAny_pure ?_)
  simp only [List.forIn_cons, List.forIn_nil]
  refine wpAny_bind (wpAny_bind (wpAny_bind (wpAny_isInstance (T := "int") (b := false) (typeIs_int _ _ _) PySem.sub_int_str ?_)))
  simp only [Bool.false_eq_true, if_false]
  refine wpAny_pure (wpAny_bind (wpAny_bind (wpAny_isInstance (T := "int") (b := false) (typeIs_int _ _ _) PySem.sub_int_bytes ?_)))
  simp only [Bool.false_eq_true, if_false]
  refine wpAny_pure (wpAny_bind (wpAny_bind (wpAny_isInstance (T := "int") (b := false) (typeIs_int _ _ _) PySem.sub_int_bytearray ?_)))
  simp only [Bool.false_eq_true, if_false]
  refine wpAny_pure (wpAny_pure ?_)
  refine wpAny_bind (wpAny_newObj_type ?_)
  have lim : s5.heap.NoLimit := M.I4.nolimit.keeps M.kp
  have hcl : cStatics < s5.heap.objs.size := let ⟨_, hn, _⟩ := lim; hn.lt
  have k6 : ∀ (o : Obj) b u, s5.heap.get? b = some u → (s5.heap.push o).get? b = some u := fun o b u e => Heap.get?_push_of_some _ e
  refine wpAny_pure ⟨plainId_quiet F.plain_sum_loop _, ?_⟩
  refine sum_gx (Xg := gxC X s4 H3 scope code fp [(a, go)]) (J := J) (W := W) (A := X.A) (a := a) (g := gn) (go := go) (S := s5.heap.objs.size) rfl M.gis hr.hd hr.depth (Nat.ne_of_gt M.lt5) (Nat.ne_of_gt hcl) (fun i m ys σ' H' s1 h' t w' st I' k' => ?_) (m + 1) _ s5.toks 0 0 0 (.inl rfl) (M.gis _ (k6 _ _ _ M.ga)) (lim.keeps (k6 _)) (Heap.get?_push_size _ rfl) ?_
  · exact ⟨.int (sumV ys), H', gx_back (s' := { s1.setGen gn .finished with heap := h' }) M.I4 M.fpk I' k' rfl (allBare_setGen I'.bare rfl), ⟨t, rfl⟩, fin i m ys H' w' st⟩
  · refine made_asleep (Sl := [s5.heap.objs.size]) hr.hd S hg ht he M turn w (k6 _) rfl rfl (fun b hb => by rw [List.mem_singleton.mp hb]; exact Nat.le_refl _) (fun b hb => ?_) ⟨_, _, Heap.get?_push_size _ rfl⟩
    rw [List.mem_singleton.mp hb]
    exact ⟨_, Heap.get?_push_size _ rfl, fun v z => by cases z⟩
end
end Cg
set_option Elab.async false
set_option linter.all false
set_option maxRecDepth 100000
set_option maxHeartbeats 4000000
namespace Cg
open PySem PySem.Spec PyProof.Rows L2 GenW
/-! ### all(..), sum(..) of a generator expression: readings -/
/-- no error leaves -/
def Fc.mute (c : Fc) : Fc := { c with E := fun _ _ _ => False }
section
variable {c : Fc} {O O' : Ow} {ρ : Env} {σ : L2.St} {H H' : Hp} {P : Addr}
theorem Rel.muted {E : XK} (R : Rel c O ρ σ H) : Rel { c with E := E } O ρ σ H :=
  ⟨R.len, fun i d g e => by
    obtain ⟨v, e1, e2⟩ := R.slot i d g e
    exact ⟨v, e1, SlotOk.conv (c := c) (c' := { c with E := E }) rfl (fun d v r => r) (fun b o z1 z2 n => ⟨z1, z2⟩) e2⟩, R.dom, R.own, R.ent, R.tbl, R.root, R.par, R.tabs, R.zed, R.zed0⟩
theorem Rel.mute (R : Rel c O ρ σ H) : Rel c.mute O ρ σ H := R.muted
theorem Rel.unmute (R : Rel c.mute O ρ σ H) : Rel c O ρ σ H := Rel.muted (c := c.mute) (E := c.E) R
theorem Grown.toExt (g : Grown P H H') (t : GxR.TabG H P) : Ext H H' := by
  have n : ∀ {a : Addr} {o : HO}, H a = some o → notTbl o → a ≠ P := fun {a o} e n z => by
    obtain ⟨ps, h, _⟩ := t
    rw [z, h] at e
    cases e
    exact n ps rfl
  refine ⟨fun a o e q => by rw [g.1.2 a (n e q)]; exact e, fun a ps e => ?_⟩
  by_cases z : a = P
  · subst z; exact g.2 ps e
  · exact ⟨#[], by rw [g.1.2 a z, e]; simp⟩
theorem Rel.grown (R : Rel c O ρ σ H) (hP : P ∈ c.tb) (hl : c.tl = []) (g : Grown P H H') : Rel c O ρ σ H' := by
  refine R.ext (g.toExt (R.tabs.1 P hP)) ⟨fun q hq => ?_, by rw [hl]; exact fun q hq => by cases hq⟩
  by_cases z : q = P
  · subst z; exact g.1.1
  · obtain ⟨ps, h1, h2⟩ := R.tabs.1 q hq
    exact ⟨ps, by rw [g.1.2 q z]; exact h1, h2⟩
end
theorem allR_exc {f : D → Env → R (Bool × Env)} (hf : ∀ x ρ e, f x ρ ≠ .exc e) : ∀ (xs : List D) (ρ : Env) (e : Nat), allR f xs ρ ≠ .exc e
  | [], ρ, e => fun h => by cases h
  | x :: xs, ρ, e => fun h => by
    rw [allR] at h
    cases q : f x ρ with
    | bad => rw [q] at h; cases h
    | exc e' => exact hf x ρ e' q
    | ok p =>
      rw [q] at h
      have h : (if p.1 = true then allR f xs p.2 else .ok (false, p.2)) = Cg.R.exc e := h
      by_cases z : p.1 = true
      · rw [if_pos z] at h; exact allR_exc hf xs p.2 e h
      · rw [if_neg z] at h; cases h
theorem allR_cons {f : D → Env → R (Bool × Env)} {x : D} {xs : List D} {ρ ρ2 : Env} {b : Bool} (h : allR f (x :: xs) ρ = .ok (b, ρ2)) : ∃ b1 ρ1, f x ρ = .ok (b1, ρ1) ∧ (if b1 = true then allR f xs ρ1 = .ok (b, ρ2) else b = false ∧ ρ2 = ρ1) := by
  rw [allR] at h
  cases q : f x ρ with
  | bad => rw [q] at h; cases h
  | exc e' => rw [q] at h; cases h
  | ok p =>
    rw [q] at h
    have h : (if p.1 = true then allR f xs p.2 else .ok (false, p.2)) = Cg.R.ok (b, ρ2) := h
    refine ⟨p.1, p.2, rfl, ?_⟩
    by_cases z : p.1 = true
    · rw [if_pos z] at h ⊢; exact h
    · rw [if_neg z] at h ⊢
      injection h with h
      injection h with h1 h2
      exact ⟨h1.symm, h2.symm⟩
def gaF (T : Env → D → R Env) (E : Env → R (D × Env)) (ns : List Nat) : D → Env → R (Bool × Env) := fun x ρ => quiet do
  let ρ ← T (wipeS ρ ns) x
  let (d, ρ) ← E ρ
  .ok (← d.toBool, ρ)
def gallR (F : Env → R (List D × Env)) (T : Env → D → R Env) (E : Env → R (D × Env)) (ns : List Nat) : Env → R (D × Env) := fun ρ0 => do
  let (xs, ρ) ← F ρ0
  if plainS ρ ns then
    let (b, ρ2) ← allR (gaF T E ns) xs ρ
    .ok (.bool b, backS ρ2 ρ ns)
  else .bad
def gsumR (F : Env → R (List D × Env)) (T : Env → D → R Env) (C : Env → R (Bool × Env)) (E : Env → R (D × Env)) (ns : List Nat) : Env → R (D × Env) := fun ρ0 => do
  let (xs, ρ) ← F ρ0
  if plainS ρ ns then
    let (l, ρ2) ← eachR (lcF T C E ns) xs ρ
    .ok (.int (← intsR l).sum, backS ρ2 ρ ns)
  else .bad
section
variable {c : Fc} {F : Env → R (List D × Env)} {T : Env → D → R Env} {C : Env → R (Bool × Env)} {E : Env → R (D × Env)} {ns : List Nat} {gr ge : Bool} {O : Ow} {ρ0 : Env} {σ : L2.St} {H : Hp} {Q : VK} {P : Addr}
/-- how all(.. for ..) goes -/
theorem gall_reads (hP : P ∈ c.tb) (hl : c.tl = []) (R : Rel c O ρ0 σ H) (z : wpR c (gallR F T E ns ρ0) fun p => ∀ v H', Res gr c H O p.2 σ H' p.1 v → Keep O H H' → Q v H') :
    tGall P (tIt c F) (tGt c.mute ns T) (Cg.tB c.mute fun ρ => Cg.R.ok (true, ρ)) (tS c.mute false E) ns σ H Q := by
  refine ⟨O, ρ0, R, (wpR_bind.mp z).mono fun ⟨xs, ρ1⟩ z J H1 R1 k1 gs => ⟨R1.tabs.1 P hP, fun H2 gw => ?_⟩⟩
  obtain ⟨pl, z⟩ := (show wpR c (if plainS ρ1 ns = true then (do
    let (b, ρ2) ← allR (gaF T E ns) xs ρ1
    Cg.R.ok (D.bool b, backS ρ2 ρ1 ns)) else Cg.R.bad) _ from z).if_
  have z := wpR_bind.mp z
  have np := plainS_np R1 pl
  obtain ⟨b, ρe, he, z⟩ : ∃ b ρe, allR (gaF T E ns) xs ρ1 = .ok (b, ρe) ∧ ∀ v H', Res gr c H O (backS ρe ρ1 ns) σ H' (.bool b) v → Keep O H H' → Q v H' := by
    cases q : allR (gaF T E ns) xs ρ1 with
    | bad => rw [q] at z; exact z.elim
    | exc e => exact absurd q (allR_exc (fun x ρ e => quiet_exc) _ _ _)
    | ok r => rw [q] at z; exact ⟨r.1, r.2, rfl, z⟩
  have len1 : ρ1.length = σ.length := R1.len
  have R2 := R1.grown hP hl gw
  have kg : Keep O H1 H2 := (gw.toExt (R1.tabs.1 P hP)).toKeep
  have fin : ∀ (ρ' : Env) (H' : Hp) (b' : Bool), ρe = ρ' → b = b' → Rel c O (wipeS ρ' ns) (wipe σ ns) H' → Keep O H1 H' → Q (.bl b') H' := fun ρ' H' b' e1 e2 Rw kp => by
    subst e1 e2
    have lr : ρe.length = ρ1.length := by
      have q := Rw.len
      rw [wipeS_len, wipe_length] at q
      rw [q, len1]
    exact z (.bl b) H' (Res.scal (Rw.back R1 kp.stay pl lr) rfl rfl) (k1.trans kp)
  refine ⟨fun i m _ H' => m = xs.length - i ∧ i ≤ xs.length ∧ ∃ ρ', Rel c O (wipeS ρ' ns) (wipe σ ns) H' ∧ Keep O H1 H' ∧ allR (gaF T E ns) (xs.drop i) ρ' = .ok (b, ρe), ⟨xs.length, by simp, Nat.zero_le _, ρ1, R2.wiped np, kg, he⟩, ?_, ?_⟩
  · rintro i m ys H' ⟨rfl, hi, ρ', Rw, kp, hr⟩
    by_cases hlt : i < xs.length
    · rw [List.drop_eq_getElem_cons hlt] at hr
      obtain ⟨b1, ρ5, hf, hrest⟩ := allR_cons hr
      refine .inr ⟨gs.go i O H' hlt kp.stay, fun x H3 hy => ?_⟩
      obtain ⟨la, rn⟩ := gs.yld i xs[i] O H' x H3 (by simp [hlt]) kp.stay hy
      have R3 := Rw.lays la
      have k3 : Keep O H' H3 := la.ext.toKeep
      have rx : Rep c.k (Al c O) H3 xs[i] x := Rep.mono (fun b ⟨w, o, h, n⟩ => w) _ _ rn
      replace hf := quiet_ok hf
      cases qT : T (wipeS ρ' ns) xs[i] with
      | bad => rw [qT] at hf; cases hf
      | exc e => rw [qT] at hf; cases hf
      | ok ρ2 =>
      rw [qT] at hf
      replace hf : (E ρ2 >>= fun u => D.toBool u.1 >>= fun b => Cg.R.ok (b, u.2)) = Cg.R.ok (b1, ρ5) := hf
      cases qE : E ρ2 with
      | bad => rw [qE] at hf; cases hf
      | exc e => rw [qE] at hf; cases hf
      | ok u =>
      rw [qE] at hf
      obtain ⟨d, ρ6⟩ := u
      replace hf : (D.toBool d >>= fun b => Cg.R.ok (b, ρ6)) = Cg.R.ok (b1, ρ5) := hf
      cases d <;> first | (cases hf; done) | skip
      rename_i bb
      have hf : Cg.R.ok (bb, ρ6) = Cg.R.ok (b1, ρ5) := hf
      injection hf with hf
      injection hf with e1 e2
      subst e1 e2
      refine ⟨O, wipeS ρ' ns, xs[i], R3.mute, rx, ?_⟩
      rw [qT]
      intro σ2 Rb bt
      have wz : wipe σ2 ns = wipe σ ns := by rw [bt.wipe, wipe_wipe]
      refine ⟨wz, O, ρ2, Rb, ?_⟩
      intro H4 Rc k4
      refine ⟨O, ρ2, Rc, ?_⟩
      rw [qE]
      intro y H5 ry k5
      have R6 := (Rel.unmute ry.rel).wiped np
      rw [wz] at R6
      have kp5 : Keep O H1 H5 := ((kp.trans k3).trans k4).trans k5
      have hy : y = .bl bb := ry.rep
      refine ⟨bb, hy, ?_⟩
      cases bb with
      | true => exact ⟨xs.length - (i + 1), by omega, rfl, hlt, ρ6, R6, kp5, hrest⟩
      | false =>
        obtain ⟨q1, q2⟩ := (show b = false ∧ ρe = ρ6 from hrest)
        exact fin ρ6 H5 false q2 q1 R6 kp5
    · have hi' : i = xs.length := by omega
      subst hi'
      exact .inl ⟨by simp, gs.stop O H' kp.stay⟩
  · rintro i m ys H' ⟨rfl, hm, hi, ρ', Rw, kp, hr⟩ -
    have hd : xs.drop i = [] := List.drop_eq_nil_of_le (by omega)
    rw [hd] at hr
    have hr : Cg.R.ok (true, ρ') = Cg.R.ok (b, ρe) := hr
    injection hr with hr
    injection hr with h1 h2
    exact fin ρ' H' true h2.symm h1.symm Rw kp
theorem intsR_cons {d : D} {ds : List D} {js : List Int} (h : intsR (d :: ds) = .ok js) : ∃ j r, d = .int j ∧ intsR ds = .ok r ∧ js = j :: r := by
  rw [intsR] at h
  cases d <;> first | (cases h; done) | skip
  rename_i j
  have h : (intsR ds >>= fun r => Cg.R.ok (j :: r)) = Cg.R.ok js := h
  cases q : intsR ds with
  | bad => rw [q] at h; cases h
  | exc e => rw [q] at h; cases h
  | ok r =>
    rw [q] at h
    have h : Cg.R.ok (j :: r) = Cg.R.ok js := h
    injection h with h
    exact ⟨j, r, rfl, rfl, h.symm⟩
theorem intsR_exc : ∀ (ds : List D) (e : Nat), intsR ds ≠ .exc e
  | [], e => fun h => by cases h
  | d :: ds, e => fun h => by
    rw [intsR] at h
    cases d <;> first | (cases h; done) | skip
    rename_i j
    have h : (intsR ds >>= fun r => Cg.R.ok (j :: r)) = Cg.R.exc e := h
    cases q : intsR ds with
    | bad => rw [q] at h; cases h
    | exc e' => exact intsR_exc ds e' q
    | ok r => rw [q] at h; cases h
theorem sumV_map : ∀ js : List Int, sumV (js.map V.int) = js.sum
  | [] => rfl
  | j :: js => by
    rw [List.map_cons, List.sum_cons]
    show j + sumV (js.map V.int) = _
    rw [sumV_map js]
/-- how sum(.. for ..) goes -/
theorem gsum_reads (hP : P ∈ c.tb) (hl : c.tl = []) (R : Rel c O ρ0 σ H) (z : wpR c (gsumR F T C E ns ρ0) fun p => ∀ v H', Res gr c H O p.2 σ H' p.1 v → Keep O H H' → Q v H') :
    tGsum P (tIt c F) (tGt c.mute ns T) (Cg.tB c.mute C) (tS c.mute false E) ns σ H Q := by
  refine ⟨O, ρ0, R, (wpR_bind.mp z).mono fun ⟨xs, ρ1⟩ z J H1 R1 k1 gs => ⟨R1.tabs.1 P hP, fun H2 gw => ?_⟩⟩
  obtain ⟨pl, z⟩ := (show wpR c (if plainS ρ1 ns = true then (do
    let (l, ρ2) ← eachR (lcF T C E ns) xs ρ1
    Cg.R.ok (D.int (← intsR l).sum, backS ρ2 ρ1 ns)) else Cg.R.bad) _ from z).if_
  have z := wpR_bind.mp z
  have np := plainS_np R1 pl
  obtain ⟨l, ρe, he, z⟩ : ∃ l ρe, eachR (lcF T C E ns) xs ρ1 = .ok (l, ρe) ∧ wpR c (do Cg.R.ok (D.int (← intsR l).sum, backS ρe ρ1 ns)) fun p => ∀ v H', Res gr c H O p.2 σ H' p.1 v → Keep O H H' → Q v H' := by
    cases q : eachR (lcF T C E ns) xs ρ1 with
    | bad => rw [q] at z; exact z.elim
    | exc e => exact absurd q (eachR_exc (fun x ρ e => quiet_exc) _ _ _)
    | ok r => rw [q] at z; exact ⟨r.1, r.2, rfl, z⟩
  obtain ⟨is, hs, z⟩ : ∃ is, intsR l = .ok is ∧ ∀ v H', Res gr c H O (backS ρe ρ1 ns) σ H' (.int is.sum) v → Keep O H H' → Q v H' := by
    have z := wpR_bind.mp z
    cases q : intsR l with
    | bad => rw [q] at z; exact z.elim
    | exc e => exact absurd q (intsR_exc _ _)
    | ok r => rw [q] at z; exact ⟨r, rfl, z⟩
  have len1 : ρ1.length = σ.length := R1.len
  have R2 := R1.grown hP hl gw
  have kg : Keep O H1 H2 := (gw.toExt (R1.tabs.1 P hP)).toKeep
  refine ⟨fun i m ys H' => m = xs.length - i ∧ i ≤ xs.length ∧ ∃ ρ' js js' rest, Rel c O (wipeS ρ' ns) (wipe σ ns) H' ∧ Keep O H1 H' ∧ eachR (lcF T C E ns) (xs.drop i) ρ' = .ok (rest, ρe) ∧ intsR rest = .ok js' ∧ is = js ++ js' ∧ ys = js.map V.int, ⟨xs.length, by simp, Nat.zero_le _, ρ1, [], is, l, R2.wiped np, kg, he, hs, rfl, rfl⟩, ?_, ?_⟩
  · rintro i m ys H' ⟨rfl, hi, ρ', js, js', rest, Rw, kp, hr, hjs, his, rfl⟩
    by_cases hlt : i < xs.length
    · rw [List.drop_eq_getElem_cons hlt] at hr
      obtain ⟨o, ρ5, r5, hf, hr5, hrest⟩ := eachR_cons hr
      refine .inr ⟨gs.go i O H' hlt kp.stay, fun x H3 hy => ?_⟩
      obtain ⟨la, rn⟩ := gs.yld i xs[i] O H' x H3 (by simp [hlt]) kp.stay hy
      have R3 := Rw.lays la
      have k3 : Keep O H' H3 := la.ext.toKeep
      have rx : Rep c.k (Al c O) H3 xs[i] x := Rep.mono (fun b ⟨w, o, h, n⟩ => w) _ _ rn
      replace hf := quiet_ok hf
      cases qT : T (wipeS ρ' ns) xs[i] with
      | bad => rw [qT] at hf; cases hf
      | exc e => rw [qT] at hf; cases hf
      | ok ρ2 =>
      rw [qT] at hf
      have hf : (C ρ2 >>= fun w => if w.1 = true then E w.2 >>= fun u => Cg.R.ok (some u.1, u.2) else Cg.R.ok (none, w.2)) = Cg.R.ok (o, ρ5) := hf
      cases qC : C ρ2 with
      | bad => rw [qC] at hf; cases hf
      | exc e => rw [qC] at hf; cases hf
      | ok w =>
      rw [qC] at hf
      have hf : (if w.1 = true then E w.2 >>= fun u => Cg.R.ok (some u.1, u.2) else Cg.R.ok (none, w.2)) = Cg.R.ok (o, ρ5) := hf
      refine ⟨O, wipeS ρ' ns, xs[i], R3.mute, rx, ?_⟩
      rw [qT]
      intro σ2 Rb bt
      have wz : wipe σ2 ns = wipe σ ns := by rw [bt.wipe, wipe_wipe]
      refine ⟨wz, O, ρ2, Rb, ?_⟩
      rw [qC]
      intro H4 Rc k4
      have kp4 : Keep O H1 H4 := (kp.trans k3).trans k4
      cases qb : w.1 with
      | false =>
        rw [qb] at hf
        have hf : Cg.R.ok (none, w.2) = Cg.R.ok (o, ρ5) := hf
        injection hf with hf
        injection hf with ho hρ
        subst ho hρ
        have hrest : rest = r5 := hrest
        subst hrest
        have R6 := (Rel.unmute Rc).wiped np
        rw [wz] at R6
        exact ⟨xs.length - (i + 1), by omega, rfl, hlt, w.2, js, js', rest, R6, kp4, hr5, hjs, his, rfl⟩
      | true =>
        rw [qb] at hf
        have hf : (E w.2 >>= fun u => Cg.R.ok (some u.1, u.2)) = Cg.R.ok (o, ρ5) := hf
        cases qE : E w.2 with
        | bad => rw [qE] at hf; cases hf
        | exc e => rw [qE] at hf; cases hf
        | ok u =>
          rw [qE] at hf
          have hf : Cg.R.ok (some u.1, u.2) = Cg.R.ok (o, ρ5) := hf
          injection hf with hf
          injection hf with ho hρ
          subst ho hρ
          have hrest : rest = u.1 :: r5 := hrest
          rw [hrest] at hjs
          obtain ⟨j, r, ej, er, e3⟩ := intsR_cons hjs
          refine ⟨O, w.2, Rc, ?_⟩
          rw [qE]
          intro y H5 ry k5
          have R6 := (Rel.unmute ry.rel).wiped np
          rw [wz] at R6
          have hy : Rep c.k (Al c.mute O) H5 u.1 y := ry.rep
          rw [ej] at hy
          have hy : y = .int j := hy
          exact ⟨j, hy, xs.length - (i + 1), by omega, rfl, hlt, u.2, js ++ [j], r, r5, R6, kp4.trans k5, hr5, er, by rw [his, e3, List.append_assoc]; rfl, by rw [hy, List.map_append]; rfl⟩
    · have hi' : i = xs.length := by omega
      subst hi'
      exact .inl ⟨by simp, gs.stop O H' kp.stay⟩
  · rintro i m ys H' ⟨rfl, hm, hi, ρ', js, js', rest, Rw, kp, hr, hjs, his, rfl⟩ -
    have hd : xs.drop i = [] := List.drop_eq_nil_of_le (by omega)
    rw [hd] at hr
    have hr : Cg.R.ok (([] : List D), ρ') = Cg.R.ok (rest, ρe) := hr
    injection hr with hr
    injection hr with h1 h2
    subst h1 h2
    have hjs : Cg.R.ok ([] : List Int) = Cg.R.ok js' := hjs
    injection hjs with hjs
    subst hjs
    rw [List.append_nil] at his
    subst his
    rw [sumV_map]
    have lr : ρ'.length = ρ1.length := by
      have q := Rw.len
      rw [wipeS_len, wipe_length] at q
      rw [q, len1]
    exact z (.int is.sum) H' (Res.scal (Rw.back R1 kp.stay pl lr) rfl rfl) (k1.trans kp)
end
section
variable {X : Cx} {c : Fc} {tg elt iter : Expr} {ifs : List Expr} {scope : Scope} {p pos gpos : Pos} {ns : List Nat} {F : Env → R (List D × Env)} {T : Env → D → R Env} {C : Env → R (Bool × Env)} {E : Env → R (D × Env)} {cc P : Addr} {k : Nat} {g : Bool}
/-- what a generator expression's parts must say, in its own context -/
structure GxOk (X : Cx) (c : Fc) (tg elt : Expr) (ifs : List Expr) (scope : Scope) (ns : List Nat) (T : Env → D → R Env) (C : Env → R (Bool × Env)) (E : Env → R (D × Env)) : Prop where
  own : GxS X.N X.env.scope scope ns
  tg : ∀ s4 H4 code fp pn, PG (gxC X s4 H4 scope code fp pn) tg (tGt c.mute ns T)
  ifs : ∀ s4 H4 code fp pn, PTs (gxC X s4 H4 scope code fp pn) ifs (Cg.tB c.mute C)
  elt : ∀ s4 H4 code fp pn, PE (gxC X s4 H4 scope code fp pn) elt (tS c.mute false E)
/-- the running def's table -/
structure TabAt (X : Cx) (c : Fc) : Prop where
  tab : ∃ cc P, GxR.TabB X.base X.mg cc P ∧ X.env.code = .ref cc ∧ P ∈ c.tb
  tl : c.tl = []
theorem pe_gallS (hr : Room k X.A) (hgl : Gl X "all") (hm : X.mg "all" = none) (tab : TabAt X c) (hi : PI X tg iter (tIt c F)) (hs : ∀ v, genFold iter X.env v = pure v) (ok : GxOk X c tg elt [] scope ns T (fun ρ => Cg.R.ok (true, ρ)) E) :
    PE X (.Call (.Name "all" p) [.GeneratorExp elt [⟨tg, iter, [], 0⟩] scope gpos] [] pos) (tS c g (gallR F T E ns)) := by
  obtain ⟨cc, P, TB, hcode, hP⟩ := tab.tab
  exact (pe_gallX hr hgl hm (by decide +kernel) TB hcode ok.own hi hs ok.tg ok.ifs ok.elt).weak fun σ H Q ⟨O, ρ, R, z⟩ => gall_reads hP tab.tl R z
theorem pe_gsumS (hr : Room k X.A) (hgl : Gl X "sum") (hm : X.mg "sum" = none) (tab : TabAt X c) (hi : PI X tg iter (tIt c F)) (hs : ∀ v, genFold iter X.env v = pure v) (ok : GxOk X c tg elt ifs scope ns T C E) :
    PE X (.Call (.Name "sum" p) [.GeneratorExp elt [⟨tg, iter, ifs, 0⟩] scope gpos] [] pos) (tS c g (gsumR F T C E ns)) := by
  obtain ⟨cc, P, TB, hcode, hP⟩ := tab.tab
  exact (pe_gsumX hr hgl hm (by decide +kernel) TB hcode ok.own hi hs ok.tg ok.ifs ok.elt).weak fun σ H Q ⟨O, ρ, R, z⟩ => gsum_reads hP tab.tl R z
end
end Cg
set_option Elab.async false
set_option linter.all false
set_option maxRecDepth 100000
set_option maxHeartbeats 4000000
namespace Cg
open PySem PySem.Spec PyProof.Rows L2 PySem.SeqAt
/-! ### repr of a scalar, min and max of two, a, b = e, f -/
section
variable {X : Cx} {c : Fc} {fr : Bool}
def rRepr : List V → Hp → VK → Prop := fun xs H Q => ∃ d v, xs = [v] ∧ reprOk d = true ∧ scalD d = some v ∧ Q (.str (reprT d)) H
theorem call_reprS : CallR X (.builtin "repr") rRepr := by
  intro pins s σ H xs us Q I r h
  obtain ⟨d, v, rfl, hd, hv, q⟩ := h
  cases d <;> first | (cases hv; done) | skip
  · cases hv
    obtain ⟨u, rfl, rfl⟩ := vals1 r
    exact PySem.P.repr_of_none ⟨.str _, H, I.tok _, ⟨_, rfl⟩, q⟩
  · cases hv
    obtain ⟨u, rfl, rfl⟩ := vals1 r
    exact PySem.P.repr_of_bool ⟨.str _, H, I.tok _, ⟨_, rfl⟩, q⟩
  · cases hv
    obtain ⟨u, rfl, t, rfl⟩ := vals1 r
    rename_i i
    have hz : i.natAbs.log2 < 1920 := by
      have hi : i.natAbs < 2 ^ 1000 := of_decide_eq_true hd
      by_cases h0 : i.natAbs = 0
      · rw [h0]; decide
      · have := (Nat.log2_lt h0).mpr hi
        omega
    exact PySem.P.repr_of_int hz ⟨.str _, H, I.tok _, ⟨_, rfl⟩, q⟩
  · cases hv
    obtain ⟨u, rfl, t, rfl⟩ := vals1 r
    rename_i w
    exact PySem.P.repr_of_str ⟨.str _, H, I.tok _, ⟨_, rfl⟩, q⟩ (by cases w <;> decide +kernel)
theorem repr_D (hk : KxOk X c.k) (g : Bool) : Op1 c g rRepr (b1R .repr) := by
  intro O ρ σ H x v Q R rx z
  unfold b1R at z
  obtain ⟨h, z⟩ := z.if_
  cases x <;> first | (cases h; done) | skip
  all_goals
    obtain rfl : v = _ := rx
    refine ⟨_, _, rfl, h, rfl, ?_⟩
    rw [← hk.rt0]
    exact z _ H (Res.scal R rfl rfl) (Keep.refl O H)
def isStarB : Expr → Bool
  | .Starred .. => true
  | _ => false
/-- the stores are in the other order, and that is all -/
theorem par_sw {env : PySem.Env} {x y : Str} {px py pt pt2 : Pos} {kt k2} {a b : Expr} (hf : env.scope.kind = .function) (hx : env.scope.names.lookup x = some .local) (hy : env.scope.names.lookup y = some .local) (hl : py.line = px.line) (hxy : (y == x) = false)
    (ta : isStarB a = false) (tb : isStarB b = false) (h1 : (foldedForSure 8 a && foldedForSure 8 b) = false) (h2 : (constantsAlone 8 a && constantsAlone 8 b) = false) :
    swappedStores [.Tuple [.Name x px, .Name y py] kt pt] (.Tuple [a, b] k2 pt2) env = pure (some [x, y]) := by
  have bk : (env.blockKind != .function) = false := by unfold Env.blockKind; rw [hf]; rfl
  have sa : ∀ e, isStarB e = false → (match e with | .Starred .. => true | _ => false) = false := fun e h => by
    cases e <;> first | rfl | (simp [isStarB] at h; done)
  unfold swappedStores
  dsimp only [Expr.pos, List.head?, Option.map, Option.getD, List.filterMap_cons, List.filterMap_nil, Env.kindOf]
  simp only [hx, hy, hl, bk, List.length_cons, List.length_nil, beq_self_eq_true, Bool.and_self, if_true, Bool.true_or, Bool.not_true, bne_self_eq_false, Bool.or_false, Bool.false_eq_true, if_false]
  rw [if_neg (by
    have e1 := sa a ta
    have e2 := sa b tb
    simp only [List.any_cons, List.any_nil, Bool.or_false]
    intro z
    rcases (Bool.or_eq_true _ _).mp z with z | z
    · exact absurd (z.symm.trans e1) (by decide)
    · exact absurd (z.symm.trans e2) (by decide))]
  have e : [x, y].eraseDups.length = 2 := by
    rw [List.eraseDups_cons]
    simp only [List.filter_cons, List.filter_nil, hxy, Bool.not_false, if_true]
    rw [List.eraseDups_cons]
    rfl
  have a1 : [a, b].all (foldedForSure 8) = false := by
    show (foldedForSure 8 a && (foldedForSure 8 b && true)) = false
    rw [Bool.and_true]; exact h1
  have a2 : [a, b].all (constantsAlone 8) = false := by
    show (constantsAlone 8 a && (constantsAlone 8 b && true)) = false
    rw [Bool.and_true]; exact h2
  rw [e, a1, a2]
  rfl
/-- a, b = e, f: plain names -/
theorem ps_parS {i j : Nat} {x y : Str} {a b : Expr} {px py pt pos : Pos} {kt k2 pt2} {l : List Nat} {F : Env → R (List D × Env)} (hc : X.calm = true) (hN : X.N.Nodup) (hi : X.N[i]? = some x) (hj : X.N[j]? = some y) (hij : i ≠ j)
    (hx : X.env.scope.names.lookup x = some .local) (hy : X.env.scope.names.lookup y = some .local) (ha : PA X [a, b] (tA c F)) (hw : swappedStores [.Tuple [.Name x px, .Name y py] kt pt] (.Tuple [a, b] k2 pt2) X.env = pure (some [x, y])) :
    PS X (.Assign [.Tuple [.Name x px, .Name y py] kt pt] (.Tuple [a, b] k2 pt2) pos) (tSt c fr fun ρ => do let (ds, ρ) ← F (Cg.letGo ρ l); Cg.R.ok (.next, ← bindPar ρ [(i, 0), (j, 0)] ds)) := by
  refine (ps_par hc hN hi hj hij hx hy ha hw).weak fun DD σ H ⟨O, ρ, R, z⟩ => ?_
  obtain ⟨O1, R1, s1⟩ := R.letGo l
  refine ⟨O1, _, R1, (wpR_bind.mp z).mono fun ⟨ds, ρ1⟩ z vs H1 R2 r k => ?_⟩
  have z := wpR_bind.mp z
  match ds, z with
  | [], z => exact (show False from z).elim
  | [d1], z =>
    obtain ⟨_, z⟩ := wpR_bindS (wpR_bind.mp (show wpR c (do let ρ ← bindS ρ1 i d1 0; bindPar ρ [(j, 0)] []) _ from z))
    exact (show False from z).elim
  | d1 :: d2 :: d3 :: ds, z =>
    obtain ⟨_, z⟩ := wpR_bindS (wpR_bind.mp (show wpR c (do let ρ ← bindS ρ1 i d1 0; bindPar ρ [(j, 0)] (d2 :: d3 :: ds)) _ from z))
    obtain ⟨_, z⟩ := wpR_bindS (wpR_bind.mp (show wpR c (do let ρ ← bindS (ρ1.set i (some (d1, 0))) j d2 0; bindPar ρ [] (d3 :: ds)) _ from z))
    exact (show False from z).elim
  | [d1, d2], z =>
    obtain ⟨f1, z⟩ := wpR_bindS (wpR_bind.mp (show wpR c (do let ρ ← bindS ρ1 i d1 0; bindPar ρ [(j, 0)] [d2]) _ from z))
    obtain ⟨f2, z⟩ := wpR_bindS (wpR_bind.mp (show wpR c (do let ρ ← bindS (ρ1.set i (some (d1, 0))) j d2 0; bindPar ρ [] []) _ from z))
    obtain ⟨v1, vs1, rfl, r1, v2, vs2, rfl, r2, r3⟩ := r
    obtain rfl : vs2 = [] := r3
    refine ⟨v1, v2, rfl, ?_⟩
    obtain ⟨O2, R3, s3⟩ := (Res.bind (B := H1) (g' := false) ⟨R2, r1, fun z => nomatch z⟩ (Keep.refl O1 H1) f1 (.inl rfl))
    obtain ⟨O3, R4, s4⟩ := (Res.bind (B := H1) (g' := false) ⟨R3, R2.repS s3 r2, fun z => nomatch z⟩ (Keep.refl O2 H1) f2 (.inl rfl))
    exact (show EndOk c fr DD O H (.next, _) from z) O3 _ H1 R4 (((s1.trans k.stay).trans s3).trans s4)
end
end Cg
set_option Elab.async false
set_option linter.all false
set_option maxRecDepth 100000
set_option maxHeartbeats 4000000
namespace Cg
open PySem PySem.Spec PyProof.Rows L2 PySem.SeqAt
/-! ### the checker: does this text of the little language say what the Python text says? -/
structure Sc where
  N : List Str
  scope : Scope
  hot : Bool
  fn : Str → Bool
  gx : Bool
structure Gt where
  funs : List (Str × Nat)
  errs : List (Str × Nat)
  consts : List (Str × D)
  blts : List Str
  tb : Nat → Option Fn
def Gt.mask (G : Gt) (i : Nat) : List Bool := match G.tb i with | some f => f.ps | none => []
def Gt.fr (G : Gt) (i : Nat) : Bool := match G.tb i with | some f => f.fresh | none => false
/-- the result is new -/
def freshE (G : Gt) : E → Bool
  | .v _ => false
  | .b _ => false
  | .io _ => false
  | .tmp _ => false
  | .idx _ _ => false
  | .idxd _ _ => false
  | .idx2 _ _ _ => false
  | .get _ _ _ => false
  | .and _ b => freshE G b
  | .or _ b => freshE G b
  | .ite _ a b => freshE G a && freshE G b
  | .call f _ => G.fr f
  | _ => true
/-- no form that is treated otherwise -/
def tame : Expr → Bool
  | .Set .. => false
  | .Starred .. => false
  | .ListComp .. => true
  | .Slice .. => false
  | .NamedExpr .. => false
  | _ => true
def isSc : Option NameKind → Bool
  | some .local => true
  | some .cell => true
  | some .free => true
  | _ => false
def isLc : Option NameKind → Bool
  | some .local => true
  | some .cell => true
  | _ => false
def kindS (sc : Sc) (x : Str) : Option NameKind := sc.scope.names.lookup x
/-- p is the name of slot i -/
def varB (sc : Sc) (i : Nat) : Expr → Bool
  | .Name x _ => decide (sc.N[i]? = some x) && isSc (kindS sc x) && !(x == ("__debug__" : Str)) && !(x == ("__classdict__" : Str))
  | _ => false
/-- x is a name of the module -/
def globB (sc : Sc) (x : Str) : Bool := decide (kindS sc x = some .globalImplicit) && !(x == ("__debug__" : Str))
def bltB (G : Gt) (sc : Sc) (x y : Str) : Bool := decide (x = y) && globB sc x && decide (x ∈ G.blts)
def constB : D → Expr → Bool
  | .non, .Constant .none _ _ => true
  | .bool b, .Constant (.bool c) _ _ => b == c
  | .int i, .Constant (.int j) _ _ => decide (i = j)
  | .int i, .UnaryOp .USub (.Constant (.int j) _ _) _ => decide (i = -j)
  | .str w, .Constant (.str x) _ _ => decide (w.txt = x)
  | _, _ => false
def opB : BO → Operator → Bool
  | .add, .Add => true
  | .sub, .Sub => true
  | .mul, .Mult => true
  | .fdiv, .FloorDiv => true
  | .mod, .Mod => true
  | .pow, .Pow => true
  | _, _ => false
def cmpB : CO → CmpOp → Bool
  | .eq, .Eq => true
  | .ne, .NotEq => true
  | .lt, .Lt => true
  | .le, .LtE => true
  | .gt, .Gt => true
  | .ge, .GtE => true
  | .is_, .Is => true
  | .isNot, .IsNot => true
  | .in_, .In => true
  | .notIn, .NotIn => true
  | _, _ => false
def seeB (sc : Sc) (e : E) (r : Bool) (p : Expr) : Bool := match e with
  | .b i => varB sc i p
  | _ => r
/-- which built-in function of one value -/
def b1Name : B1 → Option (Str × Bool)
  | .len => some ("len", false)
  | .int => some ("int", false)
  | .abs => some ("abs", false)
  | .sum => some ("sum", true)
  | .min => some ("min", true)
  | .max => some ("max", true)
  | .tupleOf => some ("tuple", false)
  | .listOf => some ("list", false)
  | .repr => some ("repr", false)
  | _ => none
def b2Name : B2 → Str
  | .min => "min"
  | .max => "max"
def clsName : Nat → Str
  | 0 => "CorrigendaError"
  | 1 => "BadKind"
  | 2 => "BadValue"
  | 3 => "BadPatch"
  | 4 => "Unfit"
  | _ => "ValueError"
def nodupB : List Nat → Bool
  | [] => true
  | x :: xs => !xs.contains x && nodupB xs
/-- the scope of a comprehension, seen from within -/
def Sc.inn (sc : Sc) (s : Scope) : Sc := { sc with scope := relS s sc.scope, fn := fun x => s.names.lookup x == some .cell }
/-- .. of a generator expression -/
def Sc.gen (sc : Sc) (s : Scope) : Sc := { sc with scope := s, fn := fun _ => false, gx := false }
def gxB (sc : Sc) (s : Scope) (vs : List Nat) : Bool :=
  decide (s.kind = .function) && !s.isCoroutine && s.names.all (fun y => !decide (y.2 = .cell)) && decide (s.names.lookup (".0" : Str) = some NameKind.local) &&
    s.names.all (fun y => !decide (y.2 = .free) || decide (sc.scope.names.lookup y.1 = some .cell) || decide (sc.scope.names.lookup y.1 = some .free)) &&
    ((List.range sc.N.length).all fun i => match sc.N[i]? with | some x => !decide (s.names.lookup x = some .local) || vs.contains i | none => true)
def flatIt : Expr → Bool
  | .List .. => false
  | _ => true
def blkB (sc : Sc) (s : Scope) (ns : List Nat) : Bool :=
  decide (s.kind = .function) && s.names.all (fun y => decide (s.names.lookup y.1 = some y.2)) && ns.all (fun i => (sc.N[i]?).isSome) &&
    s.names.all (fun y => !decide (y.2 = .free) || decide (sc.scope.names.lookup y.1 = some .cell) || decide (sc.scope.names.lookup y.1 = some .free)) &&
    s.names.all (fun y => !isLc (some y.2) || (ns.any fun i => decide (sc.N[i]? = some y.1)) || !decide (y.1 ∈ sc.N))
def tgB (sc : Sc) : Tg → Expr → Bool
  | .nm i, .Name x _ => decide (sc.N[i]? = some x) && (decide (kindS sc x = some .local) || (decide (kindS sc x = some .cell) && sc.fn x))
  | _, _ => false
/-! forms of Python text -/
def as1 (ps : List Expr) (k : Expr → Bool) : Bool := match ps with
  | [p] => k p
  | _ => false
theorem as1_eq {ps : List Expr} {k : Expr → Bool} (h : as1 ps k = true) : ∃ p, ps = [p] ∧ k p = true := by
  unfold as1 at h
  split at h
  · exact ⟨_, rfl, h⟩
  · cases h
def as2 (ps : List Expr) (k : Expr → Expr → Bool) : Bool := match ps with
  | [p, q] => k p q
  | _ => false
theorem as2_eq {ps : List Expr} {k : Expr → Expr → Bool} (h : as2 ps k = true) : ∃ p q, ps = [p, q] ∧ k p q = true := by
  unfold as2 at h
  split at h
  · exact ⟨_, _, rfl, h⟩
  · cases h
def asTup (p : Expr) (k : List Expr → Bool) : Bool := match p with
  | .Tuple ps _ _ => k ps
  | _ => false
theorem asTup_eq {p : Expr} {k : List Expr → Bool} (h : asTup p k = true) : ∃ ps n pos, p = .Tuple ps n pos ∧ k ps = true := by
  unfold asTup at h
  split at h
  · exact ⟨_, _, _, rfl, h⟩
  · cases h
def asLst (p : Expr) (k : List Expr → Bool) : Bool := match p with
  | .List ps _ => k ps
  | _ => false
theorem asLst_eq {p : Expr} {k : List Expr → Bool} (h : asLst p k = true) : ∃ ps pos, p = .List ps pos ∧ k ps = true := by
  unfold asLst at h
  split at h
  · exact ⟨_, _, rfl, h⟩
  · cases h
def asBin (p : Expr) (k : Operator → Expr → Expr → Bool) : Bool := match p with
  | .BinOp p q r _ => k q p r
  | _ => false
theorem asBin_eq {p : Expr} {k : Operator → Expr → Expr → Bool} (h : asBin p k = true) : ∃ l q r pos, p = .BinOp l q r pos ∧ k q l r = true := by
  unfold asBin at h
  split at h
  · exact ⟨_, _, _, _, rfl, h⟩
  · cases h
def asCmp (p : Expr) (k : CmpOp → Expr → Expr → Bool) : Bool := match p with
  | .Compare p [q] [r] _ => k q p r
  | _ => false
theorem asCmp_eq {p : Expr} {k : CmpOp → Expr → Expr → Bool} (h : asCmp p k = true) : ∃ l q r pos, p = .Compare l [q] [r] pos ∧ k q l r = true := by
  unfold asCmp at h
  split at h
  · exact ⟨_, _, _, _, rfl, h⟩
  · cases h
def asChain (p : Expr) (k : CmpOp → CmpOp → Expr → Expr → Expr → Bool) : Bool := match p with
  | .Compare p [q, q2] [r, s] _ => k q q2 p r s
  | _ => false
theorem asChain_eq {p : Expr} {k : CmpOp → CmpOp → Expr → Expr → Expr → Bool} (h : asChain p k = true) : ∃ l q q2 r s pos, p = .Compare l [q, q2] [r, s] pos ∧ k q q2 l r s = true := by
  unfold asChain at h
  split at h
  · exact ⟨_, _, _, _, _, _, rfl, h⟩
  · cases h
def asNot (p : Expr) (k : Expr → Bool) : Bool := match p with
  | .UnaryOp .Not p _ => k p
  | _ => false
theorem asNot_eq {p : Expr} {k : Expr → Bool} (h : asNot p k = true) : ∃ q pos, p = .UnaryOp .Not q pos ∧ k q = true := by
  unfold asNot at h
  split at h
  · exact ⟨_, _, rfl, h⟩
  · cases h
def asIte (p : Expr) (k : Expr → Expr → Expr → Bool) : Bool := match p with
  | .IfExp p q r _ => k p q r
  | _ => false
theorem asIte_eq {p : Expr} {k : Expr → Expr → Expr → Bool} (h : asIte p k = true) : ∃ t q r pos, p = .IfExp t q r pos ∧ k t q r = true := by
  unfold asIte at h
  split at h
  · exact ⟨_, _, _, _, rfl, h⟩
  · cases h
def asSub (p : Expr) (k : Expr → Expr → Bool) : Bool := match p with
  | .Subscript p q _ => k p q
  | _ => false
theorem asSub_eq {p : Expr} {k : Expr → Expr → Bool} (h : asSub p k = true) : ∃ l q pos, p = .Subscript l q pos ∧ k l q = true := by
  unfold asSub at h
  split at h
  · exact ⟨_, _, _, rfl, h⟩
  · cases h
def asSlice (p : Expr) (k : Option Expr → Option Expr → Bool) : Bool := match p with
  | .Slice q r none _ => k q r
  | _ => false
theorem asSlice_eq {p : Expr} {k : Option Expr → Option Expr → Bool} (h : asSlice p k = true) : ∃ q r pos, p = .Slice q r none pos ∧ k q r = true := by
  unfold asSlice at h
  split at h
  · exact ⟨_, _, _, rfl, h⟩
  · cases h
def asCall (p : Expr) (k : Str → List Expr → Bool) : Bool := match p with
  | .Call (.Name x _) ps [] _ => k x ps
  | _ => false
theorem asCall_eq {p : Expr} {k : Str → List Expr → Bool} (h : asCall p k = true) : ∃ x q ps pos, p = .Call (.Name x q) ps [] pos ∧ k x ps = true := by
  unfold asCall at h
  split at h
  · exact ⟨_, _, _, _, rfl, h⟩
  · cases h
def asMeth (p : Expr) (k : Expr → Str → List Expr → Bool) : Bool := match p with
  | .Call (.Attribute o m a) ps [] pos => decide (a.endLine = pos.line) && k o m ps
  | _ => false
theorem asMeth_eq {p : Expr} {k : Expr → Str → List Expr → Bool} (h : asMeth p k = true) : ∃ o m a ps pos, p = .Call (.Attribute o m a) ps [] pos ∧ a.endLine = pos.line ∧ k o m ps = true := by
  unfold asMeth at h
  split at h
  · rw [Bool.and_eq_true, decide_eq_true_eq] at h
    exact ⟨_, _, _, _, _, rfl, h.1, h.2⟩
  · cases h
def asName (p : Expr) (k : Str → Bool) : Bool := match p with
  | .Name x _ => k x
  | _ => false
theorem asName_eq {p : Expr} {k : Str → Bool} (h : asName p k = true) : ∃ x pos, p = .Name x pos ∧ k x = true := by
  unfold asName at h
  split at h
  · exact ⟨_, _, rfl, h⟩
  · cases h
def asComp (p : Expr) (k : Expr → Expr → Expr → List Expr → Scope → Bool) : Bool := match p with
  | .ListComp p [⟨tg, iter, ifs, 0⟩] s _ => k p tg iter ifs s
  | _ => false
theorem asComp_eq {p : Expr} {k : Expr → Expr → Expr → List Expr → Scope → Bool} (h : asComp p k = true) : ∃ e tg iter ifs s pos, p = .ListComp e [⟨tg, iter, ifs, 0⟩] s pos ∧ k e tg iter ifs s = true := by
  unfold asComp at h
  split at h
  · exact ⟨_, _, _, _, _, _, rfl, h⟩
  · cases h
def asGx (p : Expr) (k : Str → Expr → Expr → Expr → List Expr → Scope → Bool) : Bool := match p with
  | .Call (.Name x _) [.GeneratorExp e [⟨tg, iter, ifs, 0⟩] s _] [] _ => k x e tg iter ifs s
  | _ => false
theorem asGx_eq {p : Expr} {k : Str → Expr → Expr → Expr → List Expr → Scope → Bool} (h : asGx p k = true) : ∃ x xp e tg iter ifs s gpos pos, p = .Call (.Name x xp) [.GeneratorExp e [⟨tg, iter, ifs, 0⟩] s gpos] [] pos ∧ k x e tg iter ifs s = true := by
  unfold asGx at h
  split at h
  · exact ⟨_, _, _, _, _, _, _, _, _, rfl, h⟩
  · cases h
/-- w of several, or what is left of it -/
def asBool (w : BoolOp) (m : Option BoolOp) (ps : List Expr) (k : Expr → List Expr → Bool) : Bool := match ps with
  | [.BoolOp o (p :: q :: rest) _] => decide (o = w) && k p (q :: rest)
  | p :: q :: rest => decide (m = some w) && k p (q :: rest)
  | _ => false
theorem asBool_eq {w : BoolOp} {m : Option BoolOp} {ps : List Expr} {k : Expr → List Expr → Bool} (h : asBool w m ps k = true) :
    (∃ p q rest pos, ps = [.BoolOp w (p :: q :: rest) pos] ∧ k p (q :: rest) = true) ∨ ∃ p q rest, m = some w ∧ ps = p :: q :: rest ∧ k p (q :: rest) = true := by
  unfold asBool at h
  split at h
  · rw [Bool.and_eq_true, decide_eq_true_eq] at h
    obtain ⟨rfl, h⟩ := h
    exact .inl ⟨_, _, _, _, rfl, h⟩
  · rw [Bool.and_eq_true, decide_eq_true_eq] at h
    exact .inr ⟨_, _, _, h.1, rfl, h.2⟩
  · cases h
def asOpt (q : Option Expr) (e : E) (k : Expr → Bool) : Bool := match q, e with
  | none, .omit => true
  | none, _ => false
  | some _, .omit => false
  | some q, _ => k q
def isYes : T → Bool
  | .of (.k (.bool true)) => true
  | _ => false
def ifsB (cd : T) (ifs : List Expr) (k : Expr → Bool) : Bool := match ifs with
  | [] => isYes cd
  | [q] => k q
  | _ => false
/-- its truth is asked of its value -/
def plainP : Expr → Bool
  | .UnaryOp .Not _ _ => false
  | .BoolOp _ _ _ => false
  | .IfExp _ _ _ _ => false
  | .Compare _ _ _ _ => false
  | _ => true
def plainT (e : E) (p : Expr) : Bool := match e with
  | .cmp _ _ _ => true
  | .chain _ _ _ _ _ => true
  | _ => plainP p
mutual
def chkE (G : Gt) (sc : Sc) : E → Option BoolOp → List Expr → Bool
  | .k d => fun _ ps => as1 ps fun p => constB d p || asName p fun x => globB sc x && (match G.consts.lookup x with | some d' => sameD d d' | none => false)
  | .v i => fun _ ps => as1 ps fun p => varB sc i p
  | .tup es => fun _ ps => as1 ps fun p => asTup p fun qs => chkEs G sc es qs
  | .lst es => fun _ ps => as1 ps fun p => asLst p fun qs => chkEs G sc es qs
  | .bin o a b => fun _ ps => as1 ps fun p => asBin p fun q l r => opB o q && seeB sc a (chkE G sc a none [l]) l && seeB sc b (chkE G sc b none [r]) r
  | .cmp o a b => fun _ ps => as1 ps fun p => asCmp p fun q l r => cmpB o q && tame r && seeB sc a (chkE G sc a none [l]) l && seeB sc b (chkE G sc b none [r]) r
  | .chain o o2 a b d => fun _ ps => as1 ps fun p => asChain p fun q q2 l r s => cmpB o q && cmpB o2 q2 && tame s && chkE G sc a none [l] && chkE G sc b none [r] && chkE G sc d none [s]
  | .not a => fun _ ps => as1 ps fun p => asNot p fun q => seeB sc a (chkE G sc a none [q]) q
  | .ite t a b => fun _ ps => as1 ps fun p => asIte p fun u q r => chkT G sc t none [u] && chkE G sc a none [q] && chkE G sc b none [r]
  | .idx a i => fun _ ps => as1 ps fun p => asSub p fun l q => tame q && seeB sc a (chkE G sc a none [l]) l && seeB sc i (chkE G sc i none [q]) q
  | .slice a lo hi => fun _ ps => as1 ps fun p => asSub p fun l s => asSlice s fun q r => seeB sc a (chkE G sc a none [l]) l && asOpt q lo (fun q => chkE G sc lo none [q]) && asOpt r hi (fun r => chkE G sc hi none [r])
  | .call f as => fun _ ps => as1 ps fun p => asCall p fun x qs => !sc.hot && globB sc x && decide (G.funs.lookup x = some f) && (maskE as == G.mask f) && nodupB (ioE as) && !qs.isEmpty && chkAs G sc as qs
  | .b1 o a => fun _ ps => as1 ps fun p => asCall p fun x qs => as1 qs fun q => tame q && seeB sc a (chkE G sc a none [q]) q && (match o with
      | .strExc => bltB G sc x "str"
      | o => match b1Name o with | some (y, n) => bltB G sc x y && (!n || !sc.hot) | none => false)
  | .b2 o a b => fun _ ps => as1 ps fun p => asCall p fun x qs => !sc.hot && bltB G sc x (b2Name o) && as2 qs fun q r => tame q && tame r && chkE G sc a none [q] && chkE G sc b none [r]
  | .count a e => fun _ ps => as1 ps fun p => asMeth p fun o m qs => decide (m = "count") && asName o (fun _ => true) && as1 qs fun q => tame q && seeB sc a (chkE G sc a none [o]) o && chkE G sc e none [q]
  | .index a e => fun _ ps => as1 ps fun p => asMeth p fun o m qs => decide (m = "index") && asName o (fun _ => true) && as1 qs fun q => tame q && seeB sc a (chkE G sc a none [o]) o && chkE G sc e none [q]
  | .isa t a => fun _ ps => as1 ps fun p => asCall p fun x qs => bltB G sc x "isinstance" && as2 qs fun q r => tame q && chkE G sc a none [q] && asName r fun y => bltB G sc y (Str.ofString t.name)
  | .isExc n a => fun _ ps => as1 ps fun p => asCall p fun x qs => bltB G sc x "isinstance" && as2 qs fun q r => tame q && chkE G sc a none [q] && asName r (fun y => if n = 5 then bltB G sc y "ValueError" else globB sc y && decide (G.errs.lookup y = some n) && decide (n < 5))
  | .mkExc n => fun _ ps => as1 ps fun p => asCall p fun x qs => qs.isEmpty && globB sc x && decide (G.errs.lookup x = some n) && decide (n < 5)
  | .lc t it cd e => fun _ ps => as1 ps fun p => asComp p fun q tg iter ifs s => !sc.hot && tame iter && (itSlots it).isEmpty && chkIt G sc it iter && blkB sc s (namesT t) && tgB (sc.inn s) t tg && chkE G (sc.inn s) e none [q] &&
      ifsB cd ifs fun q => chkT G (sc.inn s) cd none [q]
  | .gsum t it cd e => fun _ ps => as1 ps fun p => asGx p fun x q tg iter ifs s => !sc.hot && sc.gx && bltB G sc x "sum" && tame iter && flatIt iter && (itSlots it).isEmpty && chkIt G sc it iter && gxB sc s (namesT t) && tgB (sc.gen s) t tg && chkE G (sc.gen s) e none [q] &&
      ifsB cd ifs fun q => chkT G (sc.gen s) cd none [q]
  | .gall t it e => fun _ ps => as1 ps fun p => asGx p fun x q tg iter ifs s => !sc.hot && sc.gx && bltB G sc x "all" && tame iter && flatIt iter && (itSlots it).isEmpty && chkIt G sc it iter && gxB sc s (namesT t) && tgB (sc.gen s) t tg && chkE G (sc.gen s) e none [q] && ifs.isEmpty
  | .and a b => fun m ps => asBool .And m ps fun p rest => chkE G sc a none [p] && chkE G sc b (some .And) rest
  | .or a b => fun m ps => asBool .Or m ps fun p rest => chkE G sc a none [p] && chkE G sc b (some .Or) rest
  | _ => fun _ _ => false
def chkT (G : Gt) (sc : Sc) : T → Option BoolOp → List Expr → Bool
  | .of e => fun _ ps => as1 ps fun p => seeB sc e (chkE G sc e none [p]) p && plainT e p
  | .not a => fun _ ps => as1 ps fun p => asNot p fun q => chkT G sc a none [q]
  | .and a b => fun m ps => asBool .And m ps fun p rest => chkT G sc a none [p] && chkT G sc b (some .And) rest
  | .or a b => fun m ps => asBool .Or m ps fun p rest => chkT G sc a none [p] && chkT G sc b (some .Or) rest
def chkEs (G : Gt) (sc : Sc) : Es → List Expr → Bool
  | .nil => fun ps => ps.isEmpty
  | .cons e es => fun ps => match ps with | [] => false | p :: ps => tame p && chkE G sc e none [p] && chkEs G sc es ps
def chkAs (G : Gt) (sc : Sc) : Es → List Expr → Bool
  | .nil => fun ps => ps.isEmpty
  | .cons e es => fun ps => match ps with | [] => false | p :: ps => tame p && (match e with | .io i => varB sc i p | .tmp _ => false | _ => chkE G sc e none [p]) && chkAs G sc es ps
def chkIt (G : Gt) (sc : Sc) : It → Expr → Bool
  | .val e => fun p => chkE G sc e none [p]
  | .range e => fun p => asCall p fun x qs => bltB G sc x "range" && as1 qs fun q => tame q && chkE G sc e none [q]
  | _ => fun _ => false
end
end Cg
set_option Elab.async false
set_option linter.all false
set_option maxRecDepth 100000
set_option maxHeartbeats 4000000
namespace Cg
open PySem PySem.Spec PyProof.Rows L2 PySem.SeqAt
/-- where a text is checked: what holds of its context -/
structure Ck (X : Cx) (c : Fc) (G : Gt) (call : CallF) (sc : Sc) (lv : Nat) : Prop where
  N : X.N = sc.N
  nd : X.N.Nodup
  scope : X.env.scope = sc.scope
  kx : KxOk X c.k
  er : ErrOk X c.k
  calm : sc.hot = false → X.calm = true
  room : sc.hot = false → Room lv X.A
  room1 : sc.gx = true → Room (lv + 1) X.A
  tab : sc.gx = true → TabAt X c
  nopin : sc.hot = false → ∀ a v t, ¬ c.k.pin a v t
  units : X.A.units + 66 < cLine
  fn : ∀ x, sc.fn x = true → X.fn x = true
  funs : ∀ x i, G.funs.lookup x = some i → ∃ f fd ps, X.mg x = some (.ref f) ∧ PySem.W.keepIn X.K (.ref f) = true ∧ Binds X.K fd ps [] ∧ FnOk X.prog X.w X.K X.mg X.base (CXx X.prog X.w) lv f fd ps (spF c.k c.tb c.tl (G.fr i) (G.mask i) (call i))
  errs : ∀ x n, G.errs.lookup x = some n → n < 5 → ∃ C bmB B newId initId, X.mg x = some (.ref C) ∧ c.k.xc n = .ref C ∧ PySem.W.keepIn X.K (.ref C) = true ∧ ExcBaseFacts B newId initId bmB ∧ PySem.W.excIn X.K C bmB newId = true
  err5 : c.k.xc 5 = .type "ValueError"
  consts : ∀ x d, G.consts.lookup x = some d → ∃ v u, scalD d = some v ∧ X.mg x = some u ∧ RelV v u
  blts : ∀ x, x ∈ G.blts → X.mg x = none
  pass : Passes (CXx X.prog X.w) X c.E
section
variable {X : Cx} {c : Fc} {G : Gt} {call : CallF} {sc : Sc} {lv : Nat}
theorem Ck.inn (k : Ck X c G call sc lv) (hot : sc.hot = false) {s : Shared} {H : Hp} {scope : Scope} {a : Addr} {cl : List (Str × Addr)} {fp : List Addr} {p : Addr} : Ck (Cx.inl X s H scope a cl fp) (c.aside p) G call (sc.inn scope) lv where
  N := k.N
  nd := k.nd
  scope := by
    show relS scope X.env.scope = relS scope sc.scope
    rw [k.scope]
  kx := ⟨k.kx.K, k.kx.w, k.kx.rt0⟩
  er := ⟨k.er.cls, k.er.kit, k.er.str, fun a v t h => (k.nopin hot a v t h).elim⟩
  calm := fun _ => k.calm hot
  room := fun _ => k.room hot
  room1 := k.room1
  tab := fun h => ⟨(k.tab h).tab, (k.tab h).tl⟩
  nopin := fun _ => k.nopin hot
  units := k.units
  fn := fun x h => h
  funs := k.funs
  errs := k.errs
  err5 := k.err5
  consts := k.consts
  blts := k.blts
  pass := fun pins σ H s e s2 I y => by
    obtain ⟨_, _, _, _, _, _, _, _, _, _, _, _, _, w⟩ := y
    exact w.elim
theorem Room.gx {j : Nat} {A : Around} (r : Room (j + 1) A) (env : PySem.Env) : Room j (A.in1.in1.deeper env) :=
  ⟨r.hd, by have := r.dp; show A.depth + 1 + 3 * j + 5 < _; omega, by have := r.un; show A.units + 1 + 1 + 3 + 16 * j + 200 < _; omega⟩
theorem Ck.gen (k : Ck X c G call sc lv) (hot : sc.hot = false) (gx : sc.gx = true) {s4 : Shared} {H4 : Hp} {scope : Scope} {code : Value} {fp : List Addr} {pn : List (Addr × Obj)} : Ck (gxC X s4 H4 scope code fp pn) c.mute G call (sc.gen scope) lv where
  N := k.N
  nd := k.nd
  scope := rfl
  kx := ⟨k.kx.K, k.kx.w, k.kx.rt0⟩
  er := ⟨k.er.cls, k.er.kit, k.er.str, fun a v t h => (k.nopin hot a v t h).elim⟩
  calm := fun _ => rfl
  room := fun _ => Room.gx (k.room1 gx) _
  room1 := fun h => by cases h
  tab := fun h => by cases h
  nopin := fun _ => k.nopin hot
  units := by
    have := (Room.gx (k.room1 gx) (gxEnv X scope s4.heap.objs.size code)).un
    show (X.A.in1.in1.deeper (gxEnv X scope s4.heap.objs.size code)).units + 66 < cLine
    omega
  fn := fun x h => by cases h
  funs := k.funs
  errs := k.errs
  err5 := k.err5
  consts := k.consts
  blts := k.blts
  pass := fun pins σ H s e s2 I y => by
    obtain ⟨_, _, _, _, _, _, _, _, _, _, _, _, _, w⟩ := y
    exact w.elim
theorem and3 {a b : Bool} (h : (a && b) = true) : a = true ∧ b = true := by rw [Bool.and_eq_true] at h; exact h
theorem Ck.var (k : Ck X c G call sc lv) {i : Nat} {p : Expr} (h : varB sc i p = true) : ∃ x pos, p = .Name x pos ∧ PE X (.Name x pos) (tVar i) := by
  cases p <;> first | (simp [varB] at h; done) | skip
  rename_i x pos
  simp only [varB, Bool.and_eq_true, decide_eq_true_eq, Bool.not_eq_true'] at h
  obtain ⟨⟨⟨h1, h2⟩, h3⟩, h4⟩ := h
  refine ⟨x, pos, rfl, pe_var (by rw [k.N]; exact h1) ?_ h3 h4⟩
  unfold Vis
  rw [k.scope]
  unfold kindS at h2
  cases q : sc.scope.names.lookup x with
  | none => rw [q] at h2; cases h2
  | some y =>
    rw [q] at h2
    cases y <;> first | (simp [isSc] at h2; done) | simp
theorem Ck.glob (k : Ck X c G call sc lv) {x : Str} (h : globB sc x = true) : Gl X x ∧ (x == ("__debug__" : Str)) = false := by
  unfold globB at h
  obtain ⟨h1, h2⟩ := and3 h
  rw [Bool.not_eq_true'] at h2
  refine ⟨?_, h2⟩
  show X.env.scope.names.lookup x = some .globalImplicit
  rw [k.scope]
  exact of_decide_eq_true h1
theorem Ck.blt (k : Ck X c G call sc lv) {x y : Str} (h : bltB G sc x y = true) : x = y ∧ Gl X x ∧ (x == ("__debug__" : Str)) = false ∧ X.mg x = none := by
  unfold bltB at h
  obtain ⟨h, h3⟩ := and3 h
  obtain ⟨h1, h2⟩ := and3 h
  obtain ⟨g1, g2⟩ := k.glob h2
  exact ⟨of_decide_eq_true h1, g1, g2, k.blts x (of_decide_eq_true h3)⟩
theorem star_tame {p : Expr} (h : tame p = true) (ps : List Expr) (env : PySem.Env) : starEach (p :: ps) env = (false, eval p env) :: starEach ps env := by
  cases p <;> first | rfl | (simp [tame] at h; done)
theorem behind_tame {p : Expr} (o : CmpOp) (h : tame p = true) : behindInMarks o p = false := by
  cases p <;> first | rfl | (simp [tame] at h; done)
theorem folded_tame {p : Expr} (h : tame p = true) (env : PySem.Env) (x : Value) : foldedSetIterable p env x = pure x := by
  cases p <;> first | rfl | (simp [tame] at h; done)
theorem genFold_tame {p : Expr} (h : tame p = true) (h2 : flatIt p = true) (env : PySem.Env) (x : Value) : genFold p env x = pure x := by
  cases p <;> first | rfl | (simp [tame] at h; done) | (simp [flatIt] at h2; done)
theorem plain_tame {p : Expr} (h : tame p = true) : PlainIx p := by
  intro o i
  cases p <;> first | rfl | (simp [tame] at h; done)
/-- what is shown of an expression's text -/
def J (X : Cx) (c : Fc) (g : Bool) (F : Env → R (D × Env)) (m : Option BoolOp) (ps : List Expr) : Prop := match m with
  | none => ∀ p, ps = [p] → PE X p (tS c g F)
  | some o => ∀ pos, PE X (.BoolOp o ps pos) (tS c g F)
theorem J.of {g : Bool} {F : Env → R (D × Env)} {p : Expr} (h : PE X p (tS c g F)) : ∀ m, J X c g F m [p]
  | none => fun q e => by cases e; exact h
  | some o => fun pos => pe_one h
theorem see_ok (k : Ck X c G call sc lv) {a : E} {p : Expr} {g : Bool} {r : Bool} (h : seeB sc a r p = true) (hr : r = true → PE X p (tS c g (evalE call a))) : PE X p (tSee c a (evalE call a)) := by
  cases a <;> first
    | exact pe_see_v (fun i => by simp) (hr h)
    | skip
  obtain ⟨x, pos, rfl, hp⟩ := k.var h
  exact pe_see_b hp
theorem bin_ok (k : Ck X c G call sc lv) {o : BO} {q : Operator} {a b : E} {l r : Expr} {pos : Pos} {g : Bool} {F F2 : Env → R (D × Env)} (h : opB o q = true) (hl : PE X l (tSee c a F)) (hr : PE X r (tSee c b F2)) :
    PE X (.BinOp l q r pos) (tS c g fun ρ => do let (x, ρ) ← seeW a F ρ; let (y, ρ) ← seeW b F2 ρ; let x ← nowE a x ρ; let y ← nowE b y ρ; .ok (← binR o x y, ρ)) := by
  cases o <;> cases q <;> first | (simp [opB] at h; done) | skip
  · exact op2S (add_D k.kx g) (fun ta tb ha hb => pe_op op_addX ha hb) hl hr
  · exact op2S (sub_D g) (fun ta tb ha hb => pe_op op_sub ha hb) hl hr
  · exact op2S (mul_D k.kx g) (fun ta tb ha hb => pe_op op_mulX ha hb) hl hr
  · exact op2S (fdiv_D g) (fun ta tb ha hb => pe_op op_fdiv ha hb) hl hr
  · exact op2S (mod_D g) (fun ta tb ha hb => pe_op op_mod ha hb) hl hr
  · exact op2S (pow_D g) (fun ta tb ha hb => pe_op op_pow ha hb) hl hr
/-- how a comparison is read -/
theorem cmp_op (k : Ck X c G call sc lv) {o : CO} {q : CmpOp} (h : cmpB o q = true) : ∃ r : R2, OpR X (compareOp q) r ∧ ∀ g, Op2 c g r (cmpD o) := by
  have u := k.units
  cases o <;> cases q <;> first | (simp [cmpB] at h; done) | skip
  · exact ⟨_, op_eqX k.kx (by omega), eq_D⟩
  · exact ⟨_, op_neX k.kx (by omega), ne_D⟩
  · exact ⟨_, op_ltX k.kx (by omega), lt_D⟩
  · exact ⟨_, op_le, le_D⟩
  · exact ⟨_, op_gt, gt_D⟩
  · exact ⟨_, op_ge, ge_D⟩
  · exact ⟨_, op_isX, is_D⟩
  · exact ⟨_, op_isNotX, isNot_D⟩
  · exact ⟨_, op_inX k.kx u, fun g => in_D g false⟩
  · exact ⟨_, op_notInX k.kx u, fun g => in_D g true⟩
theorem const_ok {d : D} {p : Expr} {g : Bool} (h : constB d p = true) : PE X p (tS c g fun ρ => .ok (d, ρ)) := by
  unfold constB at h
  split at h <;> first | (simp at h; done) | skip
  · exact pe_constS pe_non rfl
  · rw [beq_iff_eq] at h
    subst h
    exact pe_constS pe_bl rfl
  · have h := of_decide_eq_true h
    subst h
    exact pe_constS pe_int rfl
  · have h := of_decide_eq_true h
    subst h
    refine pe_constS (v := .int _) ((pe_un un_neg pe_int).weak fun σ H Q q => ?_) rfl
    exact ⟨_, rfl, q⟩
  · have h := of_decide_eq_true h
    subst h
    exact pe_constS pe_str rfl
theorem same_scal {d d' : D} {v : V} (h : sameD d d' = true) (s : scalD d' = some v) : scalD d = some v := by
  cases d' <;> first | (cases s; done) | skip
  all_goals (cases d <;> first | (simp [sameD] at h; done) | skip)
  all_goals first | exact s | (simp [sameD] at h; subst h; exact s) | (simp [sameD, sameDs] at h; done) | (cases s; done)
end
end Cg
set_option Elab.async false
set_option linter.all false
set_option maxRecDepth 100000
set_option maxHeartbeats 4000000
namespace Cg
open PySem PySem.Spec PyProof.Rows L2 PySem.SeqAt
section
variable {X : Cx} {c : Fc} {G : Gt} {call : CallF} {sc : Sc} {lv : Nat}
theorem _root_.L2.PE.asG {p : Expr} {F : Env → R (D × Env)} {g g1 : Bool} (h : PE X p (tS c g1 F)) (w : g = true → g1 = true) : PE X p (tS c g F) := h.weak fun σ H Q ⟨O, ρ, R, q⟩ => ⟨O, ρ, R, q.mono fun p q v H' r k => q v H' ⟨r.rel, r.rep, fun z => r.fr (w z)⟩ k⟩
theorem nodup_ok : ∀ {l : List Nat}, nodupB l = true → l.Nodup
  | [], _ => List.nodup_nil
  | x :: xs, h => by
    obtain ⟨h1, h2⟩ := and3 h
    rw [Bool.not_eq_true'] at h1
    exact List.nodup_cons.mpr ⟨fun m => (by rw [List.contains_iff_mem.mpr m] at h1; cases h1), nodup_ok h2⟩
theorem plain_stars {pos : Pos} {env : PySem.Env} : ∀ {ps : List Expr}, (∀ p ∈ ps, tame p = true) → (backTo pos (starEach ps env)).any (·.1) = false
  | [], _ => rfl
  | p :: ps, h => by
    rw [star_tame (h p List.mem_cons_self)]
    exact plain_stars (ps := ps) fun q m => h q (List.mem_cons_of_mem _ m)
theorem chkAs_tame : ∀ {es : Es} {ps : List Expr}, chkAs G sc es ps = true → ∀ p ∈ ps, tame p = true
  | .nil, ps, h => fun p hp => by
    cases ps with
    | nil => cases hp
    | cons a b => exact absurd h (by simp [chkAs])
  | .cons e es, [], h => fun p hp => by cases hp
  | .cons e es, q :: qs, h => fun p hp => by
    obtain ⟨h, h3⟩ := and3 (show (tame q && _ && chkAs G sc es qs) = true from h)
    rcases List.mem_cons.mp hp with z | z
    · rw [z]; exact (and3 h).1
    · exact chkAs_tame h3 p z
/-- the built-in functions of one value -/
theorem b1_call (k : Ck X c G call sc lv) {o : B1} {y : Str} {n : Bool} (h : b1Name o = some (y, n)) (hn : n = true → sc.hot = false) : ∃ r : List V → Hp → VK → Prop, (∀ g, Op1 c g r (b1R o)) ∧
    ∀ (q : Expr) (p pos : Pos) (ta : TE), Gl X y → X.mg y = none → tame q = true → PE X q ta → PE X (.Call (.Name y p) [q] [] pos) (tCB r (tCons ta tNil)) := by
  cases o <;> first | (simp [b1Name] at h; done) | skip
  all_goals (simp only [b1Name, Option.some.injEq, Prod.mk.injEq] at h; obtain ⟨rfl, rfl⟩ := h)
  · exact ⟨_, len_D k.kx, fun q p pos ta hg hm ht ha => pe_callB call_len_seq hg hm (by decide +kernel) (pa_cons ha pa_nil (star_tame ht _ _)) (by decide) (by decide) (star_tame ht _ _) rfl⟩
  · exact ⟨_, int_D, fun q p pos ta hg hm ht ha => pe_callTy call_int1 hg hm (by decide +kernel) (pa_cons ha pa_nil (star_tame ht _ _)) (by decide) (by decide) (star_tame ht _ _) rfl⟩
  · exact ⟨_, abs_D, fun q p pos ta hg hm ht ha => pe_callB call_abs hg hm (by decide +kernel) (pa_cons ha pa_nil (star_tame ht _ _)) (by decide) (by decide) (star_tame ht _ _) rfl⟩
  · exact ⟨_, sum_D, fun q p pos ta hg hm ht ha => pe_callB (cr_sum (k.calm (hn rfl))) hg hm (by decide +kernel) (pa_cons ha pa_nil (star_tame ht _ _)) (by decide) (by decide) (star_tame ht _ _) rfl⟩
  · exact ⟨_, min_D, fun q p pos ta hg hm ht ha => pe_callB (cr_min (k.calm (hn rfl))) hg hm (by decide +kernel) (pa_cons ha pa_nil (star_tame ht _ _)) (by decide) (by decide) (star_tame ht _ _) rfl⟩
  · exact ⟨_, max_D, fun q p pos ta hg hm ht ha => pe_callB (cr_max (k.calm (hn rfl))) hg hm (by decide +kernel) (pa_cons ha pa_nil (star_tame ht _ _)) (by decide) (by decide) (star_tame ht _ _) rfl⟩
  · exact ⟨_, tup_D k.kx, fun q p pos ta hg hm ht ha => pe_callTy call_tuple_of hg hm (by decide +kernel) (pa_cons ha pa_nil (star_tame ht _ _)) (by decide) (by decide) (star_tame ht _ _) rfl⟩
  · exact ⟨_, lst_D k.kx, fun q p pos ta hg hm ht ha => pe_callTy call_list_of hg hm (by decide +kernel) (pa_cons ha pa_nil (star_tame ht _ _)) (by decide) (by decide) (star_tame ht _ _) rfl⟩
  · exact ⟨_, repr_D k.kx, fun q p pos ta hg hm ht ha => pe_callB call_reprS hg hm (by decide +kernel) (pa_cons ha pa_nil (star_tame ht _ _)) (by decide) (by decide) (star_tame ht _ _) rfl⟩
theorem str_call (k : Ck X c G call sc lv) : ∀ (q : Expr) (p pos : Pos) (ta : TE), Gl X "str" → X.mg "str" = none → tame q = true → PE X q ta → PE X (.Call (.Name "str" p) [q] [] pos) (tCB (rStrErr c.k) (tCons ta tNil)) :=
  fun q p pos ta hg hm ht ha => pe_callTy (call_strErr (by have := k.units; omega) k.kx k.er) hg hm (by decide +kernel) (pa_cons ha pa_nil (star_tame ht _ _)) (by decide) (by decide) (star_tame ht _ _) rfl
theorem list_meth {id : String} {name : Str} (slot : PySem.Slot "list" name id) (hty : typeOf (.builtin id) = pure (.type "method_descriptor")) {r : V → List V → Hp → VK → Prop} (hm : MtR X id r) {x : Str} {xp a pos : Pos} {q : Expr} {to te : TE} (hl : a.endLine = pos.line) (ht : tame q = true) (ho : PE X (.Name x xp) to) (he : PE X q te) :
    PE X (.Call (.Attribute (.Name x xp) name a) [q] [] pos) (tBM X.K "list" r to (tCons te tNil)) := by
  refine pe_bm PySem.F.plainAttrs_list slot hty hm ho (pa_cons he pa_nil (star_tame ht _ _)) rfl ?_ (by rw [hl]; simp) (star_tame ht _ _) rfl
  rw [star_tame ht]
  rfl
theorem isa_call (k : Ck X c G call sc lv) {r : List V → Hp → VK → Prop} (hc : CallR X (.builtin "isinstance") r) {q : Expr} {y : Str} {yp p pos : Pos} {ta tb : TE} (hg : Gl X "isinstance") (hm : X.mg "isinstance" = none) (ht : tame q = true) (ha : PE X q ta) (hb : PE X (.Name y yp) tb) :
    PE X (.Call (.Name "isinstance" p) [q, .Name y yp] [] pos) (tCB r (tCons ta (tCons tb tNil))) :=
  pe_callB hc hg hm (by decide +kernel) (pa_cons ha (pa_cons hb pa_nil rfl) (star_tame ht _ _)) (by decide) (by decide) (star_tame ht _ _) rfl
end
end Cg
set_option Elab.async false
set_option linter.all false
set_option maxRecDepth 100000
set_option maxHeartbeats 4000000
namespace Cg
open PySem PySem.Spec PyProof.Rows L2 PySem.SeqAt
/-- what is shown of a test's text -/
def JT (X : Cx) (c : Fc) (F : Env → R (Bool × Env)) (m : Option BoolOp) (ps : List Expr) : Prop := match m with
  | none => ∀ p, ps = [p] → PT X p (Cg.tB c F)
  | some o => ∀ pos, PW X (.BoolOp o ps pos) (Cg.tB c F)
section
variable {X : Cx} {c : Fc} {G : Gt} {call : CallF} {sc : Sc} {lv : Nat}
theorem JT.of {F : Env → R (Bool × Env)} {p : Expr} (h : PT X p (Cg.tB c F)) : ∀ m, JT X c F m [p]
  | none => fun q e => by cases e; exact h
  | some .And => fun pos => pw_and1 h
  | some .Or => fun pos => pw_or1 h
theorem isTrue_plain {p : Expr} {env : PySem.Env} (h : plainP p = true) (whole : Sem Value) : isTrue p env whole = (do let v ← whole; standAt p.pos; holding [v] (truthy v)) := by
  cases p <;> first | rfl | (simp [plainP] at h; done) | skip
  rename_i o q pos
  cases o <;> first | rfl | (simp [plainP] at h; done)
end
section
variable {X : Cx} {c : Fc} {G : Gt} {call : CallF} {sc : Sc} {lv : Nat}
theorem lc_eq {t : Tg} {it : It} {cd : T} {e : E} (h : itSlots it = []) : evalE call (.lc t it cd e) = lcR (evalIt call it) (fun ρ x => bindT ρ t x) (evalT call cd) (evalE call e) (namesT t) := by
  funext ρ0
  simp only [evalE, h]
  rfl
theorem blk_ok (k : Ck X c G call sc lv) {s : Scope} {ns : List Nat} (h : blkB sc s ns = true) : ∃ own, BlkOk X.N X.env.scope s own ∧ own.map (·.2) = ns := by
  unfold blkB at h
  obtain ⟨h, h5⟩ := and3 h
  obtain ⟨h, h4⟩ := and3 h
  obtain ⟨h, h3⟩ := and3 h
  obtain ⟨h1, h2⟩ := and3 h
  refine ⟨ns.map fun i => ((sc.N[i]?).getD "", i), ⟨of_decide_eq_true h1, fun y hy => of_decide_eq_true (List.all_eq_true.mp h2 y hy), fun p hp => ?_, fun y hy e => ?_, fun y hy e => ?_⟩, by rw [List.map_map]; exact (List.map_congr_left (g := id) fun _ _ => rfl).trans (List.map_id _)⟩
  · obtain ⟨i, hi, rfl⟩ := List.mem_map.mp hp
    rw [k.N]
    obtain ⟨x, e⟩ := Option.isSome_iff_exists.mp (List.all_eq_true.mp h3 i hi)
    show sc.N[i]? = some ((sc.N[i]?).getD "")
    rw [e]; rfl
  · have q := List.all_eq_true.mp h4 y hy
    rw [k.scope]
    simp only [Bool.or_eq_true, Bool.not_eq_true', decide_eq_true_eq, decide_eq_false_iff_not] at q
    rcases q with (q | q) | q
    · exact absurd e q
    · exact .inl q
    · exact .inr q
  · have q := List.all_eq_true.mp h5 y hy
    rw [k.N]
    have il : isLc (some y.2) = true := by rcases e with e | e <;> rw [e] <;> rfl
    rw [il] at q
    simp only [Bool.not_true, Bool.false_or, Bool.or_eq_true, Bool.not_eq_true', decide_eq_false_iff_not, List.any_eq_true, decide_eq_true_eq] at q
    rcases q with ⟨i, hi, e⟩ | q
    · refine .inl ?_
      rw [List.map_map]
      exact List.mem_map.mpr ⟨i, hi, by show (sc.N[i]?).getD "" = y.1; rw [e]; rfl⟩
    · exact .inr q
theorem gx_ok (k : Ck X c G call sc lv) {s : Scope} {ns : List Nat} (h : gxB sc s ns = true) : GxS X.N X.env.scope s ns := by
  unfold gxB at h
  obtain ⟨h, h6⟩ := and3 h
  obtain ⟨h, h5⟩ := and3 h
  obtain ⟨h, h4⟩ := and3 h
  obtain ⟨h, h3⟩ := and3 h
  obtain ⟨h1, h2⟩ := and3 h
  refine ⟨of_decide_eq_true h1, by simpa using h2, fun y hy e => ?_, of_decide_eq_true h4, fun y hy e => ?_, fun i x hi hx => ?_⟩
  · have q := List.all_eq_true.mp h3 y hy
    rw [e] at q
    cases q
  · have q := List.all_eq_true.mp h5 y hy
    rw [k.scope]
    simp only [Bool.or_eq_true, Bool.not_eq_true', decide_eq_true_eq, decide_eq_false_iff_not] at q
    rcases q with (q | q) | q
    · exact absurd e q
    · exact .inl q
    · exact .inr q
  · rw [k.N] at hi
    have q := List.all_eq_true.mp h6 i (List.mem_range.mpr (List.getElem?_eq_some_iff.mp hi).1)
    rw [hi] at q
    have q : (!decide (s.names.lookup x = some .local) || ns.contains i) = true := q
    rw [hx] at q
    simpa using q
theorem gsum_eq {t : Tg} {it : It} {cd : T} {e : E} (h : itSlots it = []) : evalE call (.gsum t it cd e) = gsumR (evalIt call it) (fun ρ x => bindT ρ t x) (evalT call cd) (evalE call e) (namesT t) := by
  funext ρ0
  simp only [evalE, h]
  rfl
theorem gall_eq {t : Tg} {it : It} {e : E} (h : itSlots it = []) : evalE call (.gall t it e) = gallR (evalIt call it) (fun ρ x => bindT ρ t x) (evalE call e) (namesT t) := by
  funext ρ0
  simp only [evalE, h]
  rfl
theorem tg_ok (k : Ck X c G call sc lv) {t : Tg} {tg : Expr} (h : tgB sc t tg = true) : PG X tg (tGt c (namesT t) fun ρ x => bindT ρ t x) := by
  cases t with
  | tup ts => cases tg <;> cases h
  | nm i =>
    cases tg <;> first | (simp [tgB] at h; done) | skip
    rename_i x pos
    obtain ⟨h1, h2⟩ := and3 (show (decide (sc.N[i]? = some x) && (decide (kindS sc x = some .local) || (decide (kindS sc x = some .cell) && sc.fn x))) = true from h)
    simp only [Bool.or_eq_true, Bool.and_eq_true, decide_eq_true_eq, kindS, ← k.scope] at h2
    refine pg_nmS k.nd (by rw [k.N]; exact of_decide_eq_true h1) (h2.imp id fun z => z.1) ?_
    rcases h2 with h2 | ⟨h2, h3⟩
    · exact .inr h2
    · exact .inl (k.fn x h3)
theorem seeW_eq {e : E} {f : Env → R (D × Env)} (h : ∀ i, e ≠ .b i) : seeW e f = f := by
  funext ρ
  cases e <;> first | rfl | exact absurd rfl (h _)
end
mutual
theorem chkE_ok {G : Gt} {call : CallF} {lv : Nat} : ∀ (e : E) {X : Cx} {c : Fc} {sc : Sc} (k : Ck X c G call sc lv) (m : Option BoolOp) (ps : List Expr), chkE G sc e m ps = true → J X c (freshE G e) (evalE call e) m ps
  | .k d, X, c, sc, k, m, ps, h => by
    replace h := as1_eq h; obtain ⟨p, rfl, h⟩ := h
    refine J.of ?_ m
    rw [Bool.or_eq_true] at h
    rcases h with h | h
    · exact const_ok h
    · replace h := asName_eq h; obtain ⟨x, pos, rfl, h⟩ := h
      obtain ⟨h1, h2⟩ := and3 h
      obtain ⟨hg, hd⟩ := k.glob h1
      cases q : G.consts.lookup x with
      | none => rw [q] at h2; cases h2
      | some d' =>
        rw [q] at h2
        obtain ⟨v, u, s, hm, r⟩ := k.consts x d' q
        exact pe_constS (pe_glob hg hm r hd) (same_scal h2 s)
  | .v i, X, c, sc, k, m, ps, h => by
    replace h := as1_eq h; obtain ⟨p, rfl, h⟩ := h
    obtain ⟨x, pos, rfl, hp⟩ := k.var h
    exact J.of (pe_varS hp) m
  | .tup es, X, c, sc, k, m, ps, h => by
    replace h := as1_eq h; obtain ⟨p, rfl, h⟩ := h
    replace h := asTup_eq h; obtain ⟨qs, n, pos, rfl, h⟩ := h
    exact J.of (pe_tupS (chkEs_ok es k qs h)) m
  | .lst es, X, c, sc, k, m, ps, h => by
    replace h := as1_eq h; obtain ⟨p, rfl, h⟩ := h
    replace h := asLst_eq h; obtain ⟨qs, pos, rfl, h⟩ := h
    exact J.of (pe_lstS (chkEs_ok es k qs h)) m
  | .bin o a b, X, c, sc, k, m, ps, h => by
    replace h := as1_eq h; obtain ⟨p, rfl, h⟩ := h
    replace h := asBin_eq h; obtain ⟨l, q, r, pos, rfl, h⟩ := h
    obtain ⟨h, h3⟩ := and3 h
    obtain ⟨h1, h2⟩ := and3 h
    exact J.of (bin_ok k h1 (see_ok k h2 fun z => chkE_ok a k none [l] z l rfl) (see_ok k h3 fun z => chkE_ok b k none [r] z r rfl)) m
  | .cmp o a b, X, c, sc, k, m, ps, h => by
    replace h := as1_eq h; obtain ⟨p, rfl, h⟩ := h
    replace h := asCmp_eq h; obtain ⟨l, q, r, pos, rfl, h⟩ := h
    obtain ⟨h, h4⟩ := and3 h
    obtain ⟨h, h3⟩ := and3 h
    obtain ⟨h1, h2⟩ := and3 h
    obtain ⟨rr, ho, hd⟩ := cmp_op k h1
    exact J.of (op2S (hd true) (fun ta tb ha hb => pe_cmpR ho ha hb (behind_tame q h2)) (see_ok k h3 fun z => chkE_ok a k none [l] z l rfl) (see_ok k h4 fun z => chkE_ok b k none [r] z r rfl)) m
  | .chain o o2 a b d, X, c, sc, k, m, ps, h => by
    replace h := as1_eq h; obtain ⟨p, rfl, h⟩ := h
    replace h := asChain_eq h; obtain ⟨l, q, q2, r, s, pos, rfl, h⟩ := h
    obtain ⟨h, h6⟩ := and3 h
    obtain ⟨h, h5⟩ := and3 h
    obtain ⟨h, h4⟩ := and3 h
    obtain ⟨h, h3⟩ := and3 h
    obtain ⟨h1, h2⟩ := and3 h
    obtain ⟨r1, ho, hd⟩ := cmp_op k h1
    obtain ⟨r2, ho2, hd2⟩ := cmp_op k h2
    exact J.of (pe_chainS ho ho2 (hd false) (hd2 false) (chkE_ok a k none [l] h4 l rfl) (chkE_ok b k none [r] h5 r rfl) (chkE_ok d k none [s] h6 s rfl) (behind_tame q2 h3)) m
  | .not a, X, c, sc, k, m, ps, h => by
    replace h := as1_eq h; obtain ⟨p, rfl, h⟩ := h
    replace h := asNot_eq h; obtain ⟨q, pos, rfl, h⟩ := h
    exact J.of (pe_notS k.kx.K (see_ok k h fun z => chkE_ok a k none [q] z q rfl)) m
  | .ite t a b, X, c, sc, k, m, ps, h => by
    replace h := as1_eq h; obtain ⟨p, rfl, h⟩ := h
    replace h := asIte_eq h; obtain ⟨u, q, r, pos, rfl, h⟩ := h
    obtain ⟨h, h3⟩ := and3 h
    obtain ⟨h1, h2⟩ := and3 h
    exact J.of (pe_iteS (chkT_ok t k none [u] h1 u rfl) ((chkE_ok a k none [q] h2 q rfl).asG fun z => (and3 z).1) ((chkE_ok b k none [r] h3 r rfl).asG fun z => (and3 z).2)) m
  | .idx a i, X, c, sc, k, m, ps, h => by
    replace h := as1_eq h; obtain ⟨p, rfl, h⟩ := h
    replace h := asSub_eq h; obtain ⟨l, q, pos, rfl, h⟩ := h
    obtain ⟨h, h3⟩ := and3 h
    obtain ⟨h1, h2⟩ := and3 h
    exact J.of (pe_ixS k.kx (see_ok k h2 fun z => chkE_ok a k none [l] z l rfl) (see_ok k h3 fun z => chkE_ok i k none [q] z q rfl) (plain_tame h1)) m
  | .slice a lo hi, X, c, sc, k, m, ps, h => by
    replace h := as1_eq h; obtain ⟨p, rfl, h⟩ := h
    replace h := asSub_eq h; obtain ⟨l, s, pos, rfl, h⟩ := h
    replace h := asSlice_eq h; obtain ⟨q, r, p2, rfl, h⟩ := h
    obtain ⟨h, h3⟩ := and3 h
    obtain ⟨h1, h2⟩ := and3 h
    have opt : ∀ (q : Option Expr) (e : E), asOpt q e (fun q => chkE G sc e none [q]) = true → (∀ p, chkE G sc e none [p] = true → PE X p (tS c (freshE G e) (evalE call e))) → PO X q (tOpt c e (evalE call e)) := fun q e h w => by
      unfold asOpt at h
      split at h
      · exact po_noneS
      · cases h
      · cases h
      · rename_i q0 e0 hne
        exact po_someS (w _ h) (fun z => hne z)
    exact J.of (pe_sliceS k.kx (see_ok k h1 fun z => chkE_ok a k none [l] z l rfl) (opt q lo h2 fun p z => chkE_ok lo k none [p] z p rfl) (opt r hi h3 fun p z => chkE_ok hi k none [p] z p rfl)) m
  | .call f as, X, c, sc, k, m, ps, h => by
    replace h := as1_eq h; obtain ⟨p, rfl, h⟩ := h
    replace h := asCall_eq h; obtain ⟨x, xp, qs, pos, rfl, h⟩ := h
    obtain ⟨h, h7⟩ := and3 h
    obtain ⟨h, h6⟩ := and3 h
    obtain ⟨h, h5⟩ := and3 h
    obtain ⟨h, h4⟩ := and3 h
    obtain ⟨h, h3⟩ := and3 h
    obtain ⟨h1, h2⟩ := and3 h
    obtain ⟨hg, hd⟩ := k.glob h2
    obtain ⟨fa, fd, fps, hm, kp, bd, Fn⟩ := k.funs x f (of_decide_eq_true h3)
    have hot : sc.hot = false := by simpa using h1
    have em : G.mask f = maskE as := (beq_iff_eq.mp h4).symm
    rw [em] at Fn
    cases qs with
    | nil => simp at h6
    | cons p0 ps0 =>
      have tm := chkAs_tame h7
      exact J.of (pe_callS (chkAs_ok as k (p0 :: ps0) h7) Fn (k.room hot) hg hm kp bd k.pass (nodup_ok h5) hd (star_tame (tm p0 List.mem_cons_self) _ _) (plain_stars fun q m => tm q (List.mem_cons_of_mem _ m))) m
  | .b1 o a, X, c, sc, k, m, ps, h => by
    replace h := as1_eq h; obtain ⟨p, rfl, h⟩ := h
    replace h := asCall_eq h; obtain ⟨x, xp, qs, pos, rfl, h⟩ := h
    replace h := as1_eq h; obtain ⟨q, rfl, h⟩ := h
    obtain ⟨h, h3⟩ := and3 h
    obtain ⟨h1, h2⟩ := and3 h
    have hs := see_ok (k := k) (a := a) (p := q) (g := freshE G a) h2 fun z => chkE_ok a k none [q] z q rfl
    have gen : ∀ y n, b1Name o = some (y, n) → (bltB G sc x y && (!n || !sc.hot)) = true → J X c (freshE G (.b1 o a)) (evalE call (.b1 o a)) m [.Call (.Name x xp) [q] [] pos] := fun y n e z => by
      obtain ⟨z1, z2⟩ := and3 z
      obtain ⟨rfl, hg, hd, hm⟩ := k.blt z1
      obtain ⟨r, hD, hc⟩ := b1_call k e fun hn => by
        rw [hn] at z2
        simpa using z2
      exact J.of (op1S (hD _) (fun ta ha => hc q xp pos ta hg hm h1 ha) hs) m
    cases o <;> first
      | exact gen _ _ rfl h3
      | (simp [b1Name] at h3; done)
      | skip
    obtain ⟨rfl, hg, hd, hm⟩ := k.blt (show bltB G sc x "str" = true from h3)
    exact J.of (op1S (strErr_D _) (fun ta ha => str_call k q xp pos ta hg hm h1 ha) hs) m
  | .count a e, X, c, sc, k, m, ps, h => by
    replace h := as1_eq h; obtain ⟨p, rfl, h⟩ := h
    replace h := asMeth_eq h; obtain ⟨o, n, ap, qs, pos, rfl, hl, h⟩ := h
    obtain ⟨h, h2⟩ := and3 h
    obtain ⟨h0, h1⟩ := and3 h
    obtain rfl := of_decide_eq_true h0
    replace h1 := asName_eq h1; obtain ⟨x, xp, rfl, _⟩ := h1
    replace h2 := as1_eq h2; obtain ⟨q, rfl, hq⟩ := h2
    obtain ⟨hq, h5⟩ := and3 hq
    obtain ⟨h3, h4⟩ := and3 hq
    exact J.of (pe_countS (by have := k.units; omega) (see_ok k h4 fun z => chkE_ok a k none [_] z _ rfl) (chkE_ok e k none [q] h5 q rfl) (fun r to te hm ho he => list_meth PySem.F.slot_list_count PySem.F.type_list_count hm hl h3 ho he)) m
  | .index a e, X, c, sc, k, m, ps, h => by
    replace h := as1_eq h; obtain ⟨p, rfl, h⟩ := h
    replace h := asMeth_eq h; obtain ⟨o, n, ap, qs, pos, rfl, hl, h⟩ := h
    obtain ⟨h, h2⟩ := and3 h
    obtain ⟨h0, h1⟩ := and3 h
    obtain rfl := of_decide_eq_true h0
    replace h1 := asName_eq h1; obtain ⟨x, xp, rfl, _⟩ := h1
    replace h2 := as1_eq h2; obtain ⟨q, rfl, hq⟩ := h2
    obtain ⟨hq, h5⟩ := and3 hq
    obtain ⟨h3, h4⟩ := and3 hq
    exact J.of (pe_indexS (see_ok k h4 fun z => chkE_ok a k none [_] z _ rfl) (chkE_ok e k none [q] h5 q rfl) (fun r to te hm ho he => list_meth PySem.F.slot_list_index PySem.F.type_list_index hm hl h3 ho he)) m
  | .isa t a, X, c, sc, k, m, ps, h => by
    replace h := as1_eq h; obtain ⟨p, rfl, h⟩ := h
    replace h := asCall_eq h; obtain ⟨x, xp, qs, pos, rfl, h⟩ := h
    obtain ⟨h1, h2⟩ := and3 h
    obtain ⟨rfl, hg, hd, hm⟩ := k.blt h1
    replace h2 := as2_eq h2; obtain ⟨q, r, rfl, h2⟩ := h2
    obtain ⟨h2, h5⟩ := and3 h2
    obtain ⟨h3, h4⟩ := and3 h2
    replace h5 := asName_eq h5; obtain ⟨y, yp, rfl, h6⟩ := h5
    obtain ⟨rfl, hg2, hd2, hm2⟩ := k.blt h6
    have hb : PE X (.Name (Str.ofString t.name) yp) (tC (.ty t.name)) := pe_bltn hg2 hm2 (u := .type t.name) (by cases t <;> decide +kernel) rfl (by cases t <;> decide) hd2
    exact J.of (pe_isaS k.kx (fun ta tb ha hb => isa_call k call_isi hg hm h3 ha hb) (chkE_ok a k none [q] h4 q rfl) hb) m
  | .isExc n a, X, c, sc, k, m, ps, h => by
    replace h := as1_eq h; obtain ⟨p, rfl, h⟩ := h
    replace h := asCall_eq h; obtain ⟨x, xp, qs, pos, rfl, h⟩ := h
    obtain ⟨h1, h2⟩ := and3 h
    obtain ⟨rfl, hg, hd, hm⟩ := k.blt h1
    replace h2 := as2_eq h2; obtain ⟨q, r, rfl, h2⟩ := h2
    obtain ⟨h2, h5⟩ := and3 h2
    obtain ⟨h3, h4⟩ := and3 h2
    replace h5 := asName_eq h5; obtain ⟨y, yp, rfl, h6⟩ := h5
    have fin : ∀ (hn : n < 6) (hu : (∃ a, c.k.xc n = .ref a) ∨ ∃ m, c.k.xc n = .type m), PE X (.Name y yp) (tC (clsV (c.k.xc n))) → J X c (freshE G (.isExc n a)) (evalE call (.isExc n a)) m [.Call (.Name "isinstance" xp) [q, .Name y yp] [] pos] :=
      fun hn hu hb => J.of (pe_isErrS k.kx k.er hn hu (fun r ta tb hc ha hb => isa_call k hc hg hm h3 ha hb) (chkE_ok a k none [q] h4 q rfl) hb) m
    by_cases n5 : n = 5
    · rw [if_pos n5] at h6
      subst n5
      obtain ⟨rfl, hg2, hd2, hm2⟩ := k.blt h6
      refine fin (by omega) (.inr ⟨_, k.err5⟩) ?_
      rw [k.err5]
      exact pe_bltn hg2 hm2 (u := .type "ValueError") (by decide +kernel) rfl (by decide) hd2
    · rw [if_neg n5] at h6
      obtain ⟨h6, h8⟩ := and3 h6
      obtain ⟨h6, h7⟩ := and3 h6
      have hn := of_decide_eq_true h8
      obtain ⟨hg2, hd2⟩ := k.glob h6
      obtain ⟨C, bmB, B, ni, ii, hm2, ex, _⟩ := k.errs y n (of_decide_eq_true h7) hn
      refine fin (by omega) (.inl ⟨C, ex⟩) ?_
      rw [ex]
      exact pe_glob hg2 hm2 rfl hd2
  | .mkExc n, X, c, sc, k, m, ps, h => by
    replace h := as1_eq h; obtain ⟨p, rfl, h⟩ := h
    replace h := asCall_eq h; obtain ⟨x, xp, qs, pos, rfl, h⟩ := h
    obtain ⟨h, h4⟩ := and3 h
    obtain ⟨h, h3⟩ := and3 h
    obtain ⟨h1, h2⟩ := and3 h
    cases qs with
    | cons a b => simp at h1
    | nil =>
      obtain ⟨hg, hd⟩ := k.glob h2
      obtain ⟨C, bmB, B, ni, ii, hm, ex, kp, Fx, q⟩ := k.errs x n (of_decide_eq_true h3) (of_decide_eq_true h4)
      exact J.of (pe_mkErrS (pe_own0 Fx q hm kp hg hd) ex) m
  | .lc t it cd e, X, c, sc, k, m, ps, h => by
    replace h := as1_eq h; obtain ⟨p, rfl, h⟩ := h
    replace h := asComp_eq h; obtain ⟨q, tg, iter, ifs, s, pos, rfl, h⟩ := h
    obtain ⟨h, h8⟩ := and3 h
    obtain ⟨h, h7⟩ := and3 h
    obtain ⟨h, h6⟩ := and3 h
    obtain ⟨h, h5⟩ := and3 h
    obtain ⟨h, h4⟩ := and3 h
    obtain ⟨h, h3⟩ := and3 h
    obtain ⟨h1, h2⟩ := and3 h
    have hot : sc.hot = false := by simpa using h1
    rw [lc_eq (List.isEmpty_iff.mp h3)]
    refine J.of (pe_lcS (k.calm hot) k.nd (chkIt_ok it k iter tg h4) ⟨blk_ok k h5, fun p s2 H a cl fp => tg_ok (k.inn hot) h6, fun p s2 H a cl fp => ?_, fun p s2 H a cl fp => (chkE_ok e (k.inn hot) none [q] h7 q rfl).lax⟩ (folded_tame h2 _)) m
    unfold ifsB at h8
    split at h8
    · unfold isYes at h8
      split at h8
      · exact pts_nilS
      · cases h8
    · exact pts_one (chkT_ok cd (k.inn hot) none [_] h8 _ rfl)
    · cases h8
  | .b2 o a b, X, c, sc, k, m, ps, h => by
    replace h := as1_eq h; obtain ⟨p, rfl, h⟩ := h
    replace h := asCall_eq h; obtain ⟨x, xp, qs, pos, rfl, h⟩ := h
    obtain ⟨h, h2⟩ := and3 h
    obtain ⟨h0, h1⟩ := and3 h
    replace h2 := as2_eq h2; obtain ⟨q, r, rfl, h2⟩ := h2
    obtain ⟨h2, h6⟩ := and3 h2
    obtain ⟨h2, h5⟩ := and3 h2
    obtain ⟨h3, h4⟩ := and3 h2
    have hot : sc.hot = false := by simpa using h0
    have pl : ∀ {ps : Pos}, (backTo ps (starEach [r] X.env)).any (·.1) = false := plain_stars fun p hp => by rw [List.mem_singleton.mp hp]; exact h4
    cases o
    · obtain ⟨rfl, hg, hd, hm⟩ := k.blt h1
      exact J.of (op1bS (min2_D _) (fun ta tb ha hb => pe_callB (show CallR X (.builtin "min") rMin2 from call_min2 (k.calm hot)) hg hm (by decide +kernel) (pa_cons ha (pa_cons hb pa_nil (star_tame h4 _ _)) (star_tame h3 _ _)) (by decide) (by decide) (star_tame h3 _ _) pl) (chkE_ok a k none [q] h5 q rfl) (chkE_ok b k none [r] h6 r rfl)) m
    · obtain ⟨rfl, hg, hd, hm⟩ := k.blt h1
      exact J.of (op1bS (max2_D _) (fun ta tb ha hb => pe_callB (show CallR X (.builtin "max") rMax2 from call_max2 (k.calm hot)) hg hm (by decide +kernel) (pa_cons ha (pa_cons hb pa_nil (star_tame h4 _ _)) (star_tame h3 _ _)) (by decide) (by decide) (star_tame h3 _ _) pl) (chkE_ok a k none [q] h5 q rfl) (chkE_ok b k none [r] h6 r rfl)) m
  | .gsum t it cd e, X, c, sc, k, m, ps, h => by
    replace h := as1_eq h; obtain ⟨p, rfl, h⟩ := h
    replace h := asGx_eq h; obtain ⟨x, xp, q, tg, iter, ifs, s, gpos, pos, rfl, h⟩ := h
    obtain ⟨h, h11⟩ := and3 h
    obtain ⟨h, h10⟩ := and3 h
    obtain ⟨h, h9⟩ := and3 h
    obtain ⟨h, h8⟩ := and3 h
    obtain ⟨h, h7⟩ := and3 h
    obtain ⟨h, h6⟩ := and3 h
    obtain ⟨h, h5⟩ := and3 h
    obtain ⟨h, h4⟩ := and3 h
    obtain ⟨h, h3⟩ := and3 h
    obtain ⟨h1, h2⟩ := and3 h
    have hot : sc.hot = false := by simpa using h1
    obtain ⟨rfl, hg, hd, hm⟩ := k.blt h3
    rw [gsum_eq (List.isEmpty_iff.mp h6)]
    refine J.of (pe_gsumS (k.room hot) hg hm (k.tab h2) (chkIt_ok it k iter tg h7) (genFold_tame h4 h5 _) ⟨gx_ok k h8, fun s4 H4 code fp pn => tg_ok (k.gen hot h2) h9, fun s4 H4 code fp pn => ?_, fun s4 H4 code fp pn => (chkE_ok e (k.gen hot h2) none [q] h10 q rfl).lax⟩) m
    unfold ifsB at h11
    split at h11
    · unfold isYes at h11
      split at h11
      · exact pts_nilS
      · cases h11
    · exact pts_one (chkT_ok cd (k.gen hot h2) none [_] h11 _ rfl)
    · cases h11
  | .gall t it e, X, c, sc, k, m, ps, h => by
    replace h := as1_eq h; obtain ⟨p, rfl, h⟩ := h
    replace h := asGx_eq h; obtain ⟨x, xp, q, tg, iter, ifs, s, gpos, pos, rfl, h⟩ := h
    obtain ⟨h, h11⟩ := and3 h
    obtain ⟨h, h10⟩ := and3 h
    obtain ⟨h, h9⟩ := and3 h
    obtain ⟨h, h8⟩ := and3 h
    obtain ⟨h, h7⟩ := and3 h
    obtain ⟨h, h6⟩ := and3 h
    obtain ⟨h, h5⟩ := and3 h
    obtain ⟨h, h4⟩ := and3 h
    obtain ⟨h, h3⟩ := and3 h
    obtain ⟨h1, h2⟩ := and3 h
    have hot : sc.hot = false := by simpa using h1
    obtain ⟨rfl, hg, hd, hm⟩ := k.blt h3
    obtain rfl := List.isEmpty_iff.mp h11
    rw [gall_eq (List.isEmpty_iff.mp h6)]
    exact J.of (pe_gallS (k.room hot) hg hm (k.tab h2) (chkIt_ok it k iter tg h7) (genFold_tame h4 h5 _) ⟨gx_ok k h8, fun s4 H4 code fp pn => tg_ok (k.gen hot h2) h9, fun s4 H4 code fp pn => pts_nilS, fun s4 H4 code fp pn => (chkE_ok e (k.gen hot h2) none [q] h10 q rfl).lax⟩) m
  | .and a b, X, c, sc, k, m, ps, h => by
    rcases asBool_eq (w := .And) (m := m) (ps := ps) (k := fun p rest => chkE G sc a none [p] && chkE G sc b (some .And) rest) h with ⟨p, q, rest, pos, rfl, hq⟩ | ⟨p, q, rest, rfl, rfl, hq⟩
    · obtain ⟨h1, h2⟩ := and3 hq
      exact J.of (pe_andS (chkE_ok a k none [p] h1 p rfl) (chkE_ok b k (some .And) (q :: rest) h2 pos)) m
    · obtain ⟨h1, h2⟩ := and3 hq
      exact fun pos => pe_andS (chkE_ok a k none [p] h1 p rfl) (chkE_ok b k (some .And) (q :: rest) h2 pos)
  | .or a b, X, c, sc, k, m, ps, h => by
    rcases asBool_eq (w := .Or) (m := m) (ps := ps) (k := fun p rest => chkE G sc a none [p] && chkE G sc b (some .Or) rest) h with ⟨p, q, rest, pos, rfl, hq⟩ | ⟨p, q, rest, rfl, rfl, hq⟩
    · obtain ⟨h1, h2⟩ := and3 hq
      exact J.of (pe_orS (chkE_ok a k none [p] h1 p rfl) (chkE_ok b k (some .Or) (q :: rest) h2 pos)) m
    · obtain ⟨h1, h2⟩ := and3 hq
      exact fun pos => pe_orS (chkE_ok a k none [p] h1 p rfl) (chkE_ok b k (some .Or) (q :: rest) h2 pos)
  | .b _, _, _, _, _, _, _, h => by cases h
  | .dict _ _, _, _, _, _, _, _, h => by cases h
  | .idxd _ _, _, _, _, _, _, _, h => by cases h
  | .ind _ _ _, _, _, _, _, _, _, h => by cases h
  | .idx2 _ _ _, _, _, _, _, _, _, h => by cases h
  | .any2 _, _, _, _, _, _, _, h => by cases h
  | .omit, _, _, _, _, _, _, h => by cases h
  | .io _, _, _, _, _, _, _, h => by cases h
  | .b3 _ _ _ _, _, _, _, _, _, _, h => by cases h
  | .get _ _ _, _, _, _, _, _, _, h => by cases h
  | .tmp _, _, _, _, _, _, _, h => by cases h
  | .lc2 _ _ _ _ _ _, _, _, _, _, _, _, h => by cases h
  | .gall2 _ _ _ _ _, _, _, _, _, _, _, h => by cases h
  | .grid _ _, _, _, _, _, _, _, h => by cases h
  | .empties _, _, _, _, _, _, _, h => by cases h
theorem chkT_ok {G : Gt} {call : CallF} {lv : Nat} : ∀ (t : T) {X : Cx} {c : Fc} {sc : Sc} (k : Ck X c G call sc lv) (m : Option BoolOp) (ps : List Expr), chkT G sc t m ps = true → JT X c (evalT call t) m ps
  | .of e, X, c, sc, k, m, ps, h => by
    replace h := as1_eq h; obtain ⟨p, rfl, h⟩ := h
    obtain ⟨h1, h2⟩ := and3 h
    refine JT.of ?_ m
    have gen : plainP p = true → PT X p (Cg.tB c (evalT call (.of e))) := fun w => pt_ofS k.kx.K (see_ok k h1 fun z => chkE_ok e k none [p] z p rfl) (isTrue_plain w)
    cases e <;> first
      | exact gen h2
      | skip
    · rename_i o a b
      replace h1 : chkE G sc (.cmp o a b) none [p] = true := h1
      replace h1 := as1_eq (ps := [p]) (k := fun p => asCmp p fun q l r => cmpB o q && tame r && seeB sc a (chkE G sc a none [l]) l && seeB sc b (chkE G sc b none [r]) r) h1; obtain ⟨p', e1, h1⟩ := h1
      cases e1
      replace h1 := asCmp_eq h1; obtain ⟨l, q, r, pos, rfl, h1⟩ := h1
      obtain ⟨h1, g4⟩ := and3 h1
      obtain ⟨h1, g3⟩ := and3 h1
      obtain ⟨g1, g2⟩ := and3 h1
      obtain ⟨rr, ho, hd⟩ := cmp_op k g1
      exact op2T (hd false) (fun ta tb ha hb => pt_cmpR ho ha hb (behind_tame q g2)) (see_ok k g3 fun z => chkE_ok a k none [l] z l rfl) (see_ok k g4 fun z => chkE_ok b k none [r] z r rfl)
    · rename_i o o2 a b d
      replace h1 : chkE G sc (.chain o o2 a b d) none [p] = true := h1
      replace h1 := as1_eq (ps := [p]) (k := fun p => asChain p fun q q2 l r s => cmpB o q && cmpB o2 q2 && tame s && chkE G sc a none [l] && chkE G sc b none [r] && chkE G sc d none [s]) h1; obtain ⟨p', e1, h1⟩ := h1
      cases e1
      replace h1 := asChain_eq h1; obtain ⟨l, q, q2, r, s, pos, rfl, h1⟩ := h1
      obtain ⟨h1, g6⟩ := and3 h1
      obtain ⟨h1, g5⟩ := and3 h1
      obtain ⟨h1, g4⟩ := and3 h1
      obtain ⟨h1, g3⟩ := and3 h1
      obtain ⟨g1, g2⟩ := and3 h1
      obtain ⟨r1, ho, hd⟩ := cmp_op k g1
      obtain ⟨r2, ho2, hd2⟩ := cmp_op k g2
      exact pt_chainS ho ho2 (hd false) (hd2 false) (chkE_ok a k none [l] g4 l rfl) (chkE_ok b k none [r] g5 r rfl) (chkE_ok d k none [s] g6 s rfl) (behind_tame q2 g3)
  | .not a, X, c, sc, k, m, ps, h => by
    replace h := as1_eq h; obtain ⟨p, rfl, h⟩ := h
    replace h := asNot_eq h; obtain ⟨q, pos, rfl, h⟩ := h
    exact JT.of (pt_notS (chkT_ok a k none [q] h q rfl)) m
  | .and a b, X, c, sc, k, m, ps, h => by
    rcases asBool_eq (w := .And) (m := m) (ps := ps) (k := fun p rest => chkT G sc a none [p] && chkT G sc b (some .And) rest) h with ⟨p, q, rest, pos, rfl, hq⟩ | ⟨p, q, rest, rfl, rfl, hq⟩
    · obtain ⟨h1, h2⟩ := and3 hq
      exact JT.of (pw_andS (chkT_ok a k none [p] h1 p rfl) (chkT_ok b k (some .And) (q :: rest) h2 pos)).pt m
    · obtain ⟨h1, h2⟩ := and3 hq
      exact fun pos => pw_andS (chkT_ok a k none [p] h1 p rfl) (chkT_ok b k (some .And) (q :: rest) h2 pos)
  | .or a b, X, c, sc, k, m, ps, h => by
    rcases asBool_eq (w := .Or) (m := m) (ps := ps) (k := fun p rest => chkT G sc a none [p] && chkT G sc b (some .Or) rest) h with ⟨p, q, rest, pos, rfl, hq⟩ | ⟨p, q, rest, rfl, rfl, hq⟩
    · obtain ⟨h1, h2⟩ := and3 hq
      exact JT.of (pw_orS (chkT_ok a k none [p] h1 p rfl) (chkT_ok b k (some .Or) (q :: rest) h2 pos)).pt m
    · obtain ⟨h1, h2⟩ := and3 hq
      exact fun pos => pw_orS (chkT_ok a k none [p] h1 p rfl) (chkT_ok b k (some .Or) (q :: rest) h2 pos)
theorem chkEs_ok {G : Gt} {call : CallF} {lv : Nat} : ∀ (es : Es) {X : Cx} {c : Fc} {sc : Sc} (k : Ck X c G call sc lv) (ps : List Expr), chkEs G sc es ps = true → PA X ps (Cg.tA c (evalEs call es))
  | .nil, X, c, sc, k, ps, h => by
    cases ps with
    | nil => exact pa_nilS
    | cons a b => cases h
  | .cons e es, X, c, sc, k, ps, h => by
    cases ps with
    | nil => cases h
    | cons p ps =>
      obtain ⟨h, h3⟩ := and3 (show (tame p && chkE G sc e none [p] && chkEs G sc es ps) = true from h)
      obtain ⟨h1, h2⟩ := and3 h
      exact pa_consS (chkE_ok e k none [p] h2 p rfl) (chkEs_ok es k ps h3) (star_tame h1 _ _)
theorem chkAs_ok {G : Gt} {call : CallF} {lv : Nat} : ∀ (es : Es) {X : Cx} {c : Fc} {sc : Sc} (k : Ck X c G call sc lv) (ps : List Expr), chkAs G sc es ps = true → PA X ps (tAr c es (evalAs call es))
  | .nil, X, c, sc, k, ps, h => by
    cases ps with
    | nil => exact ar_nil
    | cons a b => cases h
  | .cons e es, X, c, sc, k, ps, h => by
    cases ps with
    | nil => cases h
    | cons p ps =>
      obtain ⟨h, h3⟩ := and3 (show (tame p && _ && chkAs G sc es ps) = true from h)
      obtain ⟨h1, h2⟩ := and3 h
      have rest := chkAs_ok es k ps h3
      cases e <;> first
        | exact ar_cons rfl (chkE_ok _ k none [p] h2 p rfl) rest (star_tame h1 _ _)
        | exact (show False from by cases h2).elim
        | skip
      obtain ⟨x, pos, rfl, hp⟩ := k.var h2
      exact ar_io hp rest rfl
theorem chkIt_ok {G : Gt} {call : CallF} {lv : Nat} : ∀ (it : It) {X : Cx} {c : Fc} {sc : Sc} (k : Ck X c G call sc lv) (p tg : Expr), chkIt G sc it p = true → PI X tg p (tIt c (evalIt call it))
  | .val e, X, c, sc, k, p, tg, h => by
    have he := chkE_ok e k none [p] h p rfl
    have nb : ∀ i, e ≠ .b i := fun i z => by
      rw [z] at h
      cases h
    have r := pi_valS (tg := tg) k.kx he
    have q : evalIt call (.val e) = fun ρ => (do let (d, ρ) ← evalE call e ρ; Cg.R.ok (← itemsR d, ρ)) := by
      funext ρ
      show (do let (d, ρ) ← seeW e (evalE call e) ρ; Cg.R.ok (← itemsR d, ρ)) = _
      rw [seeW_eq nb]
    rw [q]
    exact r
  | .range e, X, c, sc, k, p, tg, h => by
    replace h := asCall_eq h; obtain ⟨x, xp, qs, pos, rfl, h⟩ := h
    obtain ⟨h1, h2⟩ := and3 h
    obtain ⟨rfl, hg, hd, hm⟩ := k.blt h1
    replace h2 := as1_eq h2; obtain ⟨q, rfl, h2⟩ := h2
    obtain ⟨h3, h4⟩ := and3 h2
    exact pi_rangeS hg hm (chkE_ok e k none [q] h4 q rfl) (star_tame h3 _ _) (star_tame h3 _ _)
  | .range2 _ _, _, _, _, _, _, _, h => by cases h
  | .zip2 _ _, _, _, _, _, _, _, h => by cases h
  | .zip3 _ _ _, _, _, _, _, _, _, h => by cases h
  | .enum _, _, _, _, _, _, _, h => by cases h
  | .rev _, _, _, _, _, _, _, h => by cases h
end
end Cg
set_option Elab.async false
set_option linter.all false
set_option maxRecDepth 100000
set_option maxHeartbeats 4000000
namespace Cg
open PySem PySem.Spec PyProof.Rows L2 PySem.SeqAt
/-! ### the checker of statements -/
def storeB (sc : Sc) (i : Nat) (x : Str) : Bool := decide (sc.N[i]? = some x) && (decide (kindS sc x = some .local) || (decide (kindS sc x = some .cell) && sc.fn x))
def isComp : Expr → Bool
  | .ListComp .. => true
  | .SetComp .. => true
  | .DictComp .. => true
  | _ => false
def parB (sc : Sc) (is : List (Nat × Nat)) (x y : Str) (px py : Pos) (a b : Expr) : Bool := match is with
  | [(i, 0), (j, 0)] => decide (sc.N[i]? = some x) && decide (sc.N[j]? = some y) && decide (i ≠ j) && decide (kindS sc x = some .local) && decide (kindS sc y = some .local) && decide (sc.scope.kind = .function) && decide (py.line = px.line) && !(y == x) && !isStarB a && !isStarB b && !(foldedForSure 8 a && foldedForSure 8 b) && !(constantsAlone 8 a && constantsAlone 8 b)
  | _ => false
def asAsg (st : Stmt) (k : Expr → Expr → Pos → Bool) : Bool := match st with
  | .Assign [t] v pos => k t v pos
  | _ => false
theorem asAsg_eq {st : Stmt} {k : Expr → Expr → Pos → Bool} (h : asAsg st k = true) : ∃ t v pos, st = .Assign [t] v pos ∧ k t v pos = true := by
  unfold asAsg at h
  split at h
  · exact ⟨_, _, _, rfl, h⟩
  · cases h
def asIf (st : Stmt) (k : Expr → List Stmt → List Stmt → Bool) : Bool := match st with
  | .If t a b _ => k t a b
  | _ => false
theorem asIf_eq {st : Stmt} {k : Expr → List Stmt → List Stmt → Bool} (h : asIf st k = true) : ∃ t a b pos, st = .If t a b pos ∧ k t a b = true := by
  unfold asIf at h
  split at h
  · exact ⟨_, _, _, _, rfl, h⟩
  · cases h
def asFor (st : Stmt) (k : Expr → Expr → List Stmt → Bool) : Bool := match st with
  | .For t i b [] _ => k t i b
  | _ => false
theorem asFor_eq {st : Stmt} {k : Expr → Expr → List Stmt → Bool} (h : asFor st k = true) : ∃ t i b pos, st = .For t i b [] pos ∧ k t i b = true := by
  unfold asFor at h
  split at h
  · exact ⟨_, _, _, _, rfl, h⟩
  · cases h
def asRet (st : Stmt) (k : Expr → Bool) : Bool := match st with
  | .Return (some e) _ => k e
  | _ => false
theorem asRet_eq {st : Stmt} {k : Expr → Bool} (h : asRet st k = true) : ∃ e pos, st = .Return (some e) pos ∧ k e = true := by
  unfold asRet at h
  split at h
  · exact ⟨_, _, rfl, h⟩
  · cases h
def asRaise (st : Stmt) (k : Expr → Bool) : Bool := match st with
  | .Raise (some e) none _ => k e
  | _ => false
theorem asRaise_eq {st : Stmt} {k : Expr → Bool} (h : asRaise st k = true) : ∃ e pos, st = .Raise (some e) none pos ∧ k e = true := by
  unfold asRaise at h
  split at h
  · exact ⟨_, _, rfl, h⟩
  · cases h
def asExpr (st : Stmt) (k : Expr → Bool) : Bool := match st with
  | .Expr e _ => k e
  | _ => false
theorem asExpr_eq {st : Stmt} {k : Expr → Bool} (h : asExpr st k = true) : ∃ e pos, st = .Expr e pos ∧ k e = true := by
  unfold asExpr at h
  split at h
  · exact ⟨_, _, rfl, h⟩
  · cases h
/-- try: body except x as n: return f(n) -/
def asTry (st : Stmt) (k : List Stmt → Str → Str → Str → Bool) : Bool := match st with
  | .Try body [.ExceptHandler (some (.Name x _)) (some n) [.Return (some (.Call (.Name f _) [.Name m _] [] _)) _] _] [] [] _ => decide (n = m) && k body x n f
  | _ => false
theorem asTry_eq {st : Stmt} {k : List Stmt → Str → Str → Str → Bool} (h : asTry st k = true) : ∃ body x np n f p1 p2 cpos rpos pos' pos, st = .Try body [.ExceptHandler (some (.Name x np)) (some n) [.Return (some (.Call (.Name f p1) [.Name n p2] [] cpos)) rpos] pos'] [] [] pos ∧ k body x n f = true := by
  unfold asTry at h
  split at h
  · rw [Bool.and_eq_true, decide_eq_true_eq] at h
    obtain ⟨rfl, h⟩ := h
    exact ⟨_, _, _, _, _, _, _, _, _, _, _, rfl, h⟩
  · cases h
/-- the tables, with the defs that tell errors apart, and whether the def changes what it is handed -/
structure Gs extends Gt where
  eh : List (Str × Nat)
def asNameP (p : Expr) (k : Str → Pos → Bool) : Bool := match p with
  | .Name x q => k x q
  | _ => false
theorem asNameP_eq {p : Expr} {k : Str → Pos → Bool} (h : asNameP p k = true) : ∃ x pos, p = .Name x pos ∧ k x pos = true := by
  unfold asNameP at h
  split at h
  · exact ⟨_, _, rfl, h⟩
  · cases h
def isLcE : E → Bool
  | .lc _ _ _ _ => true
  | _ => false
/-- name = [..] is stored ahead of the rest -/
def swB (sc : Sc) (x : Str) (xl : Nat) (v : Expr) : Bool := match v with
  | .ListComp _ _ s p => decide (sc.scope.kind = .function) && decide (sc.scope.names.lookup x = some .local) && (xl == p.line) && !(s.names.any fun (n, k) => n == x && (k == .local || k == .cell))
  | _ => false
/-- one error name in a try: its slot -/
def slotOf (sc : Sc) (n : Str) : Option Nat := (List.range sc.N.length).find? fun i => decide (sc.N[i]? = some n)
mutual
def chkS (G : Gs) (sc : Sc) (fr io : Bool) : S → Stmt → Bool
  | .set l i g e => fun st => asAsg st fun t v pos => asNameP t fun x xp => storeB sc i x && chkE G.toGt sc e none [v] && (g == 0 || (g == 1 && freshE G.toGt e)) && (!isComp v || (isLcE e && swB sc x xp.line v))
  | .put l i a e => fun st => asAsg st fun t v pos => asSub t fun o q => varB sc i o && tame q && chkE G.toGt sc e none [v] && chkE G.toGt sc a none [q]
  | .par l is es => fun st => asAsg st fun t v pos => asTup t fun ts => asTup v fun vs => as2 ts fun t1 t2 => asNameP t1 fun x xp => asNameP t2 fun y yp => as2 vs fun a b => !sc.hot && parB sc is x y xp yp a b && chkEs G.toGt sc es vs
  | .ex e => fun st => asExpr st fun p => chkE G.toGt sc e none [p] && !isComp p
  | .ifs t a b => fun st => asIf st fun p u w => chkT G.toGt sc t none [p] && chkSs G sc fr io a u && chkSs G sc fr io b w
  | .for_ l t it b => fun st => asFor st fun tg i u => !sc.hot && tame i && chkIt G.toGt sc it i && tgB sc t tg && chkSs G sc fr io b u
  | .ret l e => fun st => asRet st fun p => chkE G.toGt sc e none [p] && (!fr || freshE G.toGt e)
  | .retv i => fun st => asRet st fun p => varB sc i p
  | .retN => fun st => match st with | .Return none _ => true | _ => false
  | .raise n => fun st => asRaise st fun p => asCall p fun x qs => !sc.hot && qs.isEmpty && globB sc x && decide (G.errs.lookup x = some n) && decide (n < 5)
  | .try_ b m f => fun st => asTry st fun body x n fx => !sc.hot && !io && (m == 0) && globB sc x && decide (G.errs.lookup x = some 0) && decide (kindS sc n = some .local) && decide (n ∈ sc.N) && globB sc fx && decide (G.eh.lookup fx = some f) &&
      !(n == ("__debug__" : Str)) && !(n == ("__classdict__" : Str)) && chkSs G sc fr io b body
  | .brk => fun st => match st with | .Break _ => true | _ => false
  | .cont => fun st => match st with | .Continue _ => true | _ => false
  | .pass => fun st => match st with | .Pass _ => true | _ => false
  | _ => fun _ => false
def chkSs (G : Gs) (sc : Sc) (fr io : Bool) : Ss → List Stmt → Bool
  | .nil => fun sts => sts.isEmpty
  | .cons s ss => fun sts => match sts with | [] => false | st :: sts => chkS G sc fr io s st && chkSs G sc fr io ss sts
end
/-- where a statement is checked -/
structure Cs (X : Cx) (c : Fc) (G : Gs) (call : CallF) (sc : Sc) (lv : Nat) (io : Bool) : Prop extends Ck X c G.toGt call sc lv where
  tk : Takesx X (fun cls d _ H => c.E cls d H)
  po : PassesOwn (model X.prog X.w) X.A X.env X.xe
  stk : X.stack = X.env :: X.outer
  frm : X.env.frame = some X.env.locals
  zed : ∀ a, ¬ c.Z a
  plain : io = false → c.pr = [] ∧ ∀ a, ¬ c.F a
  eh : ∀ x i, G.eh.lookup x = some i → ∃ fa fd fps lv2, X.mg x = some (.ref fa) ∧ PySem.W.keepIn X.K (.ref fa) = true ∧ Binds X.K fd fps [] ∧ FnE X.prog X.w X.K X.mg X.base (CXx X.prog X.w) lv2 fa fd fps (spE c.k c.tb c.tl (call i)) ∧ L2H.RoomH lv2 X.A
  exm : ∀ e, e < 5 → PySem.W.exmOne X.K (c.k.xc e) (c.k.xc 0) = some true
  rais : ∀ e, e < 5 → Raises X (c.k.xc e)
section
variable {X : Cx} {c : Fc} {G : Gs} {call : CallF} {sc : Sc} {lv : Nat} {io : Bool}
theorem Cs.tr (k : Cs X c G call sc lv io) {E' : XK} {pn : List (Addr × Obj)} {xe : Value → Shared → Prop} (hot : sc.hot = false) (tk : Takesx (X.tr pn xe) (fun cls d _ H => E' cls d H)) (po : PassesOwn (model X.prog X.w) X.A X.env xe) : Cs (X.tr pn xe) { c with E := E' } G call sc lv io where
  N := k.N
  nd := k.nd
  scope := k.scope
  kx := ⟨k.kx.K, k.kx.w, k.kx.rt0⟩
  er := ⟨k.er.cls, k.er.kit, k.er.str, fun a v t h => (k.nopin hot a v t h).elim⟩
  calm := k.calm
  room := k.room
  room1 := k.room1
  tab := fun h => ⟨(k.tab h).tab, (k.tab h).tl⟩
  nopin := k.nopin
  units := k.units
  fn := k.fn
  funs := k.funs
  errs := k.errs
  err5 := k.err5
  consts := k.consts
  blts := k.blts
  pass := passesx tk
  tk := tk
  po := po
  stk := k.stk
  frm := k.frm
  zed := k.zed
  plain := k.plain
  eh := k.eh
  exm := k.exm
  rais := k.rais
theorem swaps_no {v : Expr} {t : Option Expr} {l : Nat} {env : PySem.Env} (h : isComp v = false) : swapsWith v t l env = pure false := by
  cases v <;> first | rfl | (simp [isComp] at h; done)
theorem assign_sub {o q : Expr} {p : Pos} {env : PySem.Env} (h : tame q = true) (v : Value) : assign (.Subscript o q p) env v = (do
      let ov ← holding [v] (eval o env)
      let iv ← holding [v, ov] (eval q env)
      standAt p
      holding [v, ov, iv] (setItem ov iv v)
      release [v, ov, iv] []) := by
  cases q <;> first | rfl | (simp [tame] at h; done)
theorem swaps_sub {v o q : Expr} {p : Pos} {l : Nat} {env : PySem.Env} : swapsWith v (some (.Subscript o q p)) l env = pure false := by
  cases v <;> rfl
theorem Ck.store (k : Ck X c G.toGt call sc lv) {i : Nat} {x : Str} (h : storeB sc i x = true) : X.N[i]? = some x ∧ Loc X.env.scope x ∧ (X.fn x = true ∨ X.env.scope.names.lookup x = some .local) := by
  obtain ⟨h1, h2⟩ := and3 h
  simp only [Bool.or_eq_true, Bool.and_eq_true, decide_eq_true_eq, kindS, ← k.scope] at h2
  refine ⟨by rw [k.N]; exact of_decide_eq_true h1, h2.imp id fun z => z.1, ?_⟩
  rcases h2 with h2 | ⟨h2, h3⟩
  · exact .inr h2
  · exact .inl (k.fn x h3)
end
end Cg
set_option Elab.async false
set_option linter.all false
set_option maxRecDepth 100000
set_option maxHeartbeats 4000000
namespace Cg
open PySem PySem.Spec PyProof.Rows L2 PySem.SeqAt
section
variable {X : Cx} {c : Fc} {G : Gs} {call : CallF} {sc : Sc} {lv : Nat} {io : Bool}
/-- the parts of a checked comprehension -/
theorem lc_parts (k : Ck X c G.toGt call sc lv) {t : Tg} {it : It} {cd : T} {e : E} {v : Expr} (h : chkE G.toGt sc (.lc t it cd e) none [v] = true) : ∃ q tg iter ifs s pos, v = .ListComp q [⟨tg, iter, ifs, 0⟩] s pos ∧ sc.hot = false ∧ itSlots it = [] ∧ PI X tg iter (tIt c (evalIt call it)) ∧
    LcOk X c tg q ifs s (namesT t) (fun ρ x => bindT ρ t x) (evalT call cd) (evalE call e) ∧ ∀ x, foldedSetIterable iter X.env x = pure x := by
  replace h := as1_eq (ps := [v]) (k := fun p => asComp p fun q tg iter ifs s => !sc.hot && tame iter && (itSlots it).isEmpty && chkIt G.toGt sc it iter && blkB sc s (namesT t) && tgB (sc.inn s) t tg && chkE G.toGt (sc.inn s) e none [q] && ifsB cd ifs fun q => chkT G.toGt (sc.inn s) cd none [q]) h
  obtain ⟨p, ep, h⟩ := h
  cases ep
  replace h := asComp_eq h; obtain ⟨q, tg, iter, ifs, s, pos, rfl, h⟩ := h
  obtain ⟨h, h8⟩ := and3 h
  obtain ⟨h, h7⟩ := and3 h
  obtain ⟨h, h6⟩ := and3 h
  obtain ⟨h, h5⟩ := and3 h
  obtain ⟨h, h4⟩ := and3 h
  obtain ⟨h, h3⟩ := and3 h
  obtain ⟨h1, h2⟩ := and3 h
  have hot : sc.hot = false := by simpa using h1
  refine ⟨q, tg, iter, ifs, s, pos, rfl, hot, List.isEmpty_iff.mp h3, chkIt_ok it k iter tg h4, ⟨blk_ok k h5, fun p s2 H a cl fp => tg_ok (k.inn hot) h6, fun p s2 H a cl fp => ?_, fun p s2 H a cl fp => (chkE_ok e (k.inn hot) none [q] h7 q rfl).lax⟩, folded_tame h2 _⟩
  unfold ifsB at h8
  split at h8
  · unfold isYes at h8
    split at h8
    · exact pts_nilS
    · cases h8
  · exact pts_one (chkT_ok cd (k.inn hot) none [_] h8 _ rfl)
  · cases h8
end
mutual
theorem chkS_ok {G : Gs} {call : CallF} {lv w : Nat} {fr io : Bool} : ∀ (s : S) {X : Cx} {c : Fc} {sc : Sc} (k : Cs X c G call sc lv io) (st : Stmt), chkS G sc fr io s st = true → PS X st (tSt c fr (evalS call w s))
  | .set l i g e, X, c, sc, k, st, h => by
    replace h := asAsg_eq h; obtain ⟨t, v, pos, rfl, h⟩ := h
    replace h := asNameP_eq h; obtain ⟨x, xp, rfl, h⟩ := h
    obtain ⟨h, h4⟩ := and3 h
    obtain ⟨h, h3⟩ := and3 h
    obtain ⟨h1, h2⟩ := and3 h
    obtain ⟨hi, hx, hf⟩ := k.toCk.store h1
    rw [Bool.or_eq_true] at h4
    rcases h4 with h4 | h4
    · rw [Bool.not_eq_true'] at h4
      refine ps_setS k.nd hi hx (chkE_ok e k.toCk none [v] h2 v rfl) ?_ (swaps_no h4) hf
      simpa using h3
    · obtain ⟨h4, h5⟩ := and3 h4
      cases e <;> first | (simp [isLcE] at h4; done) | skip
      obtain ⟨q, tg, iter, ifs, s, p2, rfl, hot, hs, hpi, ok, fs⟩ := lc_parts k.toCk h2
      obtain ⟨h5, h8⟩ := and3 (show (_ && _ && _ && _) = true from h5)
      obtain ⟨h5, h7⟩ := and3 h5
      obtain ⟨h5, h6⟩ := and3 h5
      have r := ps_setLcS (c := c) (fr := fr) (i := i) (g := g) (py := xp) (spos := pos) (pos := p2) (l := l) (k.calm hot) k.nd hi (by rw [k.scope]; exact of_decide_eq_true h6) ?_ (sw_true (by rw [k.scope]; exact of_decide_eq_true h5) (by rw [k.scope]; exact of_decide_eq_true h6) h7 (by rw [Bool.not_eq_true'] at h8; exact h8)) hpi ok fs
      · rw [← lc_eq hs] at r
        exact r
      · have z : (g == 0 || (g == 1 && true)) = true := h3
        simpa using z
  | .put l i a e, X, c, sc, k, st, h => by
    replace h := asAsg_eq h; obtain ⟨t, v, pos, rfl, h⟩ := h
    replace h := asSub_eq h; obtain ⟨o, q, tp, rfl, h⟩ := h
    obtain ⟨h, h3⟩ := and3 h
    obtain ⟨h, h2⟩ := and3 h
    obtain ⟨h1, h0⟩ := and3 h
    obtain ⟨x, xp, rfl, hp⟩ := k.toCk.var h1
    exact ps_putS hp (chkE_ok e k.toCk none [v] h2 v rfl) (chkE_ok a k.toCk none [q] h3 q rfl) (show swapsWith v (some (.Subscript (.Name x xp) q tp)) pos.line X.env = pure false from swaps_sub) rfl rfl (assign_sub h0)
  | .par l is es, X, c, sc, k, st, h => by
    replace h := asAsg_eq h; obtain ⟨t, v, pos, rfl, h⟩ := h
    replace h := asTup_eq h; obtain ⟨ts, n1, p1, rfl, h⟩ := h
    replace h := asTup_eq h; obtain ⟨vs, n2, p2, rfl, h⟩ := h
    replace h := as2_eq h; obtain ⟨t1, t2, rfl, h⟩ := h
    replace h := asNameP_eq h; obtain ⟨x, xp, rfl, h⟩ := h
    replace h := asNameP_eq h; obtain ⟨y, yp, rfl, h⟩ := h
    replace h := as2_eq h; obtain ⟨a, b, rfl, h⟩ := h
    obtain ⟨h, h3⟩ := and3 h
    obtain ⟨h1, h2⟩ := and3 h
    have hot : sc.hot = false := by simpa using h1
    unfold parB at h2
    split at h2
    · rename_i i j
      obtain ⟨h2, g12⟩ := and3 h2
      obtain ⟨h2, g11⟩ := and3 h2
      obtain ⟨h2, g10⟩ := and3 h2
      obtain ⟨h2, g9⟩ := and3 h2
      obtain ⟨h2, g8⟩ := and3 h2
      obtain ⟨h2, g7⟩ := and3 h2
      obtain ⟨h2, g6⟩ := and3 h2
      obtain ⟨h2, g5⟩ := and3 h2
      obtain ⟨h2, g4⟩ := and3 h2
      obtain ⟨h2, g3⟩ := and3 h2
      obtain ⟨g1, g2⟩ := and3 h2
      rw [Bool.not_eq_true'] at g8 g9 g10 g11 g12
      have kx : X.env.scope.names.lookup x = some .local := by rw [k.scope]; exact of_decide_eq_true g4
      have ky : X.env.scope.names.lookup y = some .local := by rw [k.scope]; exact of_decide_eq_true g5
      exact ps_parS (k.calm hot) k.nd (by rw [k.N]; exact of_decide_eq_true g1) (by rw [k.N]; exact of_decide_eq_true g2) (of_decide_eq_true g3) kx ky (chkEs_ok es k.toCk [a, b] h3)
        (par_sw (by rw [k.scope]; exact of_decide_eq_true g6) kx ky (of_decide_eq_true g7) g8 g9 g10 g11 g12)
    · cases h2
  | .ex e, X, c, sc, k, st, h => by
    replace h := asExpr_eq h; obtain ⟨p, pos, rfl, h⟩ := h
    obtain ⟨h1, h2⟩ := and3 h
    rw [Bool.not_eq_true'] at h2
    exact ps_exprS (chkE_ok e k.toCk none [p] h1 p rfl) (swaps_no h2)
  | .ifs t a b, X, c, sc, k, st, h => by
    replace h := asIf_eq h; obtain ⟨p, u, w2, pos, rfl, h⟩ := h
    obtain ⟨h, h3⟩ := and3 h
    obtain ⟨h1, h2⟩ := and3 h
    exact ps_ifS (chkT_ok t k.toCk none [p] h1 p rfl) (chkSs_ok a k u h2) (chkSs_ok b k w2 h3)
  | .for_ l t it b, X, c, sc, k, st, h => by
    replace h := asFor_eq h; obtain ⟨tg, i, u, pos, rfl, h⟩ := h
    obtain ⟨h, h5⟩ := and3 h
    obtain ⟨h, h4⟩ := and3 h
    obtain ⟨h, h3⟩ := and3 h
    obtain ⟨h1, h2⟩ := and3 h
    have hot : sc.hot = false := by simpa using h1
    exact ps_forS k.po (k.calm hot) (chkIt_ok it k.toCk i tg h3) (tg_ok k.toCk h4) (chkSs_ok b k u h5) (folded_tame h2 _)
  | .ret l e, X, c, sc, k, st, h => by
    replace h := asRet_eq h; obtain ⟨p, pos, rfl, h⟩ := h
    obtain ⟨h1, h2⟩ := and3 h
    exact ps_retS (chkE_ok e k.toCk none [p] h1 p rfl) fun z => by
      rw [z] at h2
      simpa using h2
  | .retv i, X, c, sc, k, st, h => by
    replace h := asRet_eq h; obtain ⟨p, pos, rfl, h⟩ := h
    obtain ⟨x, xp, rfl, hp⟩ := k.toCk.var h
    exact ps_retvS hp
  | .retN, X, c, sc, k, st, h => by
    have z : ∃ pos, st = .Return none pos := by
      simp only [chkS] at h
      split at h
      · exact ⟨_, rfl⟩
      · cases h
    obtain ⟨pos, rfl⟩ := z
    exact ps_retNS
  | .raise n, X, c, sc, k, st, h => by
    replace h := asRaise_eq h; obtain ⟨p, pos, rfl, h⟩ := h
    replace h := asCall_eq h; obtain ⟨x, xp, qs, cp, rfl, h⟩ := h
    obtain ⟨h, h5⟩ := and3 h
    obtain ⟨h, h4⟩ := and3 h
    obtain ⟨h, h3⟩ := and3 h
    obtain ⟨h1, h2⟩ := and3 h
    have hot : sc.hot = false := by simpa using h1
    have hn := of_decide_eq_true h5
    obtain ⟨hg, hd⟩ := k.toCk.glob h3
    obtain ⟨C, bmB, B, ni, ii, hm, ex, kp, Fx, q⟩ := k.errs x n (of_decide_eq_true h4) hn
    have qs0 : qs = [] := List.isEmpty_iff.mp h2
    subst qs0
    have rr := k.rais n hn
    rw [ex] at rr
    refine (ps_raisex (k.calm hot) k.tk (pmx_own0 Fx q hm kp rr hg hd)).weak fun DD σ H ⟨O, ρ, R, z⟩ t ht => ?_
    have z : c.exits n := z
    have R1 := R.laid (o := .tup []) ht
    have o := z none (upd H t (.tup [])) ⟨R1.ent, R1.tbl, R1.tabs⟩
    rw [ex] at o
    exact o
  | .try_ b m f, X, c, sc, k, st, h => by
    replace h := asTry_eq h; obtain ⟨body, x, np, n, fx, p1, p2, cpos, rpos, pos', pos, rfl, h⟩ := h
    obtain ⟨h, h12⟩ := and3 h
    obtain ⟨h, h11⟩ := and3 h
    obtain ⟨h, h10⟩ := and3 h
    obtain ⟨h, h9⟩ := and3 h
    obtain ⟨h, h8⟩ := and3 h
    obtain ⟨h, h7⟩ := and3 h
    obtain ⟨h, h6⟩ := and3 h
    obtain ⟨h, h5⟩ := and3 h
    obtain ⟨h, h4⟩ := and3 h
    obtain ⟨h, h3⟩ := and3 h
    obtain ⟨h1, h2⟩ := and3 h
    have hot : sc.hot = false := by simpa using h1
    have hio : io = false := by simpa using h2
    have hm0 : m = 0 := beq_iff_eq.mp h3
    subst hm0
    obtain ⟨hpr, hF⟩ := k.plain hio
    obtain ⟨hg, hd⟩ := k.toCk.glob h4
    obtain ⟨hg2, hd2⟩ := k.toCk.glob h8
    obtain ⟨C, bmB, B, ni, ii, hm, ex, kp, Fx, q⟩ := k.errs x 0 (of_decide_eq_true h5) (by omega)
    obtain ⟨fa, fd, fps, lv2, hm2, kp2, bd, Fn, room⟩ := k.eh fx f (of_decide_eq_true h9)
    have hn : n ∈ sc.N := of_decide_eq_true h7
    obtain ⟨i, hi⟩ := List.mem_iff_getElem?.mp hn
    have hl : X.env.kindOf n = some .local := by
      show X.env.scope.names.lookup n = _
      rw [k.scope]
      exact of_decide_eq_true h6
    rw [Bool.not_eq_true'] at h10 h11
    have r := ps_tryS (fr := fr) (cv := .ref C) (i := i) (B := evalSs call w b) (f := call f) (np := np) (p1 := p1) (p2 := p2) (cpos := cpos) (rpos := rpos) (pos := pos) (pos' := pos') k.stk k.frm k.nd (by rw [k.N]; exact hi) hl ⟨hg, hd, .inl hm⟩ (fun e he => by rw [← ex]; exact k.exm e he) hpr hF k.zed
      (fun E' pn xe tk po => chkSs_ok b (k.tr hot tk po) body h12) Fn room hg2 hm2 kp2 bd hd2 h10 h11
    have q : evalS call w (.try_ b 0 f) = tryR (evalSs call w b) (call f) := by
      funext ρ
      simp only [evalS, tryR]
      cases evalSs call w b ρ with
      | bad => rfl
      | ok p => obtain ⟨kk, ρ2⟩ := p; cases kk <;> rfl
      | exc e =>
        by_cases he : e < 5
        · simp only [Nat.reduceEqDiff, if_false, he, if_true]
          try
            cases call f [.exc e] with
            | ok p => obtain ⟨d, o⟩ := p; cases d <;> rfl
            | _ => rfl
        · simp only [he, if_false]
    rw [q]
    exact r
  | .brk, X, c, sc, k, st, h => by
    have z : ∃ pos, st = .Break pos := by
      simp only [chkS] at h
      split at h
      · exact ⟨_, rfl⟩
      · cases h
    obtain ⟨pos, rfl⟩ := z
    exact ps_break.weak fun DD σ H ⟨O, ρ, R, z⟩ => z O σ H R (Stay.refl _ _)
  | .cont, X, c, sc, k, st, h => by
    have z : ∃ pos, st = .Continue pos := by
      simp only [chkS] at h
      split at h
      · exact ⟨_, rfl⟩
      · cases h
    obtain ⟨pos, rfl⟩ := z
    exact ps_continue.weak fun DD σ H ⟨O, ρ, R, z⟩ => z O σ H R (Stay.refl _ _)
  | .pass, X, c, sc, k, st, h => by
    have z : ∃ pos, st = .Pass pos := by
      simp only [chkS] at h
      split at h
      · exact ⟨_, rfl⟩
      · cases h
    obtain ⟨pos, rfl⟩ := z
    exact ps_pass.weak fun DD σ H ⟨O, ρ, R, z⟩ => z O σ H R (Stay.refl _ _)
  | .swap _ _ _ _ _, _, _, _, _, _, h => by cases h
  | .unpack _ _ _, _, _, _, _, _, h => by cases h
  | .aug _ _ _, _, _, _, _, _, h => by cases h
  | .putd _ _ _ _, _, _, _, _, _, h => by cases h
  | .put2 _ _ _ _ _, _, _, _, _, _, h => by cases h
  | .app _ _ _, _, _, _, _, _, h => by cases h
  | .app2 _ _ _ _, _, _, _, _, _, h => by cases h
  | .ext _ _ _, _, _, _, _, _, h => by cases h
  | .ins _ _ _ _, _, _, _, _, _, h => by cases h
  | .rem _ _, _, _, _, _, _, h => by cases h
  | .while_ _ _, _, _, _, _, _, h => by cases h
theorem chkSs_ok {G : Gs} {call : CallF} {lv w : Nat} {fr io : Bool} : ∀ (ss : Ss) {X : Cx} {c : Fc} {sc : Sc} (k : Cs X c G call sc lv io) (sts : List Stmt), chkSs G sc fr io ss sts = true → PSs X sts (tSt c fr (evalSs call w ss))
  | .nil, X, c, sc, k, sts, h => by
    cases sts with
    | nil => exact pss_nilS
    | cons a b => cases h
  | .cons s ss, X, c, sc, k, sts, h => by
    cases sts with
    | nil => cases h
    | cons st sts =>
      obtain ⟨h1, h2⟩ := and3 (show (chkS G sc fr io s st && chkSs G sc fr io ss sts) = true from h)
      exact pss_consS (chkS_ok s k st h1) (chkSs_ok ss k sts h2)
end
end Cg
set_option Elab.async false
set_option linter.all false
set_option maxRecDepth 100000
set_option maxHeartbeats 4000000
namespace Cg
open PySem PySem.Spec PyProof.Rows L2 PySem.SeqAt
/-! ### a def's start and end -/
def prOf : Nat → List Bool → List Addr → List (Nat × Addr)
  | _, [], _ => []
  | i, false :: ps, rs => prOf (i + 1) ps rs
  | i, true :: ps, r :: rs => (i, r) :: prOf (i + 1) ps rs
  | _, true :: _, [] => []
def ownOf (pr : List (Nat × Addr)) : Ow := fun a => (pr.find? fun p => decide (p.2 = a)).map (·.1)
theorem ownOf_mem {pr : List (Nat × Addr)} {a : Addr} {i : Nat} (h : ownOf pr a = some i) : (i, a) ∈ pr := by
  unfold ownOf at h
  cases q : pr.find? fun p => decide (p.2 = a) with
  | none => rw [q] at h; cases h
  | some p =>
    rw [q] at h
    have e : p.1 = i := by simpa using h
    have m := List.mem_of_find?_eq_some q
    have z := List.find?_some q
    simp only [decide_eq_true_eq] at z
    rw [← e, ← z]
    exact m
theorem ownOf_of {pr : List (Nat × Addr)} (n : (pr.map (·.2)).Nodup) {p : Nat × Addr} (h : p ∈ pr) : ownOf pr p.2 = some p.1 := by
  unfold ownOf
  induction pr with
  | nil => cases h
  | cons x xs ih =>
    rw [List.map_cons, List.nodup_cons] at n
    rw [List.find?_cons]
    rcases List.mem_cons.mp h with z | z
    · subst z
      simp
    · have ne : x.2 ≠ p.2 := fun e => n.1 (by rw [e]; exact List.mem_map.mpr ⟨p, z, rfl⟩)
      rw [decide_eq_false ne]
      exact ih n.2 z
section
variable {k : Kx} {A : Addr → Prop} {H : Hp}
theorem prOf_rs : ∀ {ps : List Bool} {ds : List D} {vs : List V} {rs : List Addr} (i : Nat), Args k A H ps ds vs rs → (prOf i ps rs).map (·.2) = rs
  | [], _, _, _, i, ⟨_, _, e⟩ => by rw [e]; rfl
  | false :: ps, _, _, _, i, ⟨d, e, v, u, _, _, _, t⟩ => prOf_rs (i + 1) t
  | true :: ps, _, _, _, i, ⟨d, e, u, r, s, _, _, h, _, t⟩ => by
    subst h
    show r :: (prOf (i + 1) ps s).map (·.2) = r :: s
    rw [prOf_rs (i + 1) t]
theorem Args.dlen : ∀ {ps : List Bool} {ds : List D} {vs : List V} {rs : List Addr}, Args k A H ps ds vs rs → ds.length = ps.length
  | [], _, _, _, ⟨e, _, _⟩ => by rw [e]; rfl
  | false :: ps, _, _, _, ⟨d, e, v, u, h, _, _, t⟩ => by rw [h, List.length_cons, t.dlen]; rfl
  | true :: ps, _, _, _, ⟨d, e, u, r, s, h, _, _, _, t⟩ => by rw [h, List.length_cons, t.dlen]; rfl
theorem Args.own : ∀ {ps : List Bool} {ds : List D} {vs : List V} {rs : List Addr}, Args k A H ps ds vs rs → ∀ r ∈ rs, ∃ d, OwnA k A H r d
  | [], _, _, _, ⟨_, _, e⟩ => fun r hr => by rw [e] at hr; cases hr
  | false :: ps, _, _, _, ⟨d, e, v, u, h, _, _, t⟩ => t.own
  | true :: ps, _, _, _, ⟨d, e, u, r, s, _, _, h, o, t⟩ => fun x hx => by
    rw [h] at hx
    rcases List.mem_cons.mp hx with z | z
    · rw [z]; exact ⟨d, o⟩
    · exact t.own x z
def slotsOf (ds : List D) (ps : List Bool) : Env := List.zipWith (fun d b => some (d, if b then 3 else 0)) ds ps
theorem Args.slot : ∀ {ps : List Bool} {ds : List D} {vs : List V} {rs : List Addr} (i j : Nat) {d : D} {g : Nat}, Args k A H ps ds vs rs → (slotsOf ds ps)[j]? = some (some (d, g)) →
    ∃ v, vs[j]? = some v ∧ ((g = 0 ∧ Rep k A H d v) ∨ (g = 3 ∧ ∃ r, v = .ref r ∧ (i + j, r) ∈ prOf i ps rs ∧ OwnA k A H r d))
  | [], _, _, _, i, j, _, _, ⟨e, _, _⟩, h => by subst e; simp [slotsOf] at h
  | false :: ps, _, _, _, i, j, d', g, ⟨d, e, v, u, h1, h2, hr, t⟩, h => by
    subst h1 h2
    cases j with
    | zero =>
      have h : some (some (d, 0)) = some (some (d', g)) := h
      cases h
      exact ⟨v, rfl, .inl ⟨rfl, hr⟩⟩
    | succ j =>
      have h : (slotsOf e ps)[j]? = some (some (d', g)) := h
      obtain ⟨w, e1, e2⟩ := Args.slot (i + 1) j t h
      rw [show i + (j + 1) = i + 1 + j by omega]
      exact ⟨w, e1, e2⟩
  | true :: ps, _, _, _, i, j, d', g, ⟨d, e, u, r, s, h1, h2, h3, ho, t⟩, h => by
    subst h1 h2 h3
    cases j with
    | zero =>
      have h : some (some (d, 3)) = some (some (d', g)) := h
      cases h
      exact ⟨.ref r, rfl, .inr ⟨rfl, r, rfl, List.mem_cons_self, ho⟩⟩
    | succ j =>
      have h : (slotsOf e ps)[j]? = some (some (d', g)) := h
      obtain ⟨w, e1, e2⟩ := Args.slot (i + 1) j t h
      rw [show i + (j + 1) = i + 1 + j by omega]
      exact ⟨w, e1, e2.imp id fun ⟨z1, r', z2, z3, z4⟩ => ⟨z1, r', z2, List.mem_cons_of_mem _ z3, z4⟩⟩
theorem Args.par : ∀ {ps : List Bool} {ds : List D} {vs : List V} {rs : List Addr} (i : Nat), Args k A H ps ds vs rs → ∀ p ∈ prOf i ps rs, ∃ j, p.1 = i + j ∧ (∃ d, (slotsOf ds ps)[j]? = some (some (d, 3))) ∧ vs[j]? = some (.ref p.2)
  | [], _, _, _, i, ⟨_, _, _⟩ => fun p hp => by cases hp
  | false :: ps, _, _, _, i, ⟨d, e, v, u, h1, h2, hr, t⟩ => fun p hp => by
    subst h1 h2
    obtain ⟨j, e1, e2, e3⟩ := Args.par (i + 1) t p hp
    exact ⟨j + 1, by omega, e2, e3⟩
  | true :: ps, _, _, _, i, ⟨d, e, u, r, s, h1, h2, h3, ho, t⟩ => fun p hp => by
    subst h1 h2 h3
    rcases List.mem_cons.mp hp with z | z
    · subst z
      exact ⟨0, rfl, ⟨d, rfl⟩, rfl⟩
    · obtain ⟨j, e1, e2, e3⟩ := Args.par (i + 1) t p z
      exact ⟨j + 1, by omega, e2, e3⟩
theorem outs_ok {B : Addr → Prop} {H' : Hp} {ρ : Env} : ∀ {ps : List Bool} {ds : List D} {vs : List V} {rs : List Addr} (i : Nat), Args k A H ps ds vs rs → (∀ p ∈ prOf i ps rs, ∃ d, ρ[p.1]? = some (some (d, 3)) ∧ (d.isMut = true → OwnA k B H' p.2 d)) → (outsOf ps (ρ.drop i)).all D.isMut = true → Outs k B H' (outsOf ps (ρ.drop i)) rs
  | [], _, _, _, i, ⟨_, _, e⟩, _, _ => by rw [e]; rfl
  | false :: ps, _, _, _, i, ⟨d, e, v, u, h1, h2, hr, t⟩, h, hm => by
    have e : outsOf (false :: ps) (ρ.drop i) = outsOf ps (ρ.drop (i + 1)) := by
      by_cases hl : i < ρ.length
      · rw [List.drop_eq_getElem_cons hl]
        rfl
      · rw [List.drop_eq_nil_of_le (by omega), List.drop_eq_nil_of_le (by omega)]
        cases ps <;> rfl
    rw [e] at hm ⊢
    exact outs_ok (i + 1) t h hm
  | true :: ps, _, _, _, i, ⟨d, e, u, r, s, h1, h2, h3, ho, t⟩, h, hm => by
    subst h3
    obtain ⟨d', e1, e2⟩ := h (i, r) List.mem_cons_self
    obtain ⟨hl, e1⟩ := List.getElem?_eq_some_iff.mp e1
    have e : outsOf (true :: ps) (ρ.drop i) = d' :: outsOf ps (ρ.drop (i + 1)) := by
      rw [List.drop_eq_getElem_cons hl, e1]
      rfl
    rw [e] at hm ⊢
    rw [List.all_cons, Bool.and_eq_true] at hm
    exact ⟨r, s, rfl, e2 hm.1, outs_ok (i + 1) t (fun p hp => h p (List.mem_cons_of_mem _ hp)) hm.2⟩
end
/-- a def's frame of what stays -/
def fcOf (k : Kx) (tb : List Addr) (tl : List (Addr × Str)) (A : Addr → Prop) (H : Hp) (E : XK) (ps : List Bool) (rs : List Addr) : Fc := ⟨k, H, A, fun a => a ∈ rs, prOf 0 ps rs, tb, tl, E, fun _ => False⟩
theorem rel_start {k : Kx} {tb : List Addr} {tl : List (Addr × Str)} {A : Addr → Prop} {H : Hp} {E : XK} {ps : List Bool} {ds : List D} {vs : List V} {rs : List Addr} {N : List Str} {n : Nat} (a : Args k A H ps ds vs rs) (nd : rs.Nodup) (na : ∀ r ∈ rs, ¬ A r) (t : TabsK tb tl H) (hn : N.length = n) (hp : ps.length ≤ n) :
    Rel (fcOf k tb tl A H E ps rs) (ownOf (prOf 0 ps rs)) (slotsOf ds ps ++ List.replicate (n - ps.length) none) (L2.start N vs) H := by
  have nd2 : ((prOf 0 ps rs).map (·.2)).Nodup := by rw [prOf_rs 0 a]; exact nd
  have inrs : ∀ {b i}, ownOf (prOf 0 ps rs) b = some i → b ∈ rs := fun {b i} h => by
    rw [← prOf_rs 0 a]
    exact List.mem_map.mpr ⟨_, ownOf_mem h, rfl⟩
  have hal : ∀ b, A b → Al (fcOf k tb tl A H E ps rs) (ownOf (prOf 0 ps rs)) b := fun b hb => by
    refine ⟨?_, id, .inl hb⟩
    cases q : ownOf (prOf 0 ps rs) b with
    | none => rfl
    | some i => exact absurd hb (na b (inrs q))
  have sl : (slotsOf ds ps).length = ps.length := by
    unfold slotsOf
    rw [List.length_zipWith, a.dlen, Nat.min_self]
  have at_ : ∀ {j d g}, (slotsOf ds ps ++ List.replicate (n - ps.length) none)[j]? = some (some (d, g)) → (slotsOf ds ps)[j]? = some (some (d, g)) := fun {j d g} h => by
    by_cases hj : j < (slotsOf ds ps).length
    · rw [List.getElem?_append_left hj] at h; exact h
    · rw [List.getElem?_append_right (by omega), List.getElem?_replicate] at h
      split at h <;> cases h
  have vat : ∀ {j v}, vs[j]? = some v → (L2.start N vs)[j]? = some (some v) := fun {j v} h => by
    obtain ⟨hj, h⟩ := List.getElem?_eq_some_iff.mp h
    unfold L2.start
    rw [List.getElem?_append_left (by simpa using hj), List.getElem?_map, List.getElem?_eq_getElem hj, h]
    rfl
  refine ⟨?_, fun j d g h => ?_, fun b i h => ?_, fun b i h => .inl (inrs h), fun b o h _ _ => h, fun b ps h => ⟨#[], by rw [show H b = some (HO.tbl ps) from h]; simp⟩, fun b h => ?_, fun p hp => ?_, t, fun b h => h.elim, fun b h => h.elim⟩
  · unfold L2.start
    rw [List.length_append, List.length_append, sl, List.length_replicate, List.length_replicate, List.length_map, a.len, hn]
  · obtain ⟨v, e1, e2⟩ := Args.slot 0 j a (at_ h)
    refine ⟨v, vat e1, ?_⟩
    rcases e2 with ⟨rfl, r⟩ | ⟨rfl, r, rfl, m, o⟩
    · unfold SlotOk
      rw [if_pos rfl]
      exact Rep.mono hal _ _ r
    · rw [Nat.zero_add] at m
      exact (o.toOwn hal (ownOf_of nd2 m)).ofG rfl
  · obtain ⟨d, o⟩ := a.own b (inrs h)
    exact o.dom
  · have m : b ∈ (prOf 0 ps rs).map (·.2) := by rw [prOf_rs 0 a]; exact h
    obtain ⟨p, hp, e⟩ := List.mem_map.mp m
    have z := ownOf_of nd2 hp
    rw [e] at z
    exact ⟨p.1, z, by rw [← e]; exact hp⟩
  · obtain ⟨j, e1, ⟨d, e2⟩, e3⟩ := Args.par 0 a p hp
    rw [Nat.zero_add] at e1
    refine ⟨⟨d, ?_⟩, by rw [e1]; exact vat e3, ownOf_of nd2 hp⟩
    rw [e1, List.getElem?_append_left (List.getElem?_eq_some_iff.mp e2).1]
    exact e2
/-- what is handed back -/
theorem back_of {k : Kx} {tb : List Addr} {tl : List (Addr × Str)} {A : Addr → Prop} {H H' : Hp} {E : XK} {ps : List Bool} {ds : List D} {vs : List V} {rs : List Addr} {fr : Bool} {d : D} {v : V} {O : Ow} {ρ : Env} {σ : L2.St} (a : Args k A H ps ds vs rs) (hm : (outsOf ps ρ).all D.isMut = true) (r : Res fr (fcOf k tb tl A H E ps rs) H O ρ σ H' d v) :
    Back k tb tl A rs H fr d (outsOf ps ρ) v H' := by
  have R := r.rel
  have hB : ∀ b, Al (fcOf k tb tl A H E ps rs) O b → (A b ∨ H b = none) := fun b z => z.2.2
  have outs : ∀ {O2 : Ow} {B : Addr → Prop}, Rel (fcOf k tb tl A H E ps rs) O2 ρ σ H' → (∀ b, Al (fcOf k tb tl A H E ps rs) O2 b → B b) → Outs k B H' (outsOf ps ρ) rs := fun {O2 B} R2 hb => by
    have q := outs_ok (k := k) (A := A) (H := H) (B := B) (H' := H') (ρ := ρ) 0 a fun p hp => by
      obtain ⟨⟨d2, e1⟩, e2, e3⟩ := R2.par p hp
      obtain ⟨u, f1, f2⟩ := R2.slot p.1 d2 3 e1
      rw [e2] at f1
      cases f1
      have ow := f2.ownG rfl
      refine ⟨d2, e1, fun m2 => ?_⟩
      cases d2 <;> first | (simp [D.isMut] at m2; done) | skip
      · obtain ⟨a2, vs2, g1, g2, g3, g4⟩ := ow
        cases g1
        exact ⟨vs2, g3, Reps.mono hb _ _ g4⟩
      · obtain ⟨a2, vs2, g1, g2, g3, g4⟩ := ow
        cases g1
        exact ⟨vs2, g3, Repk.mono hb _ _ g4⟩
    rw [List.drop_zero] at q
    exact q hm
  refine ⟨⟨fun b o h n m => R.ent b o h n m, R.tbl⟩, R.tabs, Rep.mono hB _ _ r.rep, outs R hB, fun hf hm2 => ?_⟩
  obtain ⟨b, e1, e2, e3, e4, e5⟩ := r.fr hf hm2
  obtain ⟨R2, ow⟩ := e5 0
  have hb2 : ∀ x, Al (fcOf k tb tl A H E ps rs) (setO O b 0) x → (A x ∨ H x = none) ∧ x ≠ b := fun x z => ⟨z.2.2, fun q => by
    have := z.1
    rw [q, setO_same] at this
    cases this⟩
  rw [e1] at ow
  refine ⟨b, e1, e3, ?_, outs R2 hb2⟩
  cases d <;> first | (simp [D.isMut] at hm2; done) | skip
  · obtain ⟨a2, vs2, g1, g2, g3, g4⟩ := ow
    cases g1
    exact ⟨vs2, g3, Reps.mono hb2 _ _ g4⟩
  · obtain ⟨a2, vs2, g1, g2, g3, g4⟩ := ow
    cases g1
    exact ⟨vs2, g3, Repk.mono hb2 _ _ g4⟩
end Cg
set_option Elab.async false
set_option linter.all false
set_option maxRecDepth 100000
set_option maxHeartbeats 4000000
namespace Cg
open PySem PySem.Spec PyProof.Rows L2 PySem.SeqAt
/-! ### one def, by the defs it calls -/
/-- what holds of the module's names, whatever def runs -/
structure Gx (P : Program) (w : World) (K : PySem.W.Frag) (mg : Str → Option Value) (base : Heap) (k : Kx) (tb : List Addr) (tl : List (Addr × Str)) (G : Gs) (call : CallF) (lv : Nat) : Prop where
  kK : K = k.K
  kw : w = k.w
  rt0 : ∀ d, k.rt d = reprT d
  cls : ∀ e, e < 5 → ∃ C, k.xc e = .ref C ∧ L2.ExcC K C
  kit : ∀ e c, e < 5 → c < 6 → PySem.W.kitOne K (k.xc e) (k.xc c) = some (c == e || c == 0 || c == 5)
  str : ∀ e, e < 5 → PySem.W.findIn K (k.xc e) "__str__" = some (some (.builtin "BaseException.__str__"))
  funs : ∀ x i, G.funs.lookup x = some i → ∃ f fd ps, mg x = some (.ref f) ∧ PySem.W.keepIn K (.ref f) = true ∧ Binds K fd ps [] ∧ FnOk P w K mg base (CXx P w) lv f fd ps (spF k tb tl (G.fr i) (G.mask i) (call i))
  errs : ∀ x n, G.errs.lookup x = some n → n < 5 → ∃ C bmB B newId initId, mg x = some (.ref C) ∧ k.xc n = .ref C ∧ PySem.W.keepIn K (.ref C) = true ∧ ExcBaseFacts B newId initId bmB ∧ PySem.W.excIn K C bmB newId = true
  err5 : k.xc 5 = .type "ValueError"
  consts : ∀ x d, G.consts.lookup x = some d → ∃ v u, scalD d = some v ∧ mg x = some u ∧ RelV v u
  blts : ∀ x, x ∈ G.blts → mg x = none
  eh : ∀ x i, G.eh.lookup x = some i → ∃ fa fd fps, mg x = some (.ref fa) ∧ PySem.W.keepIn K (.ref fa) = true ∧ Binds K fd fps [] ∧ FnE P w K mg base (CXx P w) lv fa fd fps (spE k tb tl (call i))
  exm : ∀ e, e < 5 → PySem.W.exmOne K (k.xc e) (k.xc 0) = some true
  sub : ∀ e, e < 5 → PySem.W.subIn K (k.xc e) (.type "BaseException") = some true ∧ PySem.W.typeIn K (k.xc e) = some (.type "type")
section
variable {P : Program} {w : World} {K : PySem.W.Frag} {mg : Str → Option Value} {base : Heap} {k : Kx} {tb : List Addr} {tl : List (Addr × Str)} {G : Gs} {call : CallF} {lv : Nat}
theorem noRs {A : Addr → Prop} {H : Hp} : ∀ {ps : List Bool} {ds : List D} {vs : List V} {rs : List Addr}, Args k A H ps ds vs rs → ps.any id = false → rs = []
  | [], _, _, _, ⟨_, _, e⟩, _ => e
  | false :: ps, _, _, _, ⟨d, e, v, u, _, _, _, t⟩, h => noRs t (by simpa using h)
  | true :: ps, _, _, _, _, h => by simp at h
theorem Gx.cs (g : Gx P w K mg base k tb tl G call lv) (np : ∀ a v t, ¬ k.pin a v t) {sc : Sc} {fn : Fn} {qual : Str} {f : Addr} {cdv : Value} {A0 : Around} {outer : List PySem.Env} {s : Shared} {H : Hp} {E : XK} {A : Addr → Prop} {ds : List D} {vs : List V} {rs : List Addr} {ps : List Str} (S : FnScope sc.N ps sc.scope) (hot : sc.hot = false)
    (room1 : Room (lv + 1) (A0.deeper (envOfC qual sc.scope s.heap.objs.size f cdv))) (tab : sc.gx = true → tl = [] ∧ ∃ cc P, GxR.TabB base mg cc P ∧ cdv = .ref cc ∧ P ∈ tb) (a : Args k A H fn.ps ds vs rs) : Cs (cxOf (CXx P w) P w K mg base sc.N qual sc.scope f cdv A0 outer s H E) (fcOf k tb tl A H E fn.ps rs) G call sc lv (fn.ps.any id) where
  N := rfl
  nd := S.nd
  scope := rfl
  kx := ⟨g.kK, g.kw, g.rt0⟩
  er := ⟨g.cls, g.kit, g.str, fun a v t h => (np a v t h).elim⟩
  calm := fun _ => rfl
  room := fun _ => room1.mono (Nat.le_succ _)
  room1 := fun _ => room1
  tab := fun h => ⟨(tab h).2, (tab h).1⟩
  nopin := fun _ => np
  units := by
    have := room1.un
    show (A0.deeper (envOfC qual sc.scope s.heap.objs.size f cdv)).units + 66 < cLine
    omega
  fn := fun _ _ => rfl
  funs := g.funs
  errs := g.errs
  err5 := g.err5
  consts := g.consts
  blts := g.blts
  pass := passesx (takesx_of rfl rfl rfl rfl)
  tk := takesx_of rfl rfl rfl rfl
  po := passes_of rfl
  stk := rfl
  frm := rfl
  zed := fun _ => id
  plain := fun h => by
    have e := noRs a h
    subst e
    refine ⟨?_, fun a m => by cases m⟩
    have q := prOf_rs 0 a
    show prOf 0 fn.ps [] = []
    cases z : prOf 0 fn.ps [] with
    | nil => rfl
    | cons x xs => rw [z] at q; cases q
  eh := fun x i h => by
    obtain ⟨fa, fd, fps, e1, e2, e3, e4⟩ := g.eh x i h
    exact ⟨fa, fd, fps, lv, e1, e2, e3, e4, L2H.roomH_of (room1.mono (Nat.le_succ _))⟩
  exm := g.exm
  rais := fun e h => raises_own (g.sub e h).1 (g.sub e h).2
/-- the body's reading holds, by what the promise asks -/
theorem body_of {fn : Fn} {N : List Str} {w0 : Nat} {vs : List V} {H : Hp} {Q : VK} {E : XK} {A : Addr → Prop} {ds : List D} {rs : List Addr} (a : Args k A H fn.ps ds vs rs) (nd : rs.Nodup) (na : ∀ r ∈ rs, ¬ A r) (t : TabsK tb tl H) (hn : N.length = fn.n) (hp : fn.ps.length ≤ fn.n)
    (z : match runF call w0 fn ds with
      | .ok (d, outs) => ∀ v H', Back k tb tl A rs H fn.fresh d outs v H' → Q v H'
      | .exc e => ∀ dx H', FrA rs H H' → TabsK tb tl H' → E (k.xc e) dx H'
      | .bad => False) : tSt (fcOf k tb tl A H E fn.ps rs) fn.fresh (evalSs call w0 fn.body) { nx := fun _ H' => Q .non H', rt := Q } (L2.start N vs) H := by
  refine ⟨_, _, rel_start (E := E) a nd na t hn hp, ?_⟩
  have es : startS fn ds = .ok (slotsOf ds fn.ps ++ List.replicate (fn.n - fn.ps.length) none) := by
    unfold startS
    rw [if_pos a.dlen]
    rfl
  unfold runF at z
  rw [es] at z
  have z : (match (evalSs call w0 fn.body (slotsOf ds fn.ps ++ List.replicate (fn.n - fn.ps.length) none) >>= fun p => if (outsOf fn.ps p.2).all D.isMut = true then (match p.1 with
      | .next => Cg.R.ok (D.non, outsOf fn.ps p.2)
      | .ret d => Cg.R.ok (d, outsOf fn.ps p.2)
      | _ => Cg.R.bad) else Cg.R.bad : R (D × List D)) with
      | .ok (d, outs) => ∀ v H', Back k tb tl A rs H fn.fresh d outs v H' → Q v H'
      | .exc e => ∀ dx H', FrA rs H H' → TabsK tb tl H' → E (k.xc e) dx H'
      | .bad => False) := z
  cases q : evalSs call w0 fn.body (slotsOf ds fn.ps ++ List.replicate (fn.n - fn.ps.length) none) with
  | bad => rw [q] at z; exact z
  | exc e =>
    rw [q] at z
    exact fun dx H' o => z dx H' ⟨fun b x h n m => o.1 b x h n m, o.2.1⟩ o.2.2
  | ok p =>
    rw [q] at z
    obtain ⟨c, ρ⟩ := p
    rw [R.bind_ok] at z
    by_cases hm : (outsOf fn.ps ρ).all D.isMut = true
    · rw [if_pos hm] at z
      cases c with
      | brk => exact (show False from z).elim
      | cont => exact (show False from z).elim
      | next => exact fun O' σ' H' R s => z .non H' (back_of (E := E) a hm (.scal R rfl rfl))
      | ret d => exact fun v O' σ' H' r => z v H' (back_of (E := E) a hm r)
    · rw [if_neg hm] at z
      exact z.elim
/-- .. its code object known -/
theorem fn_okC {x qual : Str} {params : Arguments} {body : List Stmt} {scope : Scope} {dvs : List V} {kws : List (Str × V)} {f : Addr} {fd : FuncData} {CX : CXT} {N ps : List Str} {j : Nat} {sp : Sp} (F : FunD K x qual params body scope dvs kws f fd) (S : FnScope N ps scope) (len : ∀ vs H Q E, sp vs H Q E → vs.length = ps.length)
    (hbody : ∀ (A : Around) (outer : List PySem.Env) (s : Shared) (H : Hp) (vs : List V) (Q : VK) (E : XK), Room j (A.deeper (envOfC qual scope s.heap.objs.size f fd.code)) → sp vs H Q E →
      ∃ t, PSs (cxOf CX P w K mg base N qual scope f fd.code A outer s H E) body t ∧ t { nx := fun _ H' => Q .non H', rt := Q } (L2.start N vs) H) : FnOk P w K mg base CX (j + 1) f fd ps sp := by
  obtain ⟨oc, od, dV, kV, doc, pm, an, cdv, ct, osl, rfl, lk, hcd, _, _⟩ := F.ex
  exact fn_of lk hcd S len fun A outer s H vs Q E hr hsp => hbody A outer s H vs Q E hr hsp
/-- a checked def keeps its promise, one step of fuel on -/
theorem fn_step {x qual : Str} {params : Arguments} {body : List Stmt} {f : Addr} {fd : FuncData} {sc : Sc} {ps : List Str} {fn : Fn} {w0 : Nat} (g : Gx P w K mg base k tb tl G call lv) (np : ∀ a v t, ¬ k.pin a v t) (F : FunD K x qual params body sc.scope [] [] f fd) (S : FnScope sc.N ps sc.scope) (hot : sc.hot = false) (tab : sc.gx = true → tl = [] ∧ ∃ cc P, GxR.TabB base mg cc P ∧ fd.code = .ref cc ∧ P ∈ tb)
    (hn : sc.N.length = fn.n) (hl : ps.length = fn.ps.length) (hp : fn.ps.length ≤ fn.n) (ck : chkSs G sc fn.fresh (fn.ps.any id) fn.body body = true) : FnOk P w K mg base (CXx P w) (lv + 2) f fd ps (spF k tb tl fn.fresh fn.ps (runF call w0 fn)) := by
  refine fn_okC F S (fun vs H Q E h => ?_) (fun A outer s H vs Q E room h => ?_)
  · obtain ⟨A, ds, rs, a, _⟩ := h
    rw [a.len, hl]
  · obtain ⟨A', ds, rs, a, nd, na, t, z⟩ := h
    exact ⟨_, chkSs_ok fn.body (g.cs np (fn := fn) S hot room tab a) body ck, body_of a nd na t hn hp z⟩
theorem fn_zero {f : Addr} {fd : FuncData} {ps : List Str} {fr : Bool} {mask : List Bool} {lv : Nat} (hl : ps.length = mask.length) : FnOk P w K mg base (CXx P w) lv f fd ps (spF k tb tl fr mask (fun _ => .bad)) :=
  ⟨fun vs H Q E ⟨A, ds, rs, a, _⟩ => by rw [a.len, hl], fun A outer s H as us vs Q E hr e0 hb r ⟨A', ds, rs, a, nd, na, t, z⟩ => z.elim⟩
end
end Cg
set_option Elab.async false
set_option linter.all false
set_option maxRecDepth 100000
set_option maxHeartbeats 4000000
namespace Cg
open PySem PySem.Spec PyProof.Rows L2 PySem.SeqAt
/-! ### the def that is handed the caught error, by its body -/
def Gs.still (G : Gs) : Gs := { G with funs := [], eh := [] }
def Kx.pinned (k : Kx) (a0 : Addr) (v0 : Value) (t0 : Addr) : Kx := { k with pin := fun a v t => a = a0 ∧ v = v0 ∧ t = t0 }
section
variable {P : Program} {w : World} {K : PySem.W.Frag} {mg : Str → Option Value} {base : Heap} {k : Kx} {tb : List Addr} {tl : List (Addr × Str)} {G : Gs} {call : CallF} {lv : Nat}
theorem takes_none {X : Cx} : Takesx X (fun _ _ _ _ => False) := fun u s x => by
  obtain ⟨_, _, _, _, _, _, _, _, _, _, _, _, _, _, _, _, _, z⟩ := x
  exact z.elim
theorem Gx.csE (g : Gx P w K mg base k tb tl G call lv) {sc : Sc} {qual : Str} {f : Addr} {cdv : Value} {A0 : Around} {outer : List PySem.Env} {s : Shared} {H : Hp} {E : XK} {q : Addr × Obj} {e : Nat} {t : Addr} {ps : List Str} {lv2 : Nat} (S : FnScope sc.N ps sc.scope) (hot : sc.hot = true) (gx : sc.gx = false)
    (room : L2H.RoomH lv2 (A0.deeper (envOfC qual sc.scope s.heap.objs.size f cdv))) (z : Zx (k.xc e) t q.2) (hd : ∃ vs, q.2.data = .fields vs) :
    Cs (L2H.cxH (CXx P w) P w K mg base sc.N qual sc.scope f cdv A0 outer s H E q) (fcOf (k.pinned q.1 (k.xc e) t) tb tl (fun _ => False) H (fun _ _ _ => False) [false] []) G.still call sc lv false where
  N := rfl
  nd := S.nd
  scope := rfl
  kx := ⟨g.kK, g.kw, g.rt0⟩
  er := ⟨g.cls, g.kit, g.str, fun a v t2 h => by
    obtain ⟨rfl, rfl, rfl⟩ := h
    exact ⟨q.2, List.mem_singleton.mpr rfl, z, hd⟩⟩
  calm := fun h => by rw [hot] at h; cases h
  room := fun h => by rw [hot] at h; cases h
  room1 := fun h => by rw [gx] at h; cases h
  tab := fun h => by rw [gx] at h; cases h
  nopin := fun h => by rw [hot] at h; cases h
  units := by
    have := room.un
    show (A0.deeper (envOfC qual sc.scope s.heap.objs.size f cdv)).units + 66 < cLine
    omega
  fn := fun _ _ => rfl
  funs := fun x i h => by cases h
  errs := g.errs
  err5 := g.err5
  consts := g.consts
  blts := g.blts
  pass := passesx takes_none
  tk := takes_none
  po := passes_of rfl
  stk := rfl
  frm := rfl
  zed := fun _ => id
  plain := fun _ => ⟨rfl, fun a m => by cases m⟩
  eh := fun x i h => by cases h
  exm := g.exm
  rais := fun e h => raises_own (g.sub e h).1 (g.sub e h).2
theorem fnE_step {x qual : Str} {params : Arguments} {body : List Stmt} {f : Addr} {fd : FuncData} {sc : Sc} {ps : List Str} {fn : Fn} {w0 lv2 : Nat} (g : Gx P w K mg base k tb tl G call lv) (F : FunD K x qual params body sc.scope [] [] f fd) (S : FnScope sc.N ps sc.scope) (hot : sc.hot = true) (gx : sc.gx = false)
    (hn : sc.N.length = fn.n) (hl : ps.length = 1) (hp : 1 ≤ fn.n) (hm : fn.ps = [false]) (ck : chkSs G.still sc fn.fresh false fn.body body = true) : FnE P w K mg base (CXx P w) (lv2 + 1) f fd ps (spE k tb tl (runF call w0 fn)) := by
  obtain ⟨oc, od, dV, kV, doc, pm, an, cdv, ct, osl, rfl, lk, hcd, _, _⟩ := F.ex
  refine fnE_of lk hcd S (fun q vs H Q E h => ?_) fun A outer s H vs Q E q room h => ?_
  · obtain ⟨e, t, _, rfl, _⟩ := h
    rw [hl]; rfl
  · obtain ⟨e, t, he, rfl, z, hd, ht, tabs, r⟩ := h
    have a : Args (k.pinned q.1 (k.xc e) t) (fun _ => False) H fn.ps [.exc e] [.ref q.1] [] := by
      rw [hm]
      exact ⟨_, _, _, _, rfl, rfl, ⟨q.1, t, rfl, SqT.of ht, .inl ⟨rfl, rfl, rfl⟩⟩, rfl, rfl, rfl⟩
    have b := body_of (k := k.pinned q.1 (k.xc e) t) (tb := tb) (tl := tl) (call := call) (w0 := w0) (N := sc.N) (Q := Q) (E := fun _ _ _ => False) a List.nodup_nil (fun r hr => by cases hr) tabs hn (by rw [hm]; exact hp) (by
      revert r
      cases runF call w0 fn [.exc e] with
      | bad => exact id
      | exc e2 => exact fun z => z.elim
      | ok p =>
        obtain ⟨d, outs⟩ := p
        intro r v H' bk
        cases d <;> first | exact (show False from r).elim | skip
        have hv := bk.rep
        rw [show v = V.str _ from hv]
        exact r H' bk.fra bk.tabs)
    rw [hm] at b
    exact ⟨_, chkSs_ok fn.body (g.csE S hot gx room z hd) body ck, b⟩
end
end Cg
set_option Elab.async false
set_option linter.all false
set_option maxRecDepth 100000
set_option maxHeartbeats 4000000
namespace Cg
open PySem PySem.Spec PyProof.Rows L2 PySem.SeqAt
/-! ### all defs, by the fuel -/
/-- a def of the module, checked -/
def DefOk (K : PySem.W.Frag) (mg : Str → Option Value) (base : Heap) (tb : List Addr) (G : Gs) (x : Str) (i : Nat) : Prop := ∃ (f : Addr) (fd : FuncData) (sc : Sc) (ps : List Str) (fn : Fn) (params : Arguments) (body : List Stmt),
  mg x = some (.ref f) ∧ FunD K x x params body sc.scope [] [] f fd ∧ Binds K fd ps [] ∧ FnScope sc.N ps sc.scope ∧ G.tb i = some fn ∧ sc.hot = false ∧ (sc.gx = true → ∃ cc P, GxR.TabB base mg cc P ∧ fd.code = .ref cc ∧ P ∈ tb) ∧ sc.N.length = fn.n ∧ ps.length = fn.ps.length ∧ fn.ps.length ≤ fn.n ∧ chkSs G sc fn.fresh (fn.ps.any id) fn.body body = true
/-- .. that is handed the caught error -/
def DefOkE (K : PySem.W.Frag) (mg : Str → Option Value) (G : Gs) (x : Str) (i : Nat) : Prop := ∃ (f : Addr) (fd : FuncData) (sc : Sc) (ps : List Str) (fn : Fn) (params : Arguments) (body : List Stmt),
  mg x = some (.ref f) ∧ FunD K x x params body sc.scope [] [] f fd ∧ Binds K fd ps [] ∧ FnScope sc.N ps sc.scope ∧ G.tb i = some fn ∧ sc.hot = true ∧ sc.gx = false ∧ sc.N.length = fn.n ∧ ps.length = 1 ∧ 1 ≤ fn.n ∧ fn.ps = [false] ∧ chkSs G.still sc fn.fresh false fn.body body = true
/-- what holds of the module's names but its defs -/
structure G0 (K : PySem.W.Frag) (mg : Str → Option Value) (w : World) (k : Kx) (G : Gs) : Prop where
  kK : K = k.K
  kw : w = k.w
  rt0 : ∀ d, k.rt d = reprT d
  np : ∀ a v t, ¬ k.pin a v t
  cls : ∀ e, e < 5 → ∃ C, k.xc e = .ref C ∧ L2.ExcC K C
  kit : ∀ e c, e < 5 → c < 6 → PySem.W.kitOne K (k.xc e) (k.xc c) = some (c == e || c == 0 || c == 5)
  str : ∀ e, e < 5 → PySem.W.findIn K (k.xc e) "__str__" = some (some (.builtin "BaseException.__str__"))
  errs : ∀ x n, G.errs.lookup x = some n → n < 5 → ∃ C bmB B newId initId, mg x = some (.ref C) ∧ k.xc n = .ref C ∧ PySem.W.keepIn K (.ref C) = true ∧ ExcBaseFacts B newId initId bmB ∧ PySem.W.excIn K C bmB newId = true
  err5 : k.xc 5 = .type "ValueError"
  consts : ∀ x d, G.consts.lookup x = some d → ∃ v u, scalD d = some v ∧ mg x = some u ∧ RelV v u
  blts : ∀ x, x ∈ G.blts → mg x = none
  exm : ∀ e, e < 5 → PySem.W.exmOne K (k.xc e) (k.xc 0) = some true
  sub : ∀ e, e < 5 → PySem.W.subIn K (k.xc e) (.type "BaseException") = some true ∧ PySem.W.typeIn K (k.xc e) = some (.type "type")
section
variable {P : Program} {w : World} {K : PySem.W.Frag} {mg : Str → Option Value} {base : Heap} {k : Kx} {tb : List Addr} {G : Gs}
theorem callN_at {w0 n i : Nat} {T : Nat → Option Fn} {fn : Fn} (h : T i = some fn) : callN T w0 (n + 1) i = runF (callN T w0 n) w0 fn := by
  funext ds
  show (match T i with | some fn => runF (callN T w0 n) w0 fn ds | none => Cg.R.bad) = _
  rw [h]
/-- at each fuel all defs keep their promises -/
theorem levels (g : G0 K mg w k G) (hf : ∀ x i, G.funs.lookup x = some i → DefOk K mg base tb G x i) (he : ∀ x i, G.eh.lookup x = some i → DefOkE K mg G x i) (w0 : Nat) : ∀ n, Gx P w K mg base k tb [] G (callN G.tb w0 n) (2 * n)
  | 0 => {
      kK := g.kK, kw := g.kw, rt0 := g.rt0, cls := g.cls, kit := g.kit, str := g.str, errs := g.errs, err5 := g.err5, consts := g.consts, blts := g.blts, exm := g.exm, sub := g.sub
      funs := fun x i h => by
        obtain ⟨f, fd, sc, ps, fn, params, body, e1, e2, e3, e4, e5, e6, e65, e7, e8, e9, e10⟩ := hf x i h
        exact ⟨f, fd, ps, e1, e2.kp, e3, fn_zero (by show ps.length = (G.mask i).length; unfold Gt.mask; rw [e5]; exact e8)⟩
      eh := fun x i h => by
        obtain ⟨f, fd, sc, ps, fn, params, body, e1, e2, e3, e4, e5, e6, e65, e7, e8, e9, e10, e11⟩ := he x i h
        refine ⟨f, fd, ps, e1, e2.kp, e3, ⟨fun q vs H Q E h => ?_, fun A outer s H as us vs Q E q hr pin e0 hb r h => ?_⟩⟩
        · obtain ⟨e, t, _, rfl, _⟩ := h
          rw [e8]; rfl
        · obtain ⟨e, t, _, _, _, _, _, _, z⟩ := h
          exact (show False from z).elim }
  | n + 1 => {
      kK := g.kK, kw := g.kw, rt0 := g.rt0, cls := g.cls, kit := g.kit, str := g.str, errs := g.errs, err5 := g.err5, consts := g.consts, blts := g.blts, exm := g.exm, sub := g.sub
      funs := fun x i h => by
        obtain ⟨f, fd, sc, ps, fn, params, body, e1, e2, e3, e4, e5, e6, e65, e7, e8, e9, e10⟩ := hf x i h
        refine ⟨f, fd, ps, e1, e2.kp, e3, ?_⟩
        have em : G.mask i = fn.ps := by unfold Gt.mask; rw [e5]
        have ef : G.fr i = fn.fresh := by unfold Gt.fr; rw [e5]
        rw [em, ef, callN_at e5]
        exact fn_step (levels g hf he w0 n) g.np e2 e4 e6 (fun z => ⟨rfl, e65 z⟩) e7 e8 e9 e10
      eh := fun x i h => by
        obtain ⟨f, fd, sc, ps, fn, params, body, e1, e2, e3, e4, e5, e6, e65, e7, e8, e9, e10, e11⟩ := he x i h
        refine ⟨f, fd, ps, e1, e2.kp, e3, ?_⟩
        rw [callN_at e5]
        exact fnE_step (levels g hf he w0 n) e2 e4 e6 e65 e7 e8 e9 e10 e11 }
end
end Cg
set_option Elab.async false
set_option linter.all false
set_option maxRecDepth 100000
set_option maxHeartbeats 4000000
namespace Cg
open PySem PySem.Spec PyProof.Rows L2 PySem.SeqAt
/-! ### the law's own def -/
theorem law_sp {k : Kx} {tb : List Addr} {fr : Bool} {f : List D → R (D × List D)} {H : Hp} {a : Addr} {ns : List Int} (hs : SqL k.K H a (ns.map V.int)) (ht : ∀ P ∈ tb, H P = some (.tbl #[])) (h : ∃ outs, f [.scr ns] = .ok (.bool true, outs)) : spF k tb [] fr [false] f [.ref a] H (fun v _ => v = .bl true) fun _ _ _ => False := by
  refine ⟨fun _ => True, [.scr ns], [], ⟨_, _, _, _, rfl, rfl, ⟨a, rfl, ?_⟩, rfl, rfl, rfl⟩, List.nodup_nil, fun r hr => (by cases hr), ⟨fun P hP => ⟨#[], ht P hP, True.intro⟩, fun q hq => (by cases hq)⟩, ?_⟩
  · rcases hs with (hs | ⟨o, hs⟩) | hs
    · exact .inl ⟨trivial, hs⟩
    · exact .inr (.inl ⟨o, hs⟩)
    · exact .inr (.inr hs)
  · obtain ⟨outs, e⟩ := h
    rw [e]
    exact fun v H' b => b.rep
theorem cxx_none {P : Program} {w : World} (H : Hp) (s : Shared) (e : Value) (s' : Shared) (h : CXx P w [] H s (fun _ _ _ => False) e s') : False := by
  obtain ⟨_, _, _, _, _, _, _, _, _, _, _, _, _, z⟩ := h
  exact z
/-- errors may be told of in other words -/
theorem fn_weak {P : Program} {w : World} {K : PySem.W.Frag} {mg : Str → Option Value} {base : Heap} {C1 C2 : CXT} {lv : Nat} {f : Addr} {fd : FuncData} {ps : List Str} {sp : Sp} (F : FnOk P w K mg base C1 lv f fd ps sp) (h : ∀ outer H s E u s', C1 outer H s E u s' → C2 outer H s E u s') : FnOk P w K mg base C2 lv f fd ps sp :=
  ⟨F.len, fun A outer s H as us vs Q E hr e0 hb r q => codeAny_mono (F.run A outer s H as us vs Q E hr e0 hb r q) fun res s' z => by
    cases res with
    | error e => exact h _ _ _ _ _ _ z
    | ok fl => cases fl <;> exact z⟩
/-- .. in no world's words -/
def CXw (P : Program) : CXT := fun outer H s E u s' => ∃ w, CXx P w outer H s E u s'
theorem cxw_none {P : Program} (H : Hp) (s : Shared) (e : Value) (s' : Shared) (h : CXw P [] H s (fun _ _ _ => False) e s') : False := by
  obtain ⟨w, h⟩ := h
  exact cxx_none H s e s' h
end Cg
set_option Elab.async false
set_option linter.all false
set_option maxRecDepth 100000
set_option maxHeartbeats 4000000
namespace Cg
open PySem PySem.Spec PyProof.Rows L2
/-! ### what the head tells: the kit's facts and one more -/
def SaysX (fa : List He.Fa) (fn : List He.DefD) (ex : PySem.W.Frag → Bool) (K : PySem.W.Frag) : Prop := ex K = true ∧ He.SaysD fa fn K
/-- the error classes, by what the module's names hold -/
def errC (K : PySem.W.Frag) (x : Str) : Bool :=
  let D := He.ga K x
  He.eqO (PySem.W.findIn K (.ref D) "__getattribute__") (some (some (.builtin "BaseException.__getattribute__"))) && He.eqO (PySem.W.findIn K (.ref D) "__getattr__") (some none) &&
  decide (PySem.W.subIn K (.ref D) (.type "BaseException") = some true) && PySem.W.hasDictIn K D && He.eqO (PySem.W.findIn K (.ref D) "__class__") (some (some (.builtin "object.__class__"))) &&
  decide (PySem.W.mroIn K D (.type "object") = some true) && He.eqO (PySem.W.findIn K (.ref D) "__str__") (some (some (.builtin "BaseException.__str__")))
def xcOf (K : PySem.W.Frag) : Nat → Value := fun n => if n < 5 then .ref (He.ga K (clsName n)) else .type "ValueError"
def errB (K : PySem.W.Frag) : Bool :=
  ((List.range 5).all fun e => errC K (clsName e)) && decide (PySem.W.specialIn K (.builtin "object.__class__") "__get__" = some (some (.builtin "getset_descriptor.__get__"))) && decide (PySem.W.takesIn K (.builtin "object.__class__") = some true) &&
  ((List.range 5).all fun e => (List.range 6).all fun c => decide (PySem.W.kitOne K (xcOf K e) (xcOf K c) = some (c == e || c == 0 || c == 5))) &&
  ((List.range 5).all fun e => decide (PySem.W.exmOne K (xcOf K e) (xcOf K 0) = some true) && decide (PySem.W.typeIn K (xcOf K e) = some (.type "type")))
theorem errB_ok {K : PySem.W.Frag} (h : errB K = true) : (∀ e, e < 5 → L2.ExcC K (He.ga K (clsName e)) ∧ PySem.W.findIn K (.ref (He.ga K (clsName e))) "__str__" = some (some (.builtin "BaseException.__str__"))) ∧
    (∀ e c, e < 5 → c < 6 → PySem.W.kitOne K (xcOf K e) (xcOf K c) = some (c == e || c == 0 || c == 5)) ∧ (∀ e, e < 5 → PySem.W.exmOne K (xcOf K e) (xcOf K 0) = some true ∧ PySem.W.typeIn K (xcOf K e) = some (.type "type")) := by
  obtain ⟨h, h5⟩ := and3 h
  obtain ⟨h, h4⟩ := and3 h
  obtain ⟨h, h3⟩ := and3 h
  obtain ⟨h1, h2⟩ := and3 h
  refine ⟨fun e he => ?_, fun e c he hc => ?_, fun e he => ?_⟩
  · have q := List.all_eq_true.mp h1 e (List.mem_range.mpr he)
    unfold errC at q
    obtain ⟨q, q7⟩ := and3 q
    obtain ⟨q, q6⟩ := and3 q
    obtain ⟨q, q5⟩ := and3 q
    obtain ⟨q, q4⟩ := and3 q
    obtain ⟨q, q3⟩ := and3 q
    obtain ⟨q1, q2⟩ := and3 q
    exact ⟨⟨He.eqO_ok q1, He.eqO_ok q2, of_decide_eq_true q3, q4, He.eqO_ok q5, of_decide_eq_true h2, of_decide_eq_true h3, of_decide_eq_true q6⟩, He.eqO_ok q7⟩
  · exact of_decide_eq_true (List.all_eq_true.mp (List.all_eq_true.mp h4 e (List.mem_range.mpr he)) c (List.mem_range.mpr hc))
  · obtain ⟨q1, q2⟩ := and3 (List.all_eq_true.mp h5 e (List.mem_range.mpr he))
    exact ⟨of_decide_eq_true q1, of_decide_eq_true q2⟩
end Cg
set_option Elab.async false
set_option linter.all false
set_option maxRecDepth 100000
set_option maxHeartbeats 4000000
namespace Cg
open PySem PySem.Spec PyProof.Rows L2
/-! ### the head's facts, for the framework -/
theorem fact_mem {fa : List He.Fa} {fn : List He.DefD} {K : PySem.W.Frag} (c : He.SaysD fa fn K) {f : He.Fa} (h : f ∈ fa) : f.ok K = true := by
  obtain ⟨i, hi⟩ := List.mem_iff_getElem?.mp h
  exact c.fact i hi
def kxOf (K : PySem.W.Frag) (w : World) : Kx := ⟨K, w, xcOf K, reprT, fun _ _ _ => False⟩
/-- what a law's lists must hold -/
structure FaOk (G : Gs) (fa : List He.Fa) : Prop where
  glo : ∀ e, e < 5 → He.Fa.glo (clsName e) ∈ fa
  exc : ∀ e, e < 5 → He.Fa.exc (clsName e) ∈ fa
  blts : ∀ x ∈ G.blts, He.Fa.free x ∈ fa
  consts : ∀ p ∈ G.consts, ∃ i, p.2 = .int i ∧ He.Fa.int p.1 i ∈ fa
  errs : ∀ p ∈ G.errs, p.1 = clsName p.2 ∧ p.2 < 5
theorem g0_of {fa : List He.Fa} {fn : List He.DefD} {K : PySem.W.Frag} {h : Heap} {mg : Str → Option Value} {w : World} {G : Gs} (X : K.In h) (Gn : h.Ns mainGlobals mg) (c : SaysX fa fn errB K) (ok : FaOk G fa) : G0 K mg w (kxOf K w) G := by
  obtain ⟨c1, c2⟩ := c
  obtain ⟨e1, e2, e3⟩ := errB_ok c1
  have xc : ∀ e, e < 5 → xcOf K e = .ref (He.ga K (clsName e)) := fun e he => if_pos he
  refine ⟨rfl, rfl, fun _ => rfl, fun _ _ _ => id, fun e he => ⟨_, xc e he, (e1 e he).1⟩, e2, fun e he => ?_, fun x n hx hn => ?_, rfl, fun x d hx => ?_, fun x hx => He.free_ok X Gn (fact_mem c2 (ok.blts x hx)), fun e he => (e3 e he).1, fun e he => ⟨?_, (e3 e he).2⟩⟩
  · show PySem.W.findIn K (xcOf K e) "__str__" = _
    rw [xc e he]
    exact (e1 e he).2
  · obtain ⟨ex, _⟩ := ok.errs _ (PySem.mem_of_lookup hx)
    have ex : x = clsName n := ex
    subst ex
    obtain ⟨x1, x2, x3, x4⟩ := He.exc_ok (fact_mem c2 (ok.exc n hn))
    exact ⟨_, _, _, _, _, He.glo_ok X Gn (fact_mem c2 (ok.glo n hn)), xc n hn, x2, PySem.F.excBase_ValueError, x1⟩
  · obtain ⟨i, hi, m⟩ := ok.consts _ (PySem.mem_of_lookup hx)
    obtain ⟨t, ht⟩ := He.int_ok X Gn (fact_mem c2 m)
    have hi : d = .int i := hi
    subst hi
    exact ⟨.int i, _, rfl, ht, ⟨t, rfl⟩⟩
  · show PySem.W.subIn K (xcOf K e) _ = _
    rw [xc e he]
    exact (e1 e he).1.hs
/-- a def's code object and its table, by the head's facts -/
theorem tab_of {K : PySem.W.Frag} {h : Heap} {mg : Str → Option Value} {tf : List He.Defn} {p : He.Defn} {x qual : Str} {params : Arguments} {body : List Stmt} {scope : Scope} {dvs : List V} {kws : List (Str × V)} {fd : FuncData} (TB : ∀ q ∈ tf, GxR.TabB h mg (He.cT K q).1 (He.cT K q).2) (hp : p ∈ tf) (F : FunD K x qual params body scope dvs kws (He.fAd K p) fd) :
    ∃ cc P, GxR.TabB h mg cc P ∧ fd.code = .ref cc ∧ P ∈ tf.map fun q => (He.cT K q).2 := by
  obtain ⟨oc, od, dV, kV, doc, pm, an, cdv, ct, osl, rfl, lk, hcd, _, _⟩ := F.ex
  obtain ⟨cc, rfl⟩ := He.codeIn_ref hcd
  refine ⟨_, _, TB p hp, ?_, List.mem_map.mpr ⟨p, hp, rfl⟩⟩
  show Value.ref cc = .ref (He.codeOf K p)
  rw [He.codeOf_eq lk rfl]
/-- the law's promise at the head's heap -/
theorem law_at {l : PySem.W.OpenLaw} {w : World} {K : PySem.W.Frag} {CX : CXT} {k n : Nat} {x : Str} {mg : Str → Option Value} {fa : Addr} {h : Heap} {fas : List He.Fa} {fn : List He.DefD} {tf : List He.Defn} {ex : PySem.W.Frag → Bool} {fd : FuncData} {fr : Bool} {f : List D → R (D × List D)} (KX : K.In h) (c : He.SaysX fas fn [] tf ex w h K)
    (b : ∀ (s : Shared) (u : Value), BindsTo s fd ⟨[u], []⟩ [(x, u)]) (plain : ∀ ns : List Int, ns.length ≤ n → ∃ outs, f [.scr ns] = .ok (.bool true, outs))
    (F : ∀ base : Heap, K.In base → base.Ns mainGlobals mg → (∀ q ∈ tf, GxR.TabB base mg (He.cT K q).1 (He.cT K q).2) → FnOk l.prog w K mg base CX k fa fd [x] (spF (kxOf K w) (tf.map fun q => (He.cT K q).2) [] fr [false] f)) : LamX.LawAtS l w K CX k n x mg fa h := by
  refine ⟨fd, tf.map (He.cT K), _, fun p hp => ?_, fun p hp => ?_, fun p hp => ?_, b, fun H a ns hl _ hT hS => ?_, fun base hb hG hT => F base hb hG fun q hq => ?_⟩
  · obtain ⟨q, hq, rfl⟩ := List.mem_map.mp hp
    exact c.empty q hq
  · obtain ⟨q, hq, rfl⟩ := List.mem_map.mp hp
    exact c.out q hq
  · obtain ⟨q, hq, rfl⟩ := List.mem_map.mp hp
    exact PySem.W.codeHd_of_K KX (c.hd q hq)
  · refine law_sp hS (fun P hP => ?_) (plain ns hl)
    obtain ⟨q, hq, rfl⟩ := List.mem_map.mp hP
    exact hT _ (List.mem_map.mpr ⟨q, hq, rfl⟩)
  · obtain ⟨t1, t2, t3⟩ := hT _ (List.mem_map.mpr ⟨q, hq, rfl⟩)
    exact ⟨t1, t2, t3⟩
end Cg
set_option Elab.async false
set_option linter.all false
set_option maxRecDepth 100000
set_option maxHeartbeats 0
namespace Cg
open PySem PySem.Spec PyProof.Rows L2
def ir_is_whole : Fn := ⟨3, [false, false, false], false, (.cons (.ret [] (.and (.isa .int (.v 0)) (.and (.not (.isa .bool (.v 0))) (.chain .le .le (.v 1) (.v 0) (.v 2))))) .nil)⟩
def ir_inner_kinds : Fn := ⟨4, [false], false, (.cons (.ifs (.or (.not (.of (.isa .tuple (.v 0)))) (.or (.of (.cmp .lt (.b1 .len (.v 0)) (.k (.int 2)))) (.not (.of (.isa .str (.idx (.v 0) (.k (.int 0)))))))) (.cons (.ret [] (.k .non)) .nil) .nil) (.cons (.set [] 1 0 (.idx (.v 0) (.k (.int 0)))) (.cons (.ifs (.of (.cmp .eq (.v 1) (.k (.str .number)))) (.cons (.ret [] (.ite (.and (.of (.cmp .eq (.b1 .len (.v 0)) (.k (.int 2)))) (.of (.call 0 (.cons (.idx (.v 0) (.k (.int 1))) (.cons (.k (.int 2)) (.cons (.k (.int 1000)) .nil)))))) (.tup .nil) (.k .non))) .nil) .nil) (.cons (.ifs (.of (.cmp .in_ (.v 1) (.tup (.cons (.k (.str .record)) (.cons (.k (.str .choice)) .nil))))) (.cons (.set [] 2 0 (.ite (.of (.cmp .eq (.v 1) (.k (.str .record)))) (.k (.int 1)) (.k (.int 2)))) (.cons (.set [] 3 0 (.and (.cmp .eq (.b1 .len (.v 0)) (.k (.int 2))) (.and (.isa .tuple (.idx (.v 0) (.k (.int 1)))) (.chain .le .le (.v 2) (.b1 .len (.idx (.v 0) (.k (.int 1)))) (.k (.int 4)))))) (.cons (.ret [] (.ite (.of (.v 3)) (.idx (.v 0) (.k (.int 1))) (.k .non))) .nil))) .nil) (.cons (.ifs (.of (.cmp .in_ (.v 1) (.tup (.cons (.k (.str .row)) (.cons (.k (.str .set)) (.cons (.k (.str .bag)) .nil)))))) (.cons (.ret [] (.ite (.of (.cmp .eq (.b1 .len (.v 0)) (.k (.int 2)))) (.slice (.v 0) (.k (.int 1)) .omit) (.k .non))) .nil) .nil) (.cons (.ifs (.of (.cmp .eq (.v 1) (.k (.str .table)))) (.cons (.ret [] (.ite (.of (.cmp .eq (.b1 .len (.v 0)) (.k (.int 3)))) (.slice (.v 0) (.k (.int 1)) .omit) (.k .non))) .nil) .nil) (.cons (.ret [] (.k .non)) .nil)))))))⟩
def ir_kinds_in : Fn := ⟨5, [false, false], false, (.cons (.set [] 2 0 (.ite (.of (.cmp .gt (.v 1) (.k (.int 0)))) (.call 1 (.cons (.v 0) .nil)) (.k .non))) (.cons (.ifs (.of (.cmp .is_ (.v 2) (.k .non))) (.cons (.ret [] (.k (.int 0))) .nil) .nil) (.cons (.set [] 3 0 (.lc (.nm 4) (.val (.v 2)) (.of (.k (.bool true))) (.call 2 (.cons (.v 4) (.cons (.bin .sub (.v 1) (.k (.int 1))) .nil))))) (.cons (.ifs (.of (.cmp .in_ (.k (.int 0)) (.v 3))) (.cons (.ret [] (.k (.int 0))) .nil) .nil) (.cons (.ret [] (.bin .add (.k (.int 1)) (.b1 .sum (.v 3)))) .nil)))))⟩
def ir_is_kind : Fn := ⟨1, [false], false, (.cons (.ret [] (.chain .le .le (.k (.int 1)) (.call 2 (.cons (.v 0) (.cons (.k (.int 5)) .nil))) (.k (.int 20)))) .nil)⟩
def ir_power_up_to : Fn := ⟨5, [false, false, false], false, (.cons (.set [] 3 0 (.k (.int 1))) (.cons (.for_ [] (.nm 4) (.range (.v 1)) (.cons (.set [] 3 0 (.bin .mul (.v 3) (.v 0))) (.cons (.ifs (.of (.cmp .gt (.v 3) (.v 2))) (.cons (.ret [] (.bin .add (.v 2) (.k (.int 1)))) .nil) .nil) .nil))) (.cons (.ret [] (.v 3)) .nil)))⟩
def ir_count_up_to : Fn := ⟨7, [false, false], false, (.cons (.set [] 2 0 (.idx (.v 0) (.k (.int 0)))) (.cons (.ifs (.of (.cmp .eq (.v 2) (.k (.str .number)))) (.cons (.ret [] (.b2 .min (.idx (.v 0) (.k (.int 1))) (.bin .add (.v 1) (.k (.int 1))))) .nil) .nil) (.cons (.ifs (.of (.cmp .in_ (.v 2) (.tup (.cons (.k (.str .row)) (.cons (.k (.str .bag)) .nil))))) (.cons (.ret [] (.bin .add (.v 1) (.k (.int 1)))) .nil) .nil) (.cons (.ifs (.of (.cmp .eq (.v 2) (.k (.str .choice)))) (.cons (.ret [] (.b2 .min (.gsum (.nm 6) (.val (.idx (.v 0) (.k (.int 1)))) (.of (.k (.bool true))) (.call 37 (.cons (.v 6) (.cons (.v 1) .nil)))) (.bin .add (.v 1) (.k (.int 1))))) .nil) .nil) (.cons (.ifs (.of (.cmp .eq (.v 2) (.k (.str .record)))) (.cons (.set [] 5 0 (.k (.int 1))) (.cons (.for_ [] (.nm 6) (.val (.idx (.v 0) (.k (.int 1)))) (.cons (.set [] 5 0 (.b2 .min (.bin .mul (.v 5) (.call 37 (.cons (.v 6) (.cons (.v 1) .nil)))) (.bin .add (.v 1) (.k (.int 1))))) .nil)) (.cons (.ret [] (.v 5)) .nil))) .nil) (.cons (.set [] 3 0 (.call 37 (.cons (.idx (.v 0) (.k (.int 1))) (.cons (.v 1) .nil)))) (.cons (.set [] 4 0 (.ite (.of (.cmp .eq (.v 2) (.k (.str .set)))) (.k (.int 2)) (.bin .add (.k (.int 1)) (.call 37 (.cons (.idx (.v 0) (.k (.int 2))) (.cons (.v 1) .nil)))))) (.cons (.ret [] (.call 36 (.cons (.v 4) (.cons (.v 3) (.cons (.v 1) .nil))))) .nil))))))))⟩
def ir_check_kind : Fn := ⟨1, [false], false, (.cons (.ifs (.not (.of (.call 3 (.cons (.v 0) .nil)))) (.cons (.raise 1) .nil) .nil) .nil)⟩
def ir_few : Fn := ⟨3, [false, false], false, (.cons (.ex (.call 4 (.cons (.v 0) .nil))) (.cons (.set [] 2 0 (.call 37 (.cons (.v 0) (.cons (.v 1) .nil)))) (.cons (.ret [] (.ite (.of (.cmp .gt (.v 2) (.v 1))) (.k .non) (.v 2))) .nil)))⟩
def ir__law_box : Fn := ⟨2, [false], true, (.cons (.ret [] (.lst (.cons (.k (.int 0)) (.cons (.k (.int 0)) (.cons (.k (.int 0)) (.cons (.lc (.nm 1) (.val (.v 0)) (.of (.k (.bool true))) (.b1 .abs (.b1 .int (.v 1)))) .nil)))))) .nil)⟩
def ir__law_take : Fn := ⟨5, [true, false], false, (.cons (.ifs (.of (.cmp .eq (.idx (.b 0) (.k (.int 1))) (.k (.int 0)))) (.cons (.set [] 2 0 (.idx (.b 0) (.k (.int 2)))) (.cons (.set [] 3 0 (.k (.int 0))) (.cons (.ifs (.of (.cmp .lt (.v 2) (.b1 .len (.idx (.b 0) (.k (.int 3)))))) (.cons (.set [] 3 0 (.idx (.idx (.b 0) (.k (.int 3))) (.v 2))) (.cons (.put [] 0 (.k (.int 1)) (.ite (.of (.cmp .ge (.v 3) (.bin .pow (.k (.int 10)) (.k (.int 18))))) (.k (.int 60)) (.k (.int (-9))))) .nil)) .nil) (.cons (.put [] 0 (.k (.int 2)) (.bin .add (.v 2) (.k (.int 1)))) (.cons (.put [] 0 (.k (.int 0)) (.v 3)) (.cons (.ifs (.of (.cmp .eq (.idx (.b 0) (.k (.int 1))) (.k (.int 0)))) (.cons (.ret [] (.k (.int 0))) .nil) .nil) .nil)))))) .nil) (.cons (.ifs (.of (.cmp .gt (.idx (.b 0) (.k (.int 1))) (.k (.int 0)))) (.cons (.set [] 4 0 (.bin .mod (.b1 .int (.idx (.b 0) (.k (.int 0)))) (.v 1))) (.cons (.put [] 0 (.k (.int 0)) (.bin .fdiv (.idx (.b 0) (.k (.int 0))) (.v 1))) (.cons (.put [] 0 (.k (.int 1)) (.ite (.of (.cmp .gt (.idx (.b 0) (.k (.int 0))) (.k (.int 0)))) (.bin .sub (.idx (.b 0) (.k (.int 1))) (.k (.int 1))) (.k (.int 0)))) (.cons (.ret [] (.v 4)) .nil)))) .nil) (.cons (.put [] 0 (.k (.int 1)) (.bin .add (.idx (.b 0) (.k (.int 1))) (.k (.int 1)))) (.cons (.put [] 0 (.k (.int 0)) (.bin .mod (.b1 .int (.bin .add (.bin .mul (.idx (.b 0) (.k (.int 0))) (.k (.int 48271))) (.bin .mul (.k (.int 69621)) (.bin .add (.idx (.b 0) (.k (.int 1))) (.k (.int 20)))))) (.k (.int 2147483647)))) (.cons (.ret [] (.bin .mod (.bin .mod (.b1 .int (.bin .add (.bin .fdiv (.idx (.b 0) (.k (.int 0))) (.k (.int 7))) (.idx (.b 0) (.k (.int 0))))) (.k (.int 1000003))) (.v 1))) .nil)))))⟩
def ir__law_pick : Fn := ⟨2, [true, false], false, (.cons (.ret [] (.idx (.v 1) (.call 6 (.cons (.io 0) (.cons (.b1 .len (.v 1)) .nil))))) .nil)⟩
def ir__law_kind : Fn := ⟨4, [true, false], false, (.cons (.set [] 2 0 (.call 6 (.cons (.io 0) (.cons (.k (.int 10)) .nil)))) (.cons (.ifs (.or (.of (.cmp .le (.v 1) (.k (.int 1)))) (.of (.cmp .lt (.v 2) (.k (.int 2))))) (.cons (.ret [] (.tup (.cons (.k (.str .number)) (.cons (.call 7 (.cons (.io 0) (.cons (.lst (.cons (.k (.int 2)) (.cons (.k (.int 2)) (.cons (.k (.int 3)) (.cons (.k (.int 5)) (.cons (.k (.int 10)) (.cons (.k (.int 1000)) (.cons (.bin .add (.k (.int 2)) (.call 6 (.cons (.io 0) (.cons (.k (.int 999)) .nil)))) .nil)))))))) .nil))) .nil)))) .nil) .nil) (.cons (.ifs (.of (.cmp .lt (.v 2) (.k (.int 4)))) (.cons (.ret [] (.tup (.cons (.k (.str .record)) (.cons (.b1 .tupleOf (.lc (.nm 3) (.range (.call 7 (.cons (.io 0) (.cons (.lst (.cons (.k (.int 1)) (.cons (.k (.int 2)) (.cons (.k (.int 2)) (.cons (.k (.int 3)) (.cons (.k (.int 4)) .nil)))))) .nil)))) (.of (.k (.bool true))) (.call 8 (.cons (.io 0) (.cons (.bin .sub (.v 1) (.k (.int 1))) .nil))))) .nil)))) .nil) .nil) (.cons (.ifs (.of (.cmp .eq (.v 2) (.k (.int 4)))) (.cons (.ret [] (.tup (.cons (.k (.str .choice)) (.cons (.b1 .tupleOf (.lc (.nm 3) (.range (.call 7 (.cons (.io 0) (.cons (.lst (.cons (.k (.int 2)) (.cons (.k (.int 2)) (.cons (.k (.int 3)) (.cons (.k (.int 4)) .nil))))) .nil)))) (.of (.k (.bool true))) (.call 8 (.cons (.io 0) (.cons (.bin .sub (.v 1) (.k (.int 1))) .nil))))) .nil)))) .nil) .nil) (.cons (.ifs (.of (.cmp .lt (.v 2) (.k (.int 7)))) (.cons (.ret [] (.tup (.cons (.k (.str .row)) (.cons (.call 8 (.cons (.io 0) (.cons (.bin .sub (.v 1) (.k (.int 1))) .nil))) .nil)))) .nil) .nil) (.cons (.ifs (.of (.cmp .lt (.v 2) (.k (.int 9)))) (.cons (.ret [] (.tup (.cons (.call 7 (.cons (.io 0) (.cons (.lst (.cons (.k (.str .set)) (.cons (.k (.str .bag)) .nil))) .nil))) (.cons (.call 8 (.cons (.io 0) (.cons (.bin .sub (.v 1) (.k (.int 1))) .nil))) .nil)))) .nil) .nil) (.cons (.ret [] (.tup (.cons (.k (.str .table)) (.cons (.call 8 (.cons (.io 0) (.cons (.bin .sub (.v 1) (.k (.int 2))) .nil))) (.cons (.call 8 (.cons (.io 0) (.cons (.bin .sub (.v 1) (.k (.int 1))) .nil))) .nil))))) .nil)))))))⟩
def ir__law_inner : Fn := ⟨1, [false], false, (.cons (.ifs (.of (.cmp .in_ (.idx (.v 0) (.k (.int 0))) (.tup (.cons (.k (.str .record)) (.cons (.k (.str .choice)) .nil))))) (.cons (.ret [] (.b1 .listOf (.idx (.v 0) (.k (.int 1))))) .nil) .nil) (.cons (.ret [] (.ite (.of (.cmp .ne (.idx (.v 0) (.k (.int 0))) (.k (.str .number)))) (.b1 .listOf (.slice (.v 0) (.k (.int 1)) .omit)) (.lst .nil))) .nil))⟩
def ir__law_many : Fn := ⟨2, [false], false, (.cons (.ret [] (.bin .add (.k (.int 1)) (.b1 .sum (.lc (.nm 1) (.val (.call 9 (.cons (.v 0) .nil))) (.of (.k (.bool true))) (.call 10 (.cons (.v 1) .nil)))))) .nil)⟩
def ir__law_some_kind : Fn := ⟨2, [true], false, (.cons (.set [] 1 0 (.call 8 (.cons (.io 0) (.cons (.call 7 (.cons (.io 0) (.cons (.lst (.cons (.k (.int 2)) (.cons (.k (.int 3)) (.cons (.k (.int 3)) (.cons (.k (.int 4)) (.cons (.k (.int 5)) .nil)))))) .nil))) .nil)))) (.cons (.ret [] (.ite (.of (.cmp .le (.call 10 (.cons (.v 1) .nil)) (.k (.int 20)))) (.v 1) (.tup (.cons (.k (.str .row)) (.cons (.tup (.cons (.k (.str .number)) (.cons (.k (.int 3)) .nil))) .nil))))) .nil))⟩
def ir__law_few : Fn := ⟨10, [false, false], false, (.cons (.set [] 2 0 (.idx (.v 0) (.k (.int 0)))) (.cons (.ifs (.of (.cmp .eq (.v 2) (.k (.str .number)))) (.cons (.set [] 3 0 (.idx (.v 0) (.k (.int 1)))) .nil) (.cons (.ifs (.of (.cmp .in_ (.v 2) (.tup (.cons (.k (.str .row)) (.cons (.k (.str .bag)) .nil))))) (.cons (.ret [] (.k .non)) .nil) (.cons (.ifs (.of (.cmp .eq (.v 2) (.k (.str .set)))) (.cons (.set [] 3 0 (.call 39 (.cons (.idx (.v 0) (.k (.int 1))) (.cons (.k (.int 12)) .nil)))) (.cons (.set [] 3 0 (.ite (.of (.cmp .is_ (.v 3) (.k .non))) (.k .non) (.idx (.tup (.cons (.k (.int 1)) (.cons (.k (.int 2)) (.cons (.k (.int 4)) (.cons (.k (.int 8)) (.cons (.k (.int 16)) (.cons (.k (.int 32)) (.cons (.k (.int 64)) (.cons (.k (.int 128)) (.cons (.k (.int 256)) (.cons (.k (.int 512)) (.cons (.k (.int 1024)) (.cons (.k (.int 2048)) (.cons (.k (.int 4096)) .nil)))))))))))))) (.v 3)))) .nil)) (.cons (.ifs (.of (.cmp .eq (.v 2) (.k (.str .table)))) (.cons (.par [] [(6, 0), (7, 0)] (.cons (.call 39 (.cons (.idx (.v 0) (.k (.int 1))) (.cons (.k (.int 8)) .nil))) (.cons (.call 39 (.cons (.idx (.v 0) (.k (.int 2))) (.cons (.v 1) .nil))) .nil))) (.cons (.set [] 3 0 (.ite (.or (.of (.cmp .is_ (.v 6) (.k .non))) (.of (.cmp .is_ (.v 7) (.k .non)))) (.k .non) (.k (.int 1)))) (.cons (.for_ [] (.nm 4) (.range (.ite (.of (.cmp .eq (.v 3) (.k (.int 1)))) (.v 6) (.k (.int 0)))) (.cons (.set [] 3 0 (.bin .mul (.v 3) (.bin .add (.k (.int 1)) (.v 7)))) .nil)) .nil))) (.cons (.set [] 5 0 (.lc (.nm 9) (.val (.idx (.v 0) (.k (.int 1)))) (.of (.k (.bool true))) (.call 39 (.cons (.v 9) (.cons (.v 1) .nil))))) (.cons (.ifs (.of (.cmp .in_ (.k .non) (.v 5))) (.cons (.ret [] (.k .non)) .nil) .nil) (.cons (.set [] 3 0 (.b1 .sum (.v 5))) (.cons (.ifs (.of (.cmp .eq (.v 2) (.k (.str .record)))) (.cons (.set [] 3 0 (.k (.int 1))) (.cons (.for_ [] (.nm 8) (.val (.v 5)) (.cons (.set [] 3 0 (.bin .mul (.v 3) (.v 8))) .nil)) .nil)) .nil) .nil))))) .nil)) .nil)) .nil)) (.cons (.ret [] (.ite (.and (.of (.cmp .isNot (.v 3) (.k .non))) (.of (.cmp .le (.v 3) (.v 1)))) (.v 3) (.k .non))) .nil)))⟩
def ir__law_class : Fn := ⟨2, [false], false, (.cons (.set [] 1 0 (.lst (.cons (.isExc 1 (.v 0)) (.cons (.isExc 2 (.v 0)) (.cons (.isExc 3 (.v 0)) (.cons (.isExc 4 (.v 0)) .nil)))))) (.cons (.ifs (.or (.of (.cmp .ne (.count (.v 1) (.k (.bool true))) (.k (.int 1)))) (.or (.not (.of (.isExc 5 (.v 0)))) (.of (.cmp .ne (.b1 .strExc (.v 0)) (.k (.str .empty)))))) (.cons (.ret [] (.k (.str .several))) .nil) .nil) (.cons (.ret [] (.idx (.lst (.cons (.k (.str .kind)) (.cons (.k (.str .value)) (.cons (.k (.str .patch)) (.cons (.k (.str .unfit)) .nil))))) (.index (.v 1) (.k (.bool true))))) .nil)))⟩
def ir__law_small : Fn := ⟨4, [true, false], false, (.cons (.set [] 2 0 (.call 6 (.cons (.io 0) (.cons (.k (.int 7)) .nil)))) (.cons (.ifs (.or (.of (.cmp .le (.v 1) (.k (.int 1)))) (.of (.cmp .lt (.v 2) (.k (.int 2))))) (.cons (.ret [] (.tup (.cons (.k (.str .number)) (.cons (.call 7 (.cons (.io 0) (.cons (.lst (.cons (.k (.int 2)) (.cons (.k (.int 2)) (.cons (.k (.int 3)) (.cons (.k (.int 4)) (.cons (.k (.int 5)) (.cons (.k (.int 7)) .nil))))))) .nil))) .nil)))) .nil) .nil) (.cons (.ifs (.of (.cmp .lt (.v 2) (.k (.int 4)))) (.cons (.ret [] (.tup (.cons (.call 7 (.cons (.io 0) (.cons (.lst (.cons (.k (.str .record)) (.cons (.k (.str .choice)) .nil))) .nil))) (.cons (.b1 .tupleOf (.lc (.nm 3) (.range (.bin .add (.k (.int 2)) (.call 6 (.cons (.io 0) (.cons (.k (.int 2)) .nil))))) (.of (.k (.bool true))) (.call 40 (.cons (.io 0) (.cons (.bin .sub (.v 1) (.k (.int 1))) .nil))))) .nil)))) .nil) .nil) (.cons (.ifs (.of (.cmp .lt (.v 2) (.k (.int 6)))) (.cons (.ret [] (.ite (.of (.cmp .eq (.v 2) (.k (.int 4)))) (.tup (.cons (.k (.str .set)) (.cons (.call 40 (.cons (.io 0) (.cons (.bin .sub (.v 1) (.k (.int 1))) .nil))) .nil))) (.tup (.cons (.k (.str .table)) (.cons (.tup (.cons (.k (.str .number)) (.cons (.call 7 (.cons (.io 0) (.cons (.lst (.cons (.k (.int 2)) (.cons (.k (.int 2)) (.cons (.k (.int 3)) .nil)))) .nil))) .nil))) (.cons (.call 40 (.cons (.io 0) (.cons (.bin .sub (.v 1) (.k (.int 1))) .nil))) .nil)))))) .nil) .nil) (.cons (.ret [] (.tup (.cons (.call 7 (.cons (.io 0) (.cons (.lst (.cons (.k (.str .row)) (.cons (.k (.str .bag)) .nil))) .nil))) (.cons (.call 40 (.cons (.io 0) (.cons (.bin .sub (.v 1) (.k (.int 1))) .nil))) .nil)))) .nil)))))⟩
def ir__law_told_3 : Fn := ⟨3, [false, false], false, (.cons (.try_ (.cons (.ret [] (.call 38 (.cons (.v 0) (.cons (.v 1) .nil)))) .nil) 0 12) .nil)⟩
def ir_law_3 : Fn := ⟨7, [false], false, (.cons (.set [] 1 1 (.call 5 (.cons (.v 0) .nil))) (.cons (.for_ [] (.nm 2) (.range (.k (.int 6))) (.cons (.set [] 3 0 (.ite (.of (.cmp .gt (.v 2) (.k (.int 0)))) (.call 40 (.cons (.io 1) (.cons (.bin .add (.k (.int 1)) (.call 6 (.cons (.io 1) (.cons (.k (.int 4)) .nil)))) .nil))) (.call 11 (.cons (.io 1) .nil)))) (.cons (.ifs (.of (.cmp .gt (.call 10 (.cons (.v 3) .nil)) (.k (.int 20)))) (.cons (.set [] 3 0 (.tup (.cons (.k (.str .set)) (.cons (.tup (.cons (.k (.str .number)) (.cons (.k (.int 7)) .nil))) .nil)))) .nil) .nil) (.cons (.set [] 4 0 (.call 39 (.cons (.v 3) (.cons (.k (.int 2000)) .nil)))) (.cons (.set [] 5 0 (.bin .add (.lst (.cons (.call 6 (.cons (.io 1) (.cons (.k (.int 2001)) .nil))) (.cons (.k (.int 2000)) (.cons (.call 7 (.cons (.io 1) (.cons (.lst (.cons (.k (.int 0)) (.cons (.k (.int 1)) (.cons (.k (.int 2)) (.cons (.k (.int 10)) (.cons (.k (.int 200)) .nil)))))) .nil))) .nil)))) (.ite (.of (.cmp .isNot (.v 4) (.k .non))) (.lst (.cons (.v 4) (.cons (.bin .sub (.v 4) (.k (.int 1))) .nil))) (.lst .nil)))) (.cons (.for_ [] (.nm 6) (.val (.v 5)) (.cons (.ifs (.of (.cmp .ne (.b1 .repr (.call 41 (.cons (.v 3) (.cons (.v 6) .nil)))) (.b1 .repr (.call 39 (.cons (.v 3) (.cons (.v 6) .nil)))))) (.cons (.ret [] (.k (.bool false))) .nil) .nil) .nil)) .nil)))))) (.cons (.ret [] (.cmp .eq (.call 41 (.cons (.tup (.cons (.k (.str .set)) (.cons (.tup .nil) .nil))) (.cons (.k (.int 5)) .nil))) (.k (.str .kind)))) .nil)))⟩
def ir__law_number : Fn := ⟨3, [false, false, false], false, (.cons (.ret [] (.and (.isa .int (.v 0)) (.and (.not (.isa .bool (.v 0))) (.and (.cmp .le (.v 1) (.v 0)) (.cmp .le (.v 0) (.v 2)))))) .nil)⟩
def ir__law_is_kind : Fn := ⟨3, [false, false], false, (.cons (.ifs (.or (.of (.cmp .gt (.v 1) (.k (.int 5)))) (.or (.not (.of (.isa .tuple (.v 0)))) (.or (.of (.cmp .lt (.b1 .len (.v 0)) (.k (.int 2)))) (.not (.of (.isa .str (.idx (.v 0) (.k (.int 0))))))))) (.cons (.ret [] (.k (.bool false))) .nil) .nil) (.cons (.ifs (.of (.cmp .eq (.idx (.v 0) (.k (.int 0))) (.k (.str .number)))) (.cons (.ret [] (.and (.cmp .eq (.b1 .len (.v 0)) (.k (.int 2))) (.call 13 (.cons (.idx (.v 0) (.k (.int 1))) (.cons (.k (.int 2)) (.cons (.k (.int 1000)) .nil)))))) .nil) .nil) (.cons (.ifs (.of (.cmp .in_ (.idx (.v 0) (.k (.int 0))) (.tup (.cons (.k (.str .record)) (.cons (.k (.str .choice)) .nil))))) (.cons (.ifs (.or (.of (.cmp .ne (.b1 .len (.v 0)) (.k (.int 2)))) (.or (.not (.of (.isa .tuple (.idx (.v 0) (.k (.int 1)))))) (.not (.of (.chain .le .le (.ite (.of (.cmp .eq (.idx (.v 0) (.k (.int 0))) (.k (.str .record)))) (.k (.int 1)) (.k (.int 2))) (.b1 .len (.idx (.v 0) (.k (.int 1)))) (.k (.int 4))))))) (.cons (.ret [] (.k (.bool false))) .nil) .nil) (.cons (.ret [] (.cmp .notIn (.k (.bool false)) (.lc (.nm 2) (.val (.idx (.v 0) (.k (.int 1)))) (.of (.k (.bool true))) (.call 14 (.cons (.v 2) (.cons (.bin .add (.v 1) (.k (.int 1))) .nil)))))) .nil)) .nil) (.cons (.ifs (.of (.cmp .eq (.idx (.v 0) (.k (.int 0))) (.k (.str .table)))) (.cons (.ret [] (.and (.cmp .eq (.b1 .len (.v 0)) (.k (.int 3))) (.and (.call 14 (.cons (.idx (.v 0) (.k (.int 1))) (.cons (.bin .add (.v 1) (.k (.int 1))) .nil))) (.call 14 (.cons (.idx (.v 0) (.k (.int 2))) (.cons (.bin .add (.v 1) (.k (.int 1))) .nil)))))) .nil) .nil) (.cons (.ret [] (.and (.cmp .in_ (.idx (.v 0) (.k (.int 0))) (.tup (.cons (.k (.str .row)) (.cons (.k (.str .set)) (.cons (.k (.str .bag)) .nil))))) (.and (.cmp .eq (.b1 .len (.v 0)) (.k (.int 2))) (.call 14 (.cons (.idx (.v 0) (.k (.int 1))) (.cons (.bin .add (.v 1) (.k (.int 1))) .nil)))))) .nil)))))⟩
def ir__law_spoilt : Fn := ⟨4, [true, false], false, (.cons (.ifs (.or (.not (.of (.isa .tuple (.v 1)))) (.or (.of (.cmp .eq (.v 1) (.tup .nil))) (.of (.cmp .eq (.call 6 (.cons (.io 0) (.cons (.k (.int 8)) .nil))) (.k (.int 0)))))) (.cons (.ifs (.and (.of (.isa .int (.v 1))) (.and (.not (.of (.isa .bool (.v 1)))) (.of (.cmp .gt (.call 6 (.cons (.io 0) (.cons (.k (.int 3)) .nil))) (.k (.int 0)))))) (.cons (.ret [] (.bin .add (.v 1) (.call 7 (.cons (.io 0) (.cons (.lst (.cons (.k (.int 1)) (.cons (.k (.int (-1))) (.cons (.k (.int 2)) (.cons (.k (.int 1000)) .nil))))) .nil))))) .nil) .nil) (.cons (.ret [] (.call 7 (.cons (.io 0) (.cons (.lst (.cons (.k (.int 0)) (.cons (.k (.int 1)) (.cons (.k (.int (-1))) (.cons (.k (.bool true)) (.cons (.k (.bool false)) (.cons (.k .non) (.cons (.k (.str .row)) (.cons (.k (.str .same)) (.cons (.k (.str .x)) (.cons (.tup .nil) (.cons (.tup (.cons (.k (.str .same)) .nil)) (.cons (.tup (.cons (.k (.int 0)) (.cons (.k (.int 1)) .nil))) (.cons (.tup (.cons (.tup (.cons (.k (.int 0)) (.cons (.k (.int 1)) .nil))) .nil)) (.cons (.tup (.cons (.k (.str .number)) (.cons (.k (.int 2)) .nil))) (.cons (.tup (.cons (.k (.str .keep)) (.cons (.k (.int 1)) .nil))) (.cons (.tup (.cons (.k (.str .only)) (.cons (.k (.int 0)) .nil))) (.cons (.tup (.cons (.k (.str .cut)) (.cons (.k (.int 0)) .nil))) .nil)))))))))))))))))) .nil)))) .nil)) .nil) (.cons (.set [] 2 0 (.call 6 (.cons (.io 0) (.cons (.b1 .len (.v 1)) .nil)))) (.cons (.set [] 3 0 (.call 6 (.cons (.io 0) (.cons (.k (.int 6)) .nil)))) (.cons (.ifs (.of (.cmp .eq (.v 3) (.k (.int 0)))) (.cons (.ret [] (.bin .add (.slice (.v 1) .omit (.v 2)) (.slice (.v 1) (.bin .add (.v 2) (.k (.int 1))) .omit))) .nil) .nil) (.cons (.ifs (.of (.cmp .eq (.v 3) (.k (.int 1)))) (.cons (.ret [] (.bin .add (.bin .add (.slice (.v 1) .omit (.v 2)) (.tup (.cons (.idx (.v 1) (.v 2)) .nil))) (.slice (.v 1) (.v 2) .omit))) .nil) .nil) (.cons (.ifs (.and (.of (.cmp .eq (.v 3) (.k (.int 2)))) (.of (.cmp .gt (.v 2) (.k (.int 0))))) (.cons (.ret [] (.bin .add (.bin .add (.slice (.v 1) .omit (.bin .sub (.v 2) (.k (.int 1)))) (.tup (.cons (.idx (.v 1) (.v 2)) (.cons (.idx (.v 1) (.bin .sub (.v 2) (.k (.int 1)))) .nil)))) (.slice (.v 1) (.bin .add (.v 2) (.k (.int 1))) .omit))) .nil) .nil) (.cons (.ret [] (.bin .add (.bin .add (.slice (.v 1) .omit (.v 2)) (.tup (.cons (.call 15 (.cons (.io 0) (.cons (.idx (.v 1) (.v 2)) .nil))) .nil))) (.slice (.v 1) (.bin .add (.v 2) (.k (.int 1))) .omit))) .nil)))))))⟩
def ir__law_told : Fn := ⟨2, [false], false, (.cons (.try_ (.cons (.ret [] (.ite (.of (.cmp .is_ (.call 4 (.cons (.v 0) .nil)) (.k .non))) (.k (.str .let_)) (.k (.str .told)))) .nil) 0 12) .nil)⟩
def ir__law_is_right : Fn := ⟨1, [false], false, (.cons (.ret [] (.and (.call 14 (.cons (.v 0) (.cons (.k (.int 1)) .nil))) (.cmp .le (.call 10 (.cons (.v 0) .nil)) (.k (.int 20))))) .nil)⟩
def ir__law_near_bounds : Fn := ⟨6, [true], false, (.cons (.set [] 1 0 (.call 6 (.cons (.io 0) (.cons (.k (.int 2)) .nil)))) (.cons (.set [] 2 0 (.tup (.cons (.k (.str .number)) (.cons (.k (.int 2)) .nil)))) (.cons (.set [] 3 0 (.v 2)) (.cons (.for_ [] (.nm 4) (.range (.bin .add (.k (.int 4)) (.v 1))) (.cons (.set [] 3 0 (.call 7 (.cons (.io 0) (.cons (.lst (.cons (.tup (.cons (.k (.str .row)) (.cons (.v 3) .nil))) (.cons (.tup (.cons (.k (.str .set)) (.cons (.v 3) .nil))) (.cons (.tup (.cons (.k (.str .record)) (.cons (.tup (.cons (.v 3) .nil)) .nil))) (.cons (.tup (.cons (.k (.str .table)) (.cons (.v 2) (.cons (.v 3) .nil)))) (.cons (.tup (.cons (.k (.str .bag)) (.cons (.v 3) .nil))) (.cons (.tup (.cons (.k (.str .choice)) (.cons (.tup (.cons (.v 2) (.cons (.v 3) .nil))) .nil))) .nil))))))) .nil)))) .nil)) (.cons (.set [] 5 0 (.tup (.cons (.k (.str .record)) (.cons (.tup (.cons (.tup (.cons (.k (.str .record)) (.cons (.bin .mul (.tup (.cons (.v 2) .nil)) (.k (.int 4))) .nil))) (.cons (.tup (.cons (.k (.str .record)) (.cons (.bin .mul (.tup (.cons (.v 2) .nil)) (.k (.int 4))) .nil))) (.cons (.tup (.cons (.k (.str .record)) (.cons (.bin .mul (.tup (.cons (.v 2) .nil)) (.k (.int 4))) .nil))) (.cons (.ite (.of (.cmp .eq (.v 1) (.k (.int 0)))) (.tup (.cons (.k (.str .record)) (.cons (.bin .mul (.tup (.cons (.v 2) .nil)) (.bin .add (.k (.int 3)) (.v 1))) .nil))) (.tup (.cons (.k (.str .record)) (.cons (.bin .mul (.tup (.cons (.v 2) .nil)) (.k (.int 4))) .nil)))) .nil))))) .nil)))) (.cons (.ret [] (.call 7 (.cons (.io 0) (.cons (.lst (.cons (.v 3) (.cons (.tup (.cons (.k (.str .number)) (.cons (.bin .add (.k (.int 1000)) (.v 1)) .nil))) (.cons (.tup (.cons (.k (.str .number)) (.cons (.bin .sub (.k (.int 2)) (.v 1)) .nil))) (.cons (.tup (.cons (.k (.str .record)) (.cons (.bin .mul (.tup (.cons (.v 2) .nil)) (.bin .add (.k (.int 4)) (.v 1))) .nil))) (.cons (.tup (.cons (.k (.str .choice)) (.cons (.bin .mul (.tup (.cons (.v 2) .nil)) (.bin .add (.k (.int 4)) (.v 1))) .nil))) (.cons (.tup (.cons (.k (.str .choice)) (.cons (.bin .mul (.tup (.cons (.v 2) .nil)) (.bin .sub (.k (.int 2)) (.v 1))) .nil))) (.cons (.tup (.cons (.k (.str .record)) (.cons (.tup .nil) .nil))) (.cons (.v 5) .nil))))))))) .nil)))) .nil))))))⟩
def ir_law : Fn := ⟨7, [false], false, (.cons (.set [] 1 1 (.call 5 (.cons (.v 0) .nil))) (.cons (.for_ [] (.nm 2) (.range (.k (.int 3))) (.cons (.set [] 4 0 (.call 11 (.cons (.io 1) .nil))) (.cons (.set [] 5 0 (.call 15 (.cons (.io 1) (.cons (.v 4) .nil)))) (.cons (.for_ [] (.nm 6) (.val (.tup (.cons (.v 4) (.cons (.v 5) (.cons (.call 15 (.cons (.io 1) (.cons (.v 5) .nil))) (.cons (.call 18 (.cons (.io 1) .nil)) (.cons (.call 7 (.cons (.io 1) (.cons (.lst (.cons (.k .non) (.cons (.k (.int 0)) (.cons (.k (.str .number)) (.cons (.tup .nil) (.cons (.tup (.cons (.k (.str .number)) .nil)) (.cons (.tup (.cons (.k (.str .row)) .nil)) (.cons (.tup (.cons (.k (.str .table)) (.cons (.tup (.cons (.k (.str .number)) (.cons (.k (.int 2)) .nil))) .nil))) (.cons (.tup (.cons (.k (.str .number)) (.cons (.k (.bool true)) .nil))) (.cons (.tup (.cons (.k (.str .rows)) (.cons (.tup (.cons (.k (.str .number)) (.cons (.k (.int 2)) .nil))) .nil))) .nil)))))))))) .nil))) .nil))))))) (.cons (.ifs (.of (.cmp .ne (.call 16 (.cons (.v 6) .nil)) (.ite (.of (.call 17 (.cons (.v 6) .nil))) (.k (.str .let_)) (.k (.str .kind))))) (.cons (.ret [] (.k (.bool false))) .nil) .nil) .nil)) .nil)))) (.cons (.for_ [] (.nm 3) (.val (.tup (.cons (.mkExc 0) (.cons (.mkExc 1) (.cons (.mkExc 2) (.cons (.mkExc 3) (.cons (.mkExc 4) .nil))))))) (.cons (.ifs (.or (.not (.of (.isExc 0 (.v 3)))) (.or (.not (.of (.isExc 5 (.v 3)))) (.of (.cmp .ne (.b1 .strExc (.v 3)) (.k (.str .empty)))))) (.cons (.ret [] (.k (.bool false))) .nil) .nil) .nil)) (.cons (.ret [] (.k (.bool true))) .nil))))⟩
def tbl (i : Nat) : Option Fn := (bif Nat.ble 13 i then (bif Nat.ble 36 i then (bif Nat.ble 39 i then (bif Nat.ble 41 i then (bif Nat.ble 42 i then (bif Nat.beq i 42 then some ir_law_3 else none) else (bif Nat.beq i 41 then some ir__law_told_3 else none)) else (bif Nat.ble 40 i then (bif Nat.beq i 40 then some ir__law_small else none) else (bif Nat.beq i 39 then some ir__law_few else none))) else (bif Nat.ble 37 i then (bif Nat.ble 38 i then (bif Nat.beq i 38 then some ir_few else none) else (bif Nat.beq i 37 then some ir_count_up_to else none)) else (bif Nat.beq i 36 then some ir_power_up_to else none))) else (bif Nat.ble 16 i then (bif Nat.ble 18 i then (bif Nat.ble 19 i then (bif Nat.beq i 19 then some ir_law else none) else (bif Nat.beq i 18 then some ir__law_near_bounds else none)) else (bif Nat.ble 17 i then (bif Nat.beq i 17 then some ir__law_is_right else none) else (bif Nat.beq i 16 then some ir__law_told else none))) else (bif Nat.ble 14 i then (bif Nat.ble 15 i then (bif Nat.beq i 15 then some ir__law_spoilt else none) else (bif Nat.beq i 14 then some ir__law_is_kind else none)) else (bif Nat.beq i 13 then some ir__law_number else none)))) else (bif Nat.ble 6 i then (bif Nat.ble 9 i then (bif Nat.ble 11 i then (bif Nat.ble 12 i then (bif Nat.beq i 12 then some ir__law_class else none) else (bif Nat.beq i 11 then some ir__law_some_kind else none)) else (bif Nat.ble 10 i then (bif Nat.beq i 10 then some ir__law_many else none) else (bif Nat.beq i 9 then some ir__law_inner else none))) else (bif Nat.ble 7 i then (bif Nat.ble 8 i then (bif Nat.beq i 8 then some ir__law_kind else none) else (bif Nat.beq i 7 then some ir__law_pick else none)) else (bif Nat.beq i 6 then some ir__law_take else none))) else (bif Nat.ble 3 i then (bif Nat.ble 4 i then (bif Nat.ble 5 i then (bif Nat.beq i 5 then some ir__law_box else none) else (bif Nat.beq i 4 then some ir_check_kind else none)) else (bif Nat.beq i 3 then some ir_is_kind else none)) else (bif Nat.ble 1 i then (bif Nat.ble 2 i then (bif Nat.beq i 2 then some ir_kinds_in else none) else (bif Nat.beq i 1 then some ir_inner_kinds else none)) else (bif Nat.beq i 0 then some ir_is_whole else none)))))
def fLaw : Nat := 42
def top (i : Nat) : Stmt := PySem.Challenge.pw_corrigenda_k03_how_many_values.main.body.getD i (.Pass ⟨0, 0, 0, 0⟩)
def gG : Gs where
  funs := [("is_whole", 0), ("inner_kinds", 1), ("kinds_in", 2), ("is_kind", 3), ("power_up_to", 36), ("count_up_to", 37), ("check_kind", 4), ("few", 38), ("_law_box", 5), ("_law_take", 6), ("_law_pick", 7), ("_law_kind", 8), ("_law_inner", 9), ("_law_many", 10), ("_law_some_kind", 11), ("_law_few", 39), ("_law_small", 40), ("_law_told", 41), ("law", 42)]
  errs := [("CorrigendaError", 0), ("BadKind", 1), ("BadValue", 2), ("BadPatch", 3), ("Unfit", 4)]
  consts := [("MOST_LEVELS", (.int 5)), ("MOST_KINDS", (.int 20))]
  blts := ["len", "int", "abs", "sum", "min", "max", "tuple", "list", "str", "bool", "isinstance", "range", "ValueError", "all", "repr"]
  tb := tbl
  eh := [("_law_class", 12)]
def sc_is_whole : Sc := ⟨["x", "low", "high"], defScope (top 9), false, fun _ => true, false⟩
theorem ck_is_whole : chkSs gG sc_is_whole ir_is_whole.fresh false ir_is_whole.body (defBody (top 9)) = true := by decide +kernel
def sc_inner_kinds : Sc := ⟨["kind", "word", "least", "right"], defScope (top 10), false, fun _ => true, false⟩
theorem ck_inner_kinds : chkSs gG sc_inner_kinds ir_inner_kinds.fresh false ir_inner_kinds.body (defBody (top 10)) = true := by decide +kernel
def sc_kinds_in : Sc := ⟨["kind", "levels", "inner", "counts", "part"], defScope (top 11), false, fun _ => true, false⟩
theorem ck_kinds_in : chkSs gG sc_kinds_in ir_kinds_in.fresh false ir_kinds_in.body (defBody (top 11)) = true := by decide +kernel
def sc_is_kind : Sc := ⟨["kind"], defScope (top 12), false, fun _ => true, false⟩
theorem ck_is_kind : chkSs gG sc_is_kind ir_is_kind.fresh false ir_is_kind.body (defBody (top 12)) = true := by decide +kernel
def sc_power_up_to : Sc := ⟨["base", "many", "most", "found", "_turn"], defScope (top 13), false, fun _ => true, false⟩
theorem ck_power_up_to : chkSs gG sc_power_up_to ir_power_up_to.fresh false ir_power_up_to.body (defBody (top 13)) = true := by decide +kernel
def sc_count_up_to : Sc := ⟨["kind", "most", "word", "many", "base", "found", "part"], defScope (top 14), false, fun _ => true, true⟩
theorem ck_count_up_to : chkSs gG sc_count_up_to ir_count_up_to.fresh false ir_count_up_to.body (defBody (top 14)) = true := by decide +kernel
def sc_check_kind : Sc := ⟨["kind"], defScope (top 16), false, fun _ => true, false⟩
theorem ck_check_kind : chkSs gG sc_check_kind ir_check_kind.fresh false ir_check_kind.body (defBody (top 16)) = true := by decide +kernel
def sc_few : Sc := ⟨["kind", "most", "found"], defScope (top 17), false, fun _ => true, false⟩
theorem ck_few : chkSs gG sc_few ir_few.fresh false ir_few.body (defBody (top 17)) = true := by decide +kernel
def sc__law_box : Sc := ⟨["_law_script", "_law_x"], defScope (top 19), false, fun _ => true, false⟩
theorem ck__law_box : chkSs gG sc__law_box ir__law_box.fresh false ir__law_box.body (defBody (top 19)) = true := by decide +kernel
def sc__law_take : Sc := ⟨["_law_box_here", "_law_m", "_law_at", "_law_cell", "_law_told_here"], defScope (top 20), false, fun _ => true, false⟩
theorem ck__law_take : chkSs gG sc__law_take ir__law_take.fresh true ir__law_take.body (defBody (top 20)) = true := by decide +kernel
def sc__law_pick : Sc := ⟨["_law_box_here", "_law_menu"], defScope (top 21), false, fun _ => true, false⟩
theorem ck__law_pick : chkSs gG sc__law_pick ir__law_pick.fresh true ir__law_pick.body (defBody (top 21)) = true := by decide +kernel
def sc__law_kind : Sc := ⟨["_law_box_here", "_law_deep", "_law_sort", "_law_k"], defScope (top 22), false, fun _ => true, false⟩
theorem ck__law_kind : chkSs gG sc__law_kind ir__law_kind.fresh true ir__law_kind.body (defBody (top 22)) = true := by decide +kernel
def sc__law_inner : Sc := ⟨["_law_kind_here"], defScope (top 23), false, fun _ => true, false⟩
theorem ck__law_inner : chkSs gG sc__law_inner ir__law_inner.fresh false ir__law_inner.body (defBody (top 23)) = true := by decide +kernel
def sc__law_many : Sc := ⟨["_law_kind_here", "_law_one"], defScope (top 24), false, fun _ => true, false⟩
theorem ck__law_many : chkSs gG sc__law_many ir__law_many.fresh false ir__law_many.body (defBody (top 24)) = true := by decide +kernel
def sc__law_some_kind : Sc := ⟨["_law_box_here", "_law_kind_here"], defScope (top 25), false, fun _ => true, false⟩
theorem ck__law_some_kind : chkSs gG sc__law_some_kind ir__law_some_kind.fresh true ir__law_some_kind.body (defBody (top 25)) = true := by decide +kernel
def sc__law_few : Sc := ⟨["_law_kind_here", "_law_most", "_law_word", "_law_found", "_law_k", "_law_counts", "_law_keys", "_law_entries", "_law_count", "_law_one"], defScope (top 26), false, fun _ => true, false⟩
theorem ck__law_few : chkSs gG sc__law_few ir__law_few.fresh false ir__law_few.body (defBody (top 26)) = true := by decide +kernel
def sc__law_class : Sc := ⟨["_law_e", "_law_kinds"], defScope (top 27), true, fun _ => true, false⟩
theorem ck__law_class : chkSs gG.still sc__law_class ir__law_class.fresh false ir__law_class.body (defBody (top 27)) = true := by decide +kernel
def sc__law_small : Sc := ⟨["_law_box_here", "_law_deep", "_law_sort", "_law_k"], defScope (top 28), false, fun _ => true, false⟩
theorem ck__law_small : chkSs gG sc__law_small ir__law_small.fresh true ir__law_small.body (defBody (top 28)) = true := by decide +kernel
def sc__law_told : Sc := ⟨["_law_kind_here", "_law_most", "_law_e"], defScope (top 29), false, fun _ => true, false⟩
theorem ck__law_told : chkSs gG sc__law_told ir__law_told_3.fresh false ir__law_told_3.body (defBody (top 29)) = true := by decide +kernel
def sc_law : Sc := ⟨["_law_script", "_law_box_here", "_law_turn", "_law_kind_here", "_law_many_here", "_law_bounds", "_law_most"], defScope (top 30), false, fun _ => true, false⟩
theorem ck_law : chkSs gG sc_law ir_law_3.fresh false ir_law_3.body (defBody (top 30)) = true := by decide +kernel
def dd_is_whole : He.DefD := ⟨("is_whole", none), "is_whole", "is_whole", defArgs (top 9), defBody (top 9), defScope (top 9), [], []⟩
def dd_inner_kinds : He.DefD := ⟨("inner_kinds", none), "inner_kinds", "inner_kinds", defArgs (top 10), defBody (top 10), defScope (top 10), [], []⟩
def dd_kinds_in : He.DefD := ⟨("kinds_in", none), "kinds_in", "kinds_in", defArgs (top 11), defBody (top 11), defScope (top 11), [], []⟩
def dd_is_kind : He.DefD := ⟨("is_kind", none), "is_kind", "is_kind", defArgs (top 12), defBody (top 12), defScope (top 12), [], []⟩
def dd_power_up_to : He.DefD := ⟨("power_up_to", none), "power_up_to", "power_up_to", defArgs (top 13), defBody (top 13), defScope (top 13), [], []⟩
def dd_count_up_to : He.DefD := ⟨("count_up_to", none), "count_up_to", "count_up_to", defArgs (top 14), defBody (top 14), defScope (top 14), [], []⟩
def dd_check_kind : He.DefD := ⟨("check_kind", none), "check_kind", "check_kind", defArgs (top 16), defBody (top 16), defScope (top 16), [], []⟩
def dd_few : He.DefD := ⟨("few", none), "few", "few", defArgs (top 17), defBody (top 17), defScope (top 17), [], []⟩
def dd__law_box : He.DefD := ⟨("_law_box", none), "_law_box", "_law_box", defArgs (top 19), defBody (top 19), defScope (top 19), [], []⟩
def dd__law_take : He.DefD := ⟨("_law_take", none), "_law_take", "_law_take", defArgs (top 20), defBody (top 20), defScope (top 20), [], []⟩
def dd__law_pick : He.DefD := ⟨("_law_pick", none), "_law_pick", "_law_pick", defArgs (top 21), defBody (top 21), defScope (top 21), [], []⟩
def dd__law_kind : He.DefD := ⟨("_law_kind", none), "_law_kind", "_law_kind", defArgs (top 22), defBody (top 22), defScope (top 22), [], []⟩
def dd__law_inner : He.DefD := ⟨("_law_inner", none), "_law_inner", "_law_inner", defArgs (top 23), defBody (top 23), defScope (top 23), [], []⟩
def dd__law_many : He.DefD := ⟨("_law_many", none), "_law_many", "_law_many", defArgs (top 24), defBody (top 24), defScope (top 24), [], []⟩
def dd__law_some_kind : He.DefD := ⟨("_law_some_kind", none), "_law_some_kind", "_law_some_kind", defArgs (top 25), defBody (top 25), defScope (top 25), [], []⟩
def dd__law_few : He.DefD := ⟨("_law_few", none), "_law_few", "_law_few", defArgs (top 26), defBody (top 26), defScope (top 26), [], []⟩
def dd__law_class : He.DefD := ⟨("_law_class", none), "_law_class", "_law_class", defArgs (top 27), defBody (top 27), defScope (top 27), [], []⟩
def dd__law_small : He.DefD := ⟨("_law_small", none), "_law_small", "_law_small", defArgs (top 28), defBody (top 28), defScope (top 28), [], []⟩
def dd__law_told : He.DefD := ⟨("_law_told", none), "_law_told", "_law_told", defArgs (top 29), defBody (top 29), defScope (top 29), [], []⟩
def dd_law : He.DefD := ⟨("law", none), "law", "law", defArgs (top 30), defBody (top 30), defScope (top 30), [], []⟩
def fnL : List He.DefD := [dd_is_whole, dd_inner_kinds, dd_kinds_in, dd_is_kind, dd_power_up_to, dd_count_up_to, dd_check_kind, dd_few, dd__law_box, dd__law_take, dd__law_pick, dd__law_kind, dd__law_inner, dd__law_many, dd__law_some_kind, dd__law_few, dd__law_class, dd__law_small, dd__law_told, dd_law]
def faL : List He.Fa := [.glo "is_whole", .glo "inner_kinds", .glo "kinds_in", .glo "is_kind", .glo "power_up_to", .glo "count_up_to", .glo "check_kind", .glo "few", .glo "_law_box", .glo "_law_take", .glo "_law_pick", .glo "_law_kind", .glo "_law_inner", .glo "_law_many", .glo "_law_some_kind", .glo "_law_few", .glo "_law_class", .glo "_law_small", .glo "_law_told", .glo "law", .glo "CorrigendaError", .glo "BadKind", .glo "BadValue", .glo "BadPatch", .glo "Unfit", .exc "CorrigendaError", .exc "BadKind", .exc "BadValue", .exc "BadPatch", .exc "Unfit", .free "len", .free "int", .free "abs", .free "sum", .free "min", .free "max", .free "tuple", .free "list", .free "str", .free "bool", .free "isinstance", .free "range", .free "ValueError", .free "all", .free "repr", .int "MOST_LEVELS" 5, .int "MOST_KINDS" 20]
abbrev RR : PySem.W.OpenRow := PySem.W.OpenLaw.row PySem.Challenge.rw_corrigenda_k03_how_many_values
def tfL : List He.Defn := [("count_up_to", none)]
abbrev hkL : PySem.W.Hook := He.hookX 4 faL fnL [] tfL errB
def obL (s : PySem.W.SharedT) : He.AlX := He.obsX 4 faL fnL [] tfL errB (HandSHeadRun.getT s)
theorem obL_eq (s : PySem.W.SharedT) : obL s = hkL.obs s.abs := He.obsX_eq (HandSHeadRun.getT_eq s)
def loose0 : List Str := ["CorrigendaError", "BadKind", "BadValue", "BadPatch", "Unfit", "MOST_LEVELS", "MOST_KINDS", "is_whole", "inner_kinds", "kinds_in", "is_kind", "power_up_to", "count_up_to", "check_kind", "few", "_law_box", "_law_take", "_law_pick", "_law_kind", "_law_inner", "_law_many", "_law_some_kind", "_law_few", "_law_class", "_law_small", "_law_told"]
abbrev looseL : List Str := loose0
theorem runL (w : World) : HandSHeadRun.RunEq RR (PySem.W.view RR.prog [30]) hkL obL 3000 looseL w := by
  intro os
  kernel_rfl
section
variable {K : PySem.W.Frag} {h : Heap} {mg : Str → Option Value}
theorem ok_is_whole (X : K.In h) (Gn : h.Ns mainGlobals mg) (TB : ∀ q ∈ tfL, GxR.TabB h mg (He.cT K q).1 (He.cT K q).2) (c : SaysX faL fnL errB K) : DefOk K mg h (tfL.map fun q => (He.cT K q).2) gG "is_whole" 0 := by
  obtain ⟨fd, F⟩ := c.2.def_ 0 (d := dd_is_whole) rfl
  exact ⟨_, fd, sc_is_whole, ["x", "low", "high"], ir_is_whole, _, _, He.glo_ok X Gn (c.2.fact 0 (f := .glo "is_whole") rfl), F, FunD.bindsN F (fun _ _ _ _ _ _ us hl => match us, hl with | [_, _, _], _ => rfl), ⟨rfl, rfl, rfl, by decide +kernel, rfl, by decide +kernel, by decide +kernel⟩, rfl, rfl, fun z => absurd z (by decide), rfl, rfl, by decide, ck_is_whole⟩
theorem ok_inner_kinds (X : K.In h) (Gn : h.Ns mainGlobals mg) (TB : ∀ q ∈ tfL, GxR.TabB h mg (He.cT K q).1 (He.cT K q).2) (c : SaysX faL fnL errB K) : DefOk K mg h (tfL.map fun q => (He.cT K q).2) gG "inner_kinds" 1 := by
  obtain ⟨fd, F⟩ := c.2.def_ 1 (d := dd_inner_kinds) rfl
  exact ⟨_, fd, sc_inner_kinds, ["kind"], ir_inner_kinds, _, _, He.glo_ok X Gn (c.2.fact 1 (f := .glo "inner_kinds") rfl), F, FunD.bindsN F (fun _ _ _ _ _ _ us hl => match us, hl with | [_], _ => rfl), ⟨rfl, rfl, rfl, by decide +kernel, rfl, by decide +kernel, by decide +kernel⟩, rfl, rfl, fun z => absurd z (by decide), rfl, rfl, by decide, ck_inner_kinds⟩
theorem ok_kinds_in (X : K.In h) (Gn : h.Ns mainGlobals mg) (TB : ∀ q ∈ tfL, GxR.TabB h mg (He.cT K q).1 (He.cT K q).2) (c : SaysX faL fnL errB K) : DefOk K mg h (tfL.map fun q => (He.cT K q).2) gG "kinds_in" 2 := by
  obtain ⟨fd, F⟩ := c.2.def_ 2 (d := dd_kinds_in) rfl
  exact ⟨_, fd, sc_kinds_in, ["kind", "levels"], ir_kinds_in, _, _, He.glo_ok X Gn (c.2.fact 2 (f := .glo "kinds_in") rfl), F, FunD.bindsN F (fun _ _ _ _ _ _ us hl => match us, hl with | [_, _], _ => rfl), ⟨rfl, rfl, rfl, by decide +kernel, rfl, by decide +kernel, by decide +kernel⟩, rfl, rfl, fun z => absurd z (by decide), rfl, rfl, by decide, ck_kinds_in⟩
theorem ok_is_kind (X : K.In h) (Gn : h.Ns mainGlobals mg) (TB : ∀ q ∈ tfL, GxR.TabB h mg (He.cT K q).1 (He.cT K q).2) (c : SaysX faL fnL errB K) : DefOk K mg h (tfL.map fun q => (He.cT K q).2) gG "is_kind" 3 := by
  obtain ⟨fd, F⟩ := c.2.def_ 3 (d := dd_is_kind) rfl
  exact ⟨_, fd, sc_is_kind, ["kind"], ir_is_kind, _, _, He.glo_ok X Gn (c.2.fact 3 (f := .glo "is_kind") rfl), F, FunD.bindsN F (fun _ _ _ _ _ _ us hl => match us, hl with | [_], _ => rfl), ⟨rfl, rfl, rfl, by decide +kernel, rfl, by decide +kernel, by decide +kernel⟩, rfl, rfl, fun z => absurd z (by decide), rfl, rfl, by decide, ck_is_kind⟩
theorem ok_power_up_to (X : K.In h) (Gn : h.Ns mainGlobals mg) (TB : ∀ q ∈ tfL, GxR.TabB h mg (He.cT K q).1 (He.cT K q).2) (c : SaysX faL fnL errB K) : DefOk K mg h (tfL.map fun q => (He.cT K q).2) gG "power_up_to" 36 := by
  obtain ⟨fd, F⟩ := c.2.def_ 4 (d := dd_power_up_to) rfl
  exact ⟨_, fd, sc_power_up_to, ["base", "many", "most"], ir_power_up_to, _, _, He.glo_ok X Gn (c.2.fact 4 (f := .glo "power_up_to") rfl), F, FunD.bindsN F (fun _ _ _ _ _ _ us hl => match us, hl with | [_, _, _], _ => rfl), ⟨rfl, rfl, rfl, by decide +kernel, rfl, by decide +kernel, by decide +kernel⟩, rfl, rfl, fun z => absurd z (by decide), rfl, rfl, by decide, ck_power_up_to⟩
theorem ok_count_up_to (X : K.In h) (Gn : h.Ns mainGlobals mg) (TB : ∀ q ∈ tfL, GxR.TabB h mg (He.cT K q).1 (He.cT K q).2) (c : SaysX faL fnL errB K) : DefOk K mg h (tfL.map fun q => (He.cT K q).2) gG "count_up_to" 37 := by
  obtain ⟨fd, F⟩ := c.2.def_ 5 (d := dd_count_up_to) rfl
  exact ⟨_, fd, sc_count_up_to, ["kind", "most"], ir_count_up_to, _, _, He.glo_ok X Gn (c.2.fact 5 (f := .glo "count_up_to") rfl), F, FunD.bindsN F (fun _ _ _ _ _ _ us hl => match us, hl with | [_, _], _ => rfl), ⟨rfl, rfl, rfl, by decide +kernel, rfl, by decide +kernel, by decide +kernel⟩, rfl, rfl, fun _ => tab_of TB (by decide) F, rfl, rfl, by decide, ck_count_up_to⟩
theorem ok_check_kind (X : K.In h) (Gn : h.Ns mainGlobals mg) (TB : ∀ q ∈ tfL, GxR.TabB h mg (He.cT K q).1 (He.cT K q).2) (c : SaysX faL fnL errB K) : DefOk K mg h (tfL.map fun q => (He.cT K q).2) gG "check_kind" 4 := by
  obtain ⟨fd, F⟩ := c.2.def_ 6 (d := dd_check_kind) rfl
  exact ⟨_, fd, sc_check_kind, ["kind"], ir_check_kind, _, _, He.glo_ok X Gn (c.2.fact 6 (f := .glo "check_kind") rfl), F, FunD.bindsN F (fun _ _ _ _ _ _ us hl => match us, hl with | [_], _ => rfl), ⟨rfl, rfl, rfl, by decide +kernel, rfl, by decide +kernel, by decide +kernel⟩, rfl, rfl, fun z => absurd z (by decide), rfl, rfl, by decide, ck_check_kind⟩
theorem ok_few (X : K.In h) (Gn : h.Ns mainGlobals mg) (TB : ∀ q ∈ tfL, GxR.TabB h mg (He.cT K q).1 (He.cT K q).2) (c : SaysX faL fnL errB K) : DefOk K mg h (tfL.map fun q => (He.cT K q).2) gG "few" 38 := by
  obtain ⟨fd, F⟩ := c.2.def_ 7 (d := dd_few) rfl
  exact ⟨_, fd, sc_few, ["kind", "most"], ir_few, _, _, He.glo_ok X Gn (c.2.fact 7 (f := .glo "few") rfl), F, FunD.bindsN F (fun _ _ _ _ _ _ us hl => match us, hl with | [_, _], _ => rfl), ⟨rfl, rfl, rfl, by decide +kernel, rfl, by decide +kernel, by decide +kernel⟩, rfl, rfl, fun z => absurd z (by decide), rfl, rfl, by decide, ck_few⟩
theorem ok__law_box (X : K.In h) (Gn : h.Ns mainGlobals mg) (TB : ∀ q ∈ tfL, GxR.TabB h mg (He.cT K q).1 (He.cT K q).2) (c : SaysX faL fnL errB K) : DefOk K mg h (tfL.map fun q => (He.cT K q).2) gG "_law_box" 5 := by
  obtain ⟨fd, F⟩ := c.2.def_ 8 (d := dd__law_box) rfl
  exact ⟨_, fd, sc__law_box, ["_law_script"], ir__law_box, _, _, He.glo_ok X Gn (c.2.fact 8 (f := .glo "_law_box") rfl), F, FunD.bindsN F (fun _ _ _ _ _ _ us hl => match us, hl with | [_], _ => rfl), ⟨rfl, rfl, rfl, by decide +kernel, rfl, by decide +kernel, by decide +kernel⟩, rfl, rfl, fun z => absurd z (by decide), rfl, rfl, by decide, ck__law_box⟩
theorem ok__law_take (X : K.In h) (Gn : h.Ns mainGlobals mg) (TB : ∀ q ∈ tfL, GxR.TabB h mg (He.cT K q).1 (He.cT K q).2) (c : SaysX faL fnL errB K) : DefOk K mg h (tfL.map fun q => (He.cT K q).2) gG "_law_take" 6 := by
  obtain ⟨fd, F⟩ := c.2.def_ 9 (d := dd__law_take) rfl
  exact ⟨_, fd, sc__law_take, ["_law_box_here", "_law_m"], ir__law_take, _, _, He.glo_ok X Gn (c.2.fact 9 (f := .glo "_law_take") rfl), F, FunD.bindsN F (fun _ _ _ _ _ _ us hl => match us, hl with | [_, _], _ => rfl), ⟨rfl, rfl, rfl, by decide +kernel, rfl, by decide +kernel, by decide +kernel⟩, rfl, rfl, fun z => absurd z (by decide), rfl, rfl, by decide, ck__law_take⟩
theorem ok__law_pick (X : K.In h) (Gn : h.Ns mainGlobals mg) (TB : ∀ q ∈ tfL, GxR.TabB h mg (He.cT K q).1 (He.cT K q).2) (c : SaysX faL fnL errB K) : DefOk K mg h (tfL.map fun q => (He.cT K q).2) gG "_law_pick" 7 := by
  obtain ⟨fd, F⟩ := c.2.def_ 10 (d := dd__law_pick) rfl
  exact ⟨_, fd, sc__law_pick, ["_law_box_here", "_law_menu"], ir__law_pick, _, _, He.glo_ok X Gn (c.2.fact 10 (f := .glo "_law_pick") rfl), F, FunD.bindsN F (fun _ _ _ _ _ _ us hl => match us, hl with | [_, _], _ => rfl), ⟨rfl, rfl, rfl, by decide +kernel, rfl, by decide +kernel, by decide +kernel⟩, rfl, rfl, fun z => absurd z (by decide), rfl, rfl, by decide, ck__law_pick⟩
theorem ok__law_kind (X : K.In h) (Gn : h.Ns mainGlobals mg) (TB : ∀ q ∈ tfL, GxR.TabB h mg (He.cT K q).1 (He.cT K q).2) (c : SaysX faL fnL errB K) : DefOk K mg h (tfL.map fun q => (He.cT K q).2) gG "_law_kind" 8 := by
  obtain ⟨fd, F⟩ := c.2.def_ 11 (d := dd__law_kind) rfl
  exact ⟨_, fd, sc__law_kind, ["_law_box_here", "_law_deep"], ir__law_kind, _, _, He.glo_ok X Gn (c.2.fact 11 (f := .glo "_law_kind") rfl), F, FunD.bindsN F (fun _ _ _ _ _ _ us hl => match us, hl with | [_, _], _ => rfl), ⟨rfl, rfl, rfl, by decide +kernel, rfl, by decide +kernel, by decide +kernel⟩, rfl, rfl, fun z => absurd z (by decide), rfl, rfl, by decide, ck__law_kind⟩
theorem ok__law_inner (X : K.In h) (Gn : h.Ns mainGlobals mg) (TB : ∀ q ∈ tfL, GxR.TabB h mg (He.cT K q).1 (He.cT K q).2) (c : SaysX faL fnL errB K) : DefOk K mg h (tfL.map fun q => (He.cT K q).2) gG "_law_inner" 9 := by
  obtain ⟨fd, F⟩ := c.2.def_ 12 (d := dd__law_inner) rfl
  exact ⟨_, fd, sc__law_inner, ["_law_kind_here"], ir__law_inner, _, _, He.glo_ok X Gn (c.2.fact 12 (f := .glo "_law_inner") rfl), F, FunD.bindsN F (fun _ _ _ _ _ _ us hl => match us, hl with | [_], _ => rfl), ⟨rfl, rfl, rfl, by decide +kernel, rfl, by decide +kernel, by decide +kernel⟩, rfl, rfl, fun z => absurd z (by decide), rfl, rfl, by decide, ck__law_inner⟩
theorem ok__law_many (X : K.In h) (Gn : h.Ns mainGlobals mg) (TB : ∀ q ∈ tfL, GxR.TabB h mg (He.cT K q).1 (He.cT K q).2) (c : SaysX faL fnL errB K) : DefOk K mg h (tfL.map fun q => (He.cT K q).2) gG "_law_many" 10 := by
  obtain ⟨fd, F⟩ := c.2.def_ 13 (d := dd__law_many) rfl
  exact ⟨_, fd, sc__law_many, ["_law_kind_here"], ir__law_many, _, _, He.glo_ok X Gn (c.2.fact 13 (f := .glo "_law_many") rfl), F, FunD.bindsN F (fun _ _ _ _ _ _ us hl => match us, hl with | [_], _ => rfl), ⟨rfl, rfl, rfl, by decide +kernel, rfl, by decide +kernel, by decide +kernel⟩, rfl, rfl, fun z => absurd z (by decide), rfl, rfl, by decide, ck__law_many⟩
theorem ok__law_some_kind (X : K.In h) (Gn : h.Ns mainGlobals mg) (TB : ∀ q ∈ tfL, GxR.TabB h mg (He.cT K q).1 (He.cT K q).2) (c : SaysX faL fnL errB K) : DefOk K mg h (tfL.map fun q => (He.cT K q).2) gG "_law_some_kind" 11 := by
  obtain ⟨fd, F⟩ := c.2.def_ 14 (d := dd__law_some_kind) rfl
  exact ⟨_, fd, sc__law_some_kind, ["_law_box_here"], ir__law_some_kind, _, _, He.glo_ok X Gn (c.2.fact 14 (f := .glo "_law_some_kind") rfl), F, FunD.bindsN F (fun _ _ _ _ _ _ us hl => match us, hl with | [_], _ => rfl), ⟨rfl, rfl, rfl, by decide +kernel, rfl, by decide +kernel, by decide +kernel⟩, rfl, rfl, fun z => absurd z (by decide), rfl, rfl, by decide, ck__law_some_kind⟩
theorem ok__law_few (X : K.In h) (Gn : h.Ns mainGlobals mg) (TB : ∀ q ∈ tfL, GxR.TabB h mg (He.cT K q).1 (He.cT K q).2) (c : SaysX faL fnL errB K) : DefOk K mg h (tfL.map fun q => (He.cT K q).2) gG "_law_few" 39 := by
  obtain ⟨fd, F⟩ := c.2.def_ 15 (d := dd__law_few) rfl
  exact ⟨_, fd, sc__law_few, ["_law_kind_here", "_law_most"], ir__law_few, _, _, He.glo_ok X Gn (c.2.fact 15 (f := .glo "_law_few") rfl), F, FunD.bindsN F (fun _ _ _ _ _ _ us hl => match us, hl with | [_, _], _ => rfl), ⟨rfl, rfl, rfl, by decide +kernel, rfl, by decide +kernel, by decide +kernel⟩, rfl, rfl, fun z => absurd z (by decide), rfl, rfl, by decide, ck__law_few⟩
theorem ok__law_class (X : K.In h) (Gn : h.Ns mainGlobals mg) (TB : ∀ q ∈ tfL, GxR.TabB h mg (He.cT K q).1 (He.cT K q).2) (c : SaysX faL fnL errB K) : DefOkE K mg gG "_law_class" 12 := by
  obtain ⟨fd, F⟩ := c.2.def_ 16 (d := dd__law_class) rfl
  exact ⟨_, fd, sc__law_class, ["_law_e"], ir__law_class, _, _, He.glo_ok X Gn (c.2.fact 16 (f := .glo "_law_class") rfl), F, FunD.bindsN F (fun _ _ _ _ _ _ us hl => match us, hl with | [_], _ => rfl), ⟨rfl, rfl, rfl, by decide +kernel, rfl, by decide +kernel, by decide +kernel⟩, rfl, rfl, rfl, rfl, rfl, by decide, rfl, ck__law_class⟩
theorem ok__law_small (X : K.In h) (Gn : h.Ns mainGlobals mg) (TB : ∀ q ∈ tfL, GxR.TabB h mg (He.cT K q).1 (He.cT K q).2) (c : SaysX faL fnL errB K) : DefOk K mg h (tfL.map fun q => (He.cT K q).2) gG "_law_small" 40 := by
  obtain ⟨fd, F⟩ := c.2.def_ 17 (d := dd__law_small) rfl
  exact ⟨_, fd, sc__law_small, ["_law_box_here", "_law_deep"], ir__law_small, _, _, He.glo_ok X Gn (c.2.fact 17 (f := .glo "_law_small") rfl), F, FunD.bindsN F (fun _ _ _ _ _ _ us hl => match us, hl with | [_, _], _ => rfl), ⟨rfl, rfl, rfl, by decide +kernel, rfl, by decide +kernel, by decide +kernel⟩, rfl, rfl, fun z => absurd z (by decide), rfl, rfl, by decide, ck__law_small⟩
theorem ok__law_told (X : K.In h) (Gn : h.Ns mainGlobals mg) (TB : ∀ q ∈ tfL, GxR.TabB h mg (He.cT K q).1 (He.cT K q).2) (c : SaysX faL fnL errB K) : DefOk K mg h (tfL.map fun q => (He.cT K q).2) gG "_law_told" 41 := by
  obtain ⟨fd, F⟩ := c.2.def_ 18 (d := dd__law_told) rfl
  exact ⟨_, fd, sc__law_told, ["_law_kind_here", "_law_most"], ir__law_told_3, _, _, He.glo_ok X Gn (c.2.fact 18 (f := .glo "_law_told") rfl), F, FunD.bindsN F (fun _ _ _ _ _ _ us hl => match us, hl with | [_, _], _ => rfl), ⟨rfl, rfl, rfl, by decide +kernel, rfl, by decide +kernel, by decide +kernel⟩, rfl, rfl, fun z => absurd z (by decide), rfl, rfl, by decide, ck__law_told⟩
theorem ok_law (X : K.In h) (Gn : h.Ns mainGlobals mg) (TB : ∀ q ∈ tfL, GxR.TabB h mg (He.cT K q).1 (He.cT K q).2) (c : SaysX faL fnL errB K) : DefOk K mg h (tfL.map fun q => (He.cT K q).2) gG "law" 42 := by
  obtain ⟨fd, F⟩ := c.2.def_ 19 (d := dd_law) rfl
  exact ⟨_, fd, sc_law, ["_law_script"], ir_law_3, _, _, He.glo_ok X Gn (c.2.fact 19 (f := .glo "law") rfl), F, FunD.bindsN F (fun _ _ _ _ _ _ us hl => match us, hl with | [_], _ => rfl), ⟨rfl, rfl, rfl, by decide +kernel, rfl, by decide +kernel, by decide +kernel⟩, rfl, rfl, fun z => absurd z (by decide), rfl, rfl, by decide, ck_law⟩
theorem funs_ok (X : K.In h) (Gn : h.Ns mainGlobals mg) (TB : ∀ q ∈ tfL, GxR.TabB h mg (He.cT K q).1 (He.cT K q).2) (c : SaysX faL fnL errB K) (x : Str) (i : Nat) (hx : gG.funs.lookup x = some i) : DefOk K mg h (tfL.map fun q => (He.cT K q).2) gG x i := by
  have m : (x, i) ∈ [(("is_whole" : Str), 0), (("inner_kinds" : Str), 1), (("kinds_in" : Str), 2), (("is_kind" : Str), 3), (("power_up_to" : Str), 36), (("count_up_to" : Str), 37), (("check_kind" : Str), 4), (("few" : Str), 38), (("_law_box" : Str), 5), (("_law_take" : Str), 6), (("_law_pick" : Str), 7), (("_law_kind" : Str), 8), (("_law_inner" : Str), 9), (("_law_many" : Str), 10), (("_law_some_kind" : Str), 11), (("_law_few" : Str), 39), (("_law_small" : Str), 40), (("_law_told" : Str), 41), (("law" : Str), 42)] := PySem.mem_of_lookup hx
  rcases List.mem_cons.mp m with e | m
  · cases e; exact ok_is_whole X Gn TB c
  rcases List.mem_cons.mp m with e | m
  · cases e; exact ok_inner_kinds X Gn TB c
  rcases List.mem_cons.mp m with e | m
  · cases e; exact ok_kinds_in X Gn TB c
  rcases List.mem_cons.mp m with e | m
  · cases e; exact ok_is_kind X Gn TB c
  rcases List.mem_cons.mp m with e | m
  · cases e; exact ok_power_up_to X Gn TB c
  rcases List.mem_cons.mp m with e | m
  · cases e; exact ok_count_up_to X Gn TB c
  rcases List.mem_cons.mp m with e | m
  · cases e; exact ok_check_kind X Gn TB c
  rcases List.mem_cons.mp m with e | m
  · cases e; exact ok_few X Gn TB c
  rcases List.mem_cons.mp m with e | m
  · cases e; exact ok__law_box X Gn TB c
  rcases List.mem_cons.mp m with e | m
  · cases e; exact ok__law_take X Gn TB c
  rcases List.mem_cons.mp m with e | m
  · cases e; exact ok__law_pick X Gn TB c
  rcases List.mem_cons.mp m with e | m
  · cases e; exact ok__law_kind X Gn TB c
  rcases List.mem_cons.mp m with e | m
  · cases e; exact ok__law_inner X Gn TB c
  rcases List.mem_cons.mp m with e | m
  · cases e; exact ok__law_many X Gn TB c
  rcases List.mem_cons.mp m with e | m
  · cases e; exact ok__law_some_kind X Gn TB c
  rcases List.mem_cons.mp m with e | m
  · cases e; exact ok__law_few X Gn TB c
  rcases List.mem_cons.mp m with e | m
  · cases e; exact ok__law_small X Gn TB c
  rcases List.mem_cons.mp m with e | m
  · cases e; exact ok__law_told X Gn TB c
  rcases List.mem_cons.mp m with e | m
  · cases e; exact ok_law X Gn TB c
  cases m
theorem ehs_ok (X : K.In h) (Gn : h.Ns mainGlobals mg) (TB : ∀ q ∈ tfL, GxR.TabB h mg (He.cT K q).1 (He.cT K q).2) (c : SaysX faL fnL errB K) (x : Str) (i : Nat) (hx : gG.eh.lookup x = some i) : DefOkE K mg gG x i := by
  have m : (x, i) ∈ [(("_law_class" : Str), 12)] := PySem.mem_of_lookup hx
  rcases List.mem_cons.mp m with e | m
  · cases e; exact ok__law_class X Gn TB c
  cases m
end
end Cg
namespace Cg
def W0 : Nat := 0
end Cg
set_option linter.all false
set_option autoImplicit false
set_option maxRecDepth 100000
namespace Cg.F
/-! ### what must hold for a run to end well -/
def W1 {α : Type} (m : R α) (K : α → Prop) (X : Nat → Prop) : Prop := match m with
  | .ok a => K a
  | .exc c => X c
  | .bad => False
def W2 {α β : Type} (m : R (α × β)) (K : α → β → Prop) (X : Nat → Prop) : Prop := W1 m (fun p => K p.1 p.2) X
section
variable {α β γ δ : Type} {K : α → Prop} {K2 : α → β → Prop} {X : Nat → Prop}
theorem w1_ok (a : α) : W1 (.ok a) K X = K a := rfl
theorem w1_pure (a : α) : W1 (pure a) K X = K a := rfl
theorem w1_exc (c : Nat) : W1 (.exc c : R α) K X = X c := rfl
theorem w1_bad : W1 (.bad : R α) K X = False := rfl
theorem w2_ok (a : α) (b : β) : W2 (.ok (a, b)) K2 X = K2 a b := rfl
theorem w2_pure (a : α) (b : β) : W2 (pure (a, b)) K2 X = K2 a b := rfl
theorem w2_exc (c : Nat) : W2 (.exc c : R (α × β)) K2 X = X c := rfl
theorem w2_bad : W2 (.bad : R (α × β)) K2 X = False := rfl
theorem w1_bind (m : R γ) (f : γ → R α) : W1 (m >>= f) K X = W1 m (fun a => W1 (f a) K X) X := by cases m <;> rfl
theorem w1_bind2 (m : R (γ × δ)) (f : γ × δ → R α) : W1 (m >>= f) K X = W2 m (fun a b => W1 (f (a, b)) K X) X := by cases m <;> rfl
theorem w2_bind (m : R γ) (f : γ → R (α × β)) : W2 (m >>= f) K2 X = W1 m (fun a => W2 (f a) K2 X) X := by cases m <;> rfl
theorem w2_bind2 (m : R (γ × δ)) (f : γ × δ → R (α × β)) : W2 (m >>= f) K2 X = W2 m (fun a b => W2 (f (a, b)) K2 X) X := by cases m <;> rfl
theorem w1_ite (c : Prop) [Decidable c] (m n : R α) : W1 (if c then m else n) K X = if c then W1 m K X else W1 n K X := by split <;> rfl
theorem w2_ite (c : Prop) [Decidable c] (m n : R (α × β)) : W2 (if c then m else n) K2 X = if c then W2 m K2 X else W2 n K2 X := by split <;> rfl
/-- worked out first -/
def Now (a : α) (K : α → Prop) : Prop := K a
theorem now_ (a : α) : Now a K = K a := rfl
theorem w1_congr {m : R α} {K K' : α → Prop} (h : ∀ a, K a = K' a) : W1 m K X = W1 m K' X := by rw [show K = K' from funext h]
theorem w1_mono {m : R α} {K' : α → Prop} {X' : Nat → Prop} (h : W1 m K X) (hk : ∀ a, K a → K' a) (hx : ∀ c, X c → X' c) : W1 m K' X' := by
  cases m with
  | ok a => exact hk _ h
  | exc c => exact hx _ h
  | bad => exact h
theorem w2_mono {m : R (α × β)} {K' : α → β → Prop} {X' : Nat → Prop} (h : W2 m K2 X) (hk : ∀ a b, K2 a b → K' a b) (hx : ∀ c, X c → X' c) : W2 m K' X' := by
  cases m with
  | ok a => exact hk _ _ h
  | exc c => exact hx _ h
  | bad => exact h
theorem w2_eq {m : R (α × β)} {a : α} {b : β} (h : m = .ok (a, b)) : W2 m K2 X = K2 a b := by subst h; rfl
theorem w2_eqx {m : R (α × β)} {c : Nat} (h : m = .exc c) : W2 m K2 X = X c := by subst h; rfl
theorem w1_eq {m : R α} {a : α} (h : m = .ok a) : W1 m K X = K a := by subst h; rfl
theorem eq_of_w2 {m : R (α × β)} {a : α} {b : β} (h : W2 m (fun x y => x = a ∧ y = b) (fun _ => False)) : m = .ok (a, b) := by
  cases m with
  | ok p => obtain ⟨x, y⟩ := p; obtain ⟨rfl, rfl⟩ := h; rfl
  | exc c => exact h.elim
  | bad => exact h.elim
theorem exc_of_w2 {m : R (α × β)} {c : Nat} (h : W2 m (fun _ _ => False) (fun x => x = c)) : m = .exc c := by
  cases m with
  | ok p => exact h.elim
  | exc c => cases h; rfl
  | bad => exact h.elim
theorem w2_cases {m : R (α × β)} (h : W2 m K2 X) : (∃ a b, m = .ok (a, b) ∧ K2 a b) ∨ ∃ c, m = .exc c ∧ X c := by
  cases m with
  | ok p => exact .inl ⟨p.1, p.2, rfl, h⟩
  | exc c => exact .inr ⟨c, rfl, h⟩
  | bad => exact h.elim
end

def PE (call : CallF) (X : Nat → Prop) (e : E) (ρ : Env) (K : D → Env → Prop) : Prop := W2 (evalE call e ρ) K X
def PT (call : CallF) (X : Nat → Prop) (e : T) (ρ : Env) (K : Bool → Env → Prop) : Prop := W2 (evalT call e ρ) K X
def PEs (call : CallF) (X : Nat → Prop) (e : Es) (ρ : Env) (K : List D → Env → Prop) : Prop := W2 (evalEs call e ρ) K X
def PAs (call : CallF) (X : Nat → Prop) (e : Es) (ρ : Env) (K : List D → Env → Prop) : Prop := W2 (evalAs call e ρ) K X
def PI (call : CallF) (X : Nat → Prop) (e : It) (ρ : Env) (K : List D → Env → Prop) : Prop := W2 (evalIt call e ρ) K X
def PS (call : CallF) (w : Nat) (X : Nat → Prop) (e : S) (ρ : Env) (K : Ctl → Env → Prop) : Prop := W2 (evalS call w e ρ) K X
def PSs (call : CallF) (w : Nat) (X : Nat → Prop) (e : Ss) (ρ : Env) (K : Ctl → Env → Prop) : Prop := W2 (evalSs call w e ρ) K X
def PV (call : CallF) (X : Nat → Prop) (e : E) (ρ : Env) (K : D → Env → Prop) : Prop := W2 (seeW e (evalE call e) ρ) K X
def PN (X : Nat → Prop) (e : E) (x : D) (ρ : Env) (K : D → Prop) : Prop := W1 (nowE e x ρ) K X
def PO (call : CallF) (X : Nat → Prop) (e : E) (ρ : Env) (K : Option Int → Env → Prop) : Prop := W2 (optW e (evalE call e) ρ) K X
def PB (X : Nat → Prop) (ρ : Env) (i : Nat) (d : D) (g : Nat) (K : Env → Prop) : Prop := W1 (bindS ρ i d g) K X

section
variable {call : CallF} {w : Nat} {ρ : Env} {X : Nat → Prop} {K : D → Env → Prop} {C : Ctl → Env → Prop} {B : Bool → Env → Prop} {L : List D → Env → Prop}
/-! names -/
theorem getS_0 {p : D × Nat} : getS (some p :: ρ) 0 = .ok p := rfl
theorem getS_1 {p : D × Nat} {a : Slot} : getS (a :: some p :: ρ) 1 = .ok p := rfl
theorem getS_2 {p : D × Nat} {a b : Slot} : getS (a :: b :: some p :: ρ) 2 = .ok p := rfl
theorem getS_n {a : Slot} {n : Nat} : getS (a :: ρ) (n + 1) = getS ρ n := rfl
theorem valS_0 {d : D} : valS (some (d, 0) :: ρ) 0 = .ok d := rfl
theorem valS_n {a : Slot} {n : Nat} : valS (a :: ρ) (n + 1) = valS ρ n := rfl
theorem seeS_0 {d : D} : seeS (some (d, 0) :: ρ) 0 = .ok d := rfl
theorem seeS_01 {d : D} : seeS (some (d, 1) :: ρ) 0 = .ok d := rfl
theorem seeS_03 {d : D} : seeS (some (d, 3) :: ρ) 0 = .ok d := rfl
theorem seeS_04 {d : D} : seeS (some (d, 4) :: ρ) 0 = .ok d := rfl
theorem seeS_n {a : Slot} {n : Nat} : seeS (a :: ρ) (n + 1) = seeS ρ n := rfl
theorem ownS_01l {l : List D} : ownS (some (.lst l, 1) :: ρ) 0 = .ok (.lst l) := rfl
theorem ownS_03l {l : List D} : ownS (some (.lst l, 3) :: ρ) 0 = .ok (.lst l) := rfl
theorem ownS_01d {l : List (D × D)} : ownS (some (.dct l, 1) :: ρ) 0 = .ok (.dct l) := rfl
theorem ownS_03d {l : List (D × D)} : ownS (some (.dct l, 3) :: ρ) 0 = .ok (.dct l) := rfl
theorem ownS_n {a : Slot} {n : Nat} : ownS (a :: ρ) (n + 1) = ownS ρ n := rfl
theorem own2S_0 {l : List D} : own2S (some (.lst l, 2) :: ρ) 0 = .ok l := rfl
theorem own2S_n {a : Slot} {n : Nat} : own2S (a :: ρ) (n + 1) = own2S ρ n := rfl
theorem listOwn_def {i : Nat} : listOwn ρ i = (ownS ρ i >>= fun d => match d with | .lst l => .ok l | _ => .bad) := rfl
theorem listOwn_01 {l : List D} : listOwn (some (.lst l, 1) :: ρ) 0 = .ok l := rfl
theorem listOwn_03 {l : List D} : listOwn (some (.lst l, 3) :: ρ) 0 = .ok l := rfl
theorem listOwn_n {a : Slot} {n : Nat} : listOwn (a :: ρ) (n + 1) = listOwn ρ n := rfl
theorem putS_0 {p : D × Nat} {d : D} : putS (some p :: ρ) 0 d = some (d, p.2) :: ρ := rfl
theorem putS_n {a : Slot} {n : Nat} {d : D} : putS (a :: ρ) (n + 1) d = a :: putS ρ n d := by
  unfold putS
  simp only [List.getElem?_cons_succ, List.set_cons_succ]
  cases h : ρ[n]? with
  | none => rfl
  | some s => cases s <;> rfl
theorem freeS_n {a : Slot} {n : Nat} : freeS (a :: ρ) (n + 1) = freeS ρ n := rfl
theorem bindS_0n {d : D} {g : Nat} : bindS (none :: ρ) 0 d g = .ok (some (d, g) :: ρ) := rfl
theorem bindS_00 {d e : D} {g : Nat} : bindS (some (e, 0) :: ρ) 0 d g = .ok (some (d, g) :: ρ) := rfl
theorem bindS_01 {d e : D} {g : Nat} : bindS (some (e, 1) :: ρ) 0 d g = .ok (some (d, g) :: ρ) := rfl
theorem bindS_02 {d e : D} {g : Nat} : bindS (some (e, 2) :: ρ) 0 d g = .ok (some (d, g) :: ρ) := rfl
theorem w1_bindS_n {a : Slot} {n : Nat} {d : D} {g : Nat} {E : Env → Prop} : W1 (bindS (a :: ρ) (n + 1) d g) E X = W1 (bindS ρ n d g) (fun ρ => E (a :: ρ)) X := by
  unfold bindS
  rw [freeS_n, List.set_cons_succ]
  split <;> rfl
theorem letGo_nil : letGo ρ [] = ρ := rfl
def letGo1 (ρ : Env) (i : Nat) : Env := match ρ[i]? with
    | some (some (d, g)) => if g = 1 ∨ g = 2 then ρ.set i (some (d, 0)) else ρ
    | _ => ρ
theorem letGo_cons {i : Nat} {l : List Nat} : letGo ρ (i :: l) = letGo (letGo1 ρ i) l := rfl
theorem lg1_n {a : Slot} {n : Nat} : letGo1 (a :: ρ) (n + 1) = a :: letGo1 ρ n := by
  unfold letGo1
  rw [List.getElem?_cons_succ]
  cases h : ρ[n]? with
  | none => rfl
  | some s =>
    cases s with
    | none => rfl
    | some p => obtain ⟨d, g⟩ := p; show (if _ then _ else _) = _ :: (if _ then _ else _); split <;> rfl
theorem lg1_0n : letGo1 (none :: ρ) 0 = none :: ρ := rfl
theorem lg1_00 {d : D} : letGo1 (some (d, 0) :: ρ) 0 = some (d, 0) :: ρ := rfl
theorem lg1_01 {d : D} : letGo1 (some (d, 1) :: ρ) 0 = some (d, 0) :: ρ := rfl
theorem lg1_02 {d : D} : letGo1 (some (d, 2) :: ρ) 0 = some (d, 0) :: ρ := rfl
theorem lg1_03 {d : D} : letGo1 (some (d, 3) :: ρ) 0 = some (d, 3) :: ρ := rfl
theorem lg1_04 {d : D} : letGo1 (some (d, 4) :: ρ) 0 = some (d, 4) :: ρ := rfl
theorem wipe_nil : wipeS ρ [] = ρ := rfl
theorem wipe_cons {i : Nat} {l : List Nat} : wipeS ρ (i :: l) = wipeS (ρ.set i none) l := rfl
theorem back_nil {old : Env} : backS ρ old [] = ρ := rfl
theorem back_cons {i : Nat} {l : List Nat} {old : Env} : backS ρ old (i :: l) = backS (match old[i]? with | some s => ρ.set i s | none => ρ) old l := rfl
theorem pl_nil : plainS ρ [] = true := rfl
theorem nt_nm {i : Nat} : namesT (.nm i) = [i] := rfl
theorem nt_tup {ts : Tgs} : namesT (.tup ts) = namesTs ts := rfl
theorem nts_nil : namesTs .nil = [] := rfl
theorem nts_cons {t : Tg} {ts : Tgs} : namesTs (.cons t ts) = namesT t ++ namesTs ts := rfl
theorem st_def {f : Fn} {ds : List D} {G : Env → Prop} (h : ds.length = f.ps.length) : W1 (startS f ds) G X = Now ((List.zipWith (fun d b => some (d, if b = true then 3 else 0)) ds f.ps) ++ List.replicate (f.n - f.ps.length) none) G := by unfold startS; rw [if_pos h]; rfl
theorem see_b {i : Nat} : PV call X (.b i) ρ K = W1 (seeS ρ i) (fun d => K d ρ) X := by unfold PV; show W2 (seeS ρ i >>= _) _ _ = _; rw [w2_bind]; rfl
theorem now_b {i : Nat} {x : D} {G : D → Prop} : PN X (.b i) x ρ G = W1 (seeS ρ i) G X := rfl
theorem opt_any {e : E} {O : Option Int → Env → Prop} (h : optW e (evalE call e) ρ = (do let (d, ρ) ← evalE call e ρ; R.ok (some (← d.toInt), ρ))) : PO call X e ρ O = PE call X e ρ (fun d ρ => W1 d.toInt (fun i => O (some i) ρ) X) := by unfold PO PE; rw [h]; simp only [w2_bind2, w2_bind, w2_ok] <;> rfl
theorem opt_omit {O : Option Int → Env → Prop} : PO call X .omit ρ O = O none ρ := rfl
theorem opt_k {i : Int} {O : Option Int → Env → Prop} : PO call X (.k (.int i)) ρ O = O (some i) ρ := rfl
theorem see_k {d : D} : PV call X (.k d) ρ K = PE call X (.k d) ρ K := rfl
theorem now_k {d : D} {x : D} {G : D → Prop} : PN X (.k d) x ρ G = G x := rfl
theorem see_v {i : Nat} : PV call X (.v i) ρ K = PE call X (.v i) ρ K := rfl
theorem now_v {i : Nat} {x : D} {G : D → Prop} : PN X (.v i) x ρ G = G x := rfl
theorem opt_v {i : Nat} {O : Option Int → Env → Prop} : PO call X (.v i) ρ O = PE call X (.v i) ρ (fun d ρ => W1 d.toInt (fun i => O (some i) ρ) X) := opt_any rfl
theorem see_tup {es : Es} : PV call X (.tup es) ρ K = PE call X (.tup es) ρ K := rfl
theorem now_tup {es : Es} {x : D} {G : D → Prop} : PN X (.tup es) x ρ G = G x := rfl
theorem opt_tup {es : Es} {O : Option Int → Env → Prop} : PO call X (.tup es) ρ O = PE call X (.tup es) ρ (fun d ρ => W1 d.toInt (fun i => O (some i) ρ) X) := opt_any rfl
theorem see_lst {es : Es} : PV call X (.lst es) ρ K = PE call X (.lst es) ρ K := rfl
theorem now_lst {es : Es} {x : D} {G : D → Prop} : PN X (.lst es) x ρ G = G x := rfl
theorem opt_lst {es : Es} {O : Option Int → Env → Prop} : PO call X (.lst es) ρ O = PE call X (.lst es) ρ (fun d ρ => W1 d.toInt (fun i => O (some i) ρ) X) := opt_any rfl
theorem see_dict {a b : Es} : PV call X (.dict a b) ρ K = PE call X (.dict a b) ρ K := rfl
theorem now_dict {a b : Es} {x : D} {G : D → Prop} : PN X (.dict a b) x ρ G = G x := rfl
theorem opt_dict {a b : Es} {O : Option Int → Env → Prop} : PO call X (.dict a b) ρ O = PE call X (.dict a b) ρ (fun d ρ => W1 d.toInt (fun i => O (some i) ρ) X) := opt_any rfl
theorem see_bin {o : BO} {a b : E} : PV call X (.bin o a b) ρ K = PE call X (.bin o a b) ρ K := rfl
theorem now_bin {o : BO} {a b : E} {x : D} {G : D → Prop} : PN X (.bin o a b) x ρ G = G x := rfl
theorem opt_bin {o : BO} {a b : E} {O : Option Int → Env → Prop} : PO call X (.bin o a b) ρ O = PE call X (.bin o a b) ρ (fun d ρ => W1 d.toInt (fun i => O (some i) ρ) X) := opt_any rfl
theorem see_cmp {o : CO} {a b : E} : PV call X (.cmp o a b) ρ K = PE call X (.cmp o a b) ρ K := rfl
theorem now_cmp {o : CO} {a b : E} {x : D} {G : D → Prop} : PN X (.cmp o a b) x ρ G = G x := rfl
theorem opt_cmp {o : CO} {a b : E} {O : Option Int → Env → Prop} : PO call X (.cmp o a b) ρ O = PE call X (.cmp o a b) ρ (fun d ρ => W1 d.toInt (fun i => O (some i) ρ) X) := opt_any rfl
theorem see_chain {o p : CO} {a b c : E} : PV call X (.chain o p a b c) ρ K = PE call X (.chain o p a b c) ρ K := rfl
theorem now_chain {o p : CO} {a b c : E} {x : D} {G : D → Prop} : PN X (.chain o p a b c) x ρ G = G x := rfl
theorem opt_chain {o p : CO} {a b c : E} {O : Option Int → Env → Prop} : PO call X (.chain o p a b c) ρ O = PE call X (.chain o p a b c) ρ (fun d ρ => W1 d.toInt (fun i => O (some i) ρ) X) := opt_any rfl
theorem see_not {a : E} : PV call X (.not a) ρ K = PE call X (.not a) ρ K := rfl
theorem now_not {a : E} {x : D} {G : D → Prop} : PN X (.not a) x ρ G = G x := rfl
theorem opt_not {a : E} {O : Option Int → Env → Prop} : PO call X (.not a) ρ O = PE call X (.not a) ρ (fun d ρ => W1 d.toInt (fun i => O (some i) ρ) X) := opt_any rfl
theorem see_and {a b : E} : PV call X (.and a b) ρ K = PE call X (.and a b) ρ K := rfl
theorem now_and {a b : E} {x : D} {G : D → Prop} : PN X (.and a b) x ρ G = G x := rfl
theorem opt_and {a b : E} {O : Option Int → Env → Prop} : PO call X (.and a b) ρ O = PE call X (.and a b) ρ (fun d ρ => W1 d.toInt (fun i => O (some i) ρ) X) := opt_any rfl
theorem see_or {a b : E} : PV call X (.or a b) ρ K = PE call X (.or a b) ρ K := rfl
theorem now_or {a b : E} {x : D} {G : D → Prop} : PN X (.or a b) x ρ G = G x := rfl
theorem opt_or {a b : E} {O : Option Int → Env → Prop} : PO call X (.or a b) ρ O = PE call X (.or a b) ρ (fun d ρ => W1 d.toInt (fun i => O (some i) ρ) X) := opt_any rfl
theorem see_ite {t : T} {a b : E} : PV call X (.ite t a b) ρ K = PE call X (.ite t a b) ρ K := rfl
theorem now_ite {t : T} {a b : E} {x : D} {G : D → Prop} : PN X (.ite t a b) x ρ G = G x := rfl
theorem opt_ite {t : T} {a b : E} {O : Option Int → Env → Prop} : PO call X (.ite t a b) ρ O = PE call X (.ite t a b) ρ (fun d ρ => W1 d.toInt (fun i => O (some i) ρ) X) := opt_any rfl
theorem see_idx {a i : E} : PV call X (.idx a i) ρ K = PE call X (.idx a i) ρ K := rfl
theorem now_idx {a i : E} {x : D} {G : D → Prop} : PN X (.idx a i) x ρ G = G x := rfl
theorem opt_idx {a i : E} {O : Option Int → Env → Prop} : PO call X (.idx a i) ρ O = PE call X (.idx a i) ρ (fun d ρ => W1 d.toInt (fun i => O (some i) ρ) X) := opt_any rfl
theorem see_idxd {a i : E} : PV call X (.idxd a i) ρ K = PE call X (.idxd a i) ρ K := rfl
theorem now_idxd {a i : E} {x : D} {G : D → Prop} : PN X (.idxd a i) x ρ G = G x := rfl
theorem opt_idxd {a i : E} {O : Option Int → Env → Prop} : PO call X (.idxd a i) ρ O = PE call X (.idxd a i) ρ (fun d ρ => W1 d.toInt (fun i => O (some i) ρ) X) := opt_any rfl
theorem see_ind {n : Bool} {a d : E} : PV call X (.ind n a d) ρ K = PE call X (.ind n a d) ρ K := rfl
theorem now_ind {n : Bool} {a d : E} {x : D} {G : D → Prop} : PN X (.ind n a d) x ρ G = G x := rfl
theorem opt_ind {n : Bool} {a d : E} {O : Option Int → Env → Prop} : PO call X (.ind n a d) ρ O = PE call X (.ind n a d) ρ (fun d ρ => W1 d.toInt (fun i => O (some i) ρ) X) := opt_any rfl
theorem see_idx2 {n : Nat} {a b : E} : PV call X (.idx2 n a b) ρ K = PE call X (.idx2 n a b) ρ K := rfl
theorem now_idx2 {n : Nat} {a b : E} {x : D} {G : D → Prop} : PN X (.idx2 n a b) x ρ G = G x := rfl
theorem opt_idx2 {n : Nat} {a b : E} {O : Option Int → Env → Prop} : PO call X (.idx2 n a b) ρ O = PE call X (.idx2 n a b) ρ (fun d ρ => W1 d.toInt (fun i => O (some i) ρ) X) := opt_any rfl
theorem see_any2 {n : Nat} : PV call X (.any2 n) ρ K = PE call X (.any2 n) ρ K := rfl
theorem now_any2 {n : Nat} {x : D} {G : D → Prop} : PN X (.any2 n) x ρ G = G x := rfl
theorem opt_any2 {n : Nat} {O : Option Int → Env → Prop} : PO call X (.any2 n) ρ O = PE call X (.any2 n) ρ (fun d ρ => W1 d.toInt (fun i => O (some i) ρ) X) := opt_any rfl
theorem see_slice {a l h : E} : PV call X (.slice a l h) ρ K = PE call X (.slice a l h) ρ K := rfl
theorem now_slice {a l h : E} {x : D} {G : D → Prop} : PN X (.slice a l h) x ρ G = G x := rfl
theorem opt_slice {a l h : E} {O : Option Int → Env → Prop} : PO call X (.slice a l h) ρ O = PE call X (.slice a l h) ρ (fun d ρ => W1 d.toInt (fun i => O (some i) ρ) X) := opt_any rfl
theorem see_call {f : Nat} {as : Es} : PV call X (.call f as) ρ K = PE call X (.call f as) ρ K := rfl
theorem now_call {f : Nat} {as : Es} {x : D} {G : D → Prop} : PN X (.call f as) x ρ G = G x := rfl
theorem opt_call {f : Nat} {as : Es} {O : Option Int → Env → Prop} : PO call X (.call f as) ρ O = PE call X (.call f as) ρ (fun d ρ => W1 d.toInt (fun i => O (some i) ρ) X) := opt_any rfl
theorem see_b1 {o : B1} {a : E} : PV call X (.b1 o a) ρ K = PE call X (.b1 o a) ρ K := rfl
theorem now_b1 {o : B1} {a : E} {x : D} {G : D → Prop} : PN X (.b1 o a) x ρ G = G x := rfl
theorem opt_b1 {o : B1} {a : E} {O : Option Int → Env → Prop} : PO call X (.b1 o a) ρ O = PE call X (.b1 o a) ρ (fun d ρ => W1 d.toInt (fun i => O (some i) ρ) X) := opt_any rfl
theorem see_b2 {o : B2} {a b : E} : PV call X (.b2 o a b) ρ K = PE call X (.b2 o a b) ρ K := rfl
theorem now_b2 {o : B2} {a b : E} {x : D} {G : D → Prop} : PN X (.b2 o a b) x ρ G = G x := rfl
theorem opt_b2 {o : B2} {a b : E} {O : Option Int → Env → Prop} : PO call X (.b2 o a b) ρ O = PE call X (.b2 o a b) ρ (fun d ρ => W1 d.toInt (fun i => O (some i) ρ) X) := opt_any rfl
theorem see_b3 {o : B2} {a b c : E} : PV call X (.b3 o a b c) ρ K = PE call X (.b3 o a b c) ρ K := rfl
theorem now_b3 {o : B2} {a b c : E} {x : D} {G : D → Prop} : PN X (.b3 o a b c) x ρ G = G x := rfl
theorem opt_b3 {o : B2} {a b c : E} {O : Option Int → Env → Prop} : PO call X (.b3 o a b c) ρ O = PE call X (.b3 o a b c) ρ (fun d ρ => W1 d.toInt (fun i => O (some i) ρ) X) := opt_any rfl
theorem see_get {d k z : E} : PV call X (.get d k z) ρ K = PE call X (.get d k z) ρ K := rfl
theorem now_get {d k z : E} {x : D} {G : D → Prop} : PN X (.get d k z) x ρ G = G x := rfl
theorem opt_get {d k z : E} {O : Option Int → Env → Prop} : PO call X (.get d k z) ρ O = PE call X (.get d k z) ρ (fun d ρ => W1 d.toInt (fun i => O (some i) ρ) X) := opt_any rfl
theorem see_count {a x : E} : PV call X (.count a x) ρ K = PE call X (.count a x) ρ K := rfl
theorem now_count {a b : E} {x : D} {G : D → Prop} : PN X (.count a b) x ρ G = G x := rfl
theorem opt_count {a x : E} {O : Option Int → Env → Prop} : PO call X (.count a x) ρ O = PE call X (.count a x) ρ (fun d ρ => W1 d.toInt (fun i => O (some i) ρ) X) := opt_any rfl
theorem see_index {a x : E} : PV call X (.index a x) ρ K = PE call X (.index a x) ρ K := rfl
theorem now_index {a b : E} {x : D} {G : D → Prop} : PN X (.index a b) x ρ G = G x := rfl
theorem opt_index {a x : E} {O : Option Int → Env → Prop} : PO call X (.index a x) ρ O = PE call X (.index a x) ρ (fun d ρ => W1 d.toInt (fun i => O (some i) ρ) X) := opt_any rfl
theorem see_isa {t : TY} {a : E} : PV call X (.isa t a) ρ K = PE call X (.isa t a) ρ K := rfl
theorem now_isa {t : TY} {a : E} {x : D} {G : D → Prop} : PN X (.isa t a) x ρ G = G x := rfl
theorem opt_isa {t : TY} {a : E} {O : Option Int → Env → Prop} : PO call X (.isa t a) ρ O = PE call X (.isa t a) ρ (fun d ρ => W1 d.toInt (fun i => O (some i) ρ) X) := opt_any rfl
theorem see_isExc {c : Nat} {a : E} : PV call X (.isExc c a) ρ K = PE call X (.isExc c a) ρ K := rfl
theorem now_isExc {c : Nat} {a : E} {x : D} {G : D → Prop} : PN X (.isExc c a) x ρ G = G x := rfl
theorem opt_isExc {c : Nat} {a : E} {O : Option Int → Env → Prop} : PO call X (.isExc c a) ρ O = PE call X (.isExc c a) ρ (fun d ρ => W1 d.toInt (fun i => O (some i) ρ) X) := opt_any rfl
theorem see_mkExc {c : Nat} : PV call X (.mkExc c) ρ K = PE call X (.mkExc c) ρ K := rfl
theorem now_mkExc {c : Nat} {x : D} {G : D → Prop} : PN X (.mkExc c) x ρ G = G x := rfl
theorem opt_mkExc {c : Nat} {O : Option Int → Env → Prop} : PO call X (.mkExc c) ρ O = PE call X (.mkExc c) ρ (fun d ρ => W1 d.toInt (fun i => O (some i) ρ) X) := opt_any rfl
theorem see_lc {t : Tg} {it : It} {c : T} {e : E} : PV call X (.lc t it c e) ρ K = PE call X (.lc t it c e) ρ K := rfl
theorem now_lc {t : Tg} {it : It} {c : T} {e : E} {x : D} {G : D → Prop} : PN X (.lc t it c e) x ρ G = G x := rfl
theorem opt_lc {t : Tg} {it : It} {c : T} {e : E} {O : Option Int → Env → Prop} : PO call X (.lc t it c e) ρ O = PE call X (.lc t it c e) ρ (fun d ρ => W1 d.toInt (fun i => O (some i) ρ) X) := opt_any rfl
theorem see_lc2 {t : Tg} {it : It} {t2 : Tg} {it2 : It} {c : T} {e : E} : PV call X (.lc2 t it t2 it2 c e) ρ K = PE call X (.lc2 t it t2 it2 c e) ρ K := rfl
theorem now_lc2 {t : Tg} {it : It} {t2 : Tg} {it2 : It} {c : T} {e : E} {x : D} {G : D → Prop} : PN X (.lc2 t it t2 it2 c e) x ρ G = G x := rfl
theorem opt_lc2 {t : Tg} {it : It} {t2 : Tg} {it2 : It} {c : T} {e : E} {O : Option Int → Env → Prop} : PO call X (.lc2 t it t2 it2 c e) ρ O = PE call X (.lc2 t it t2 it2 c e) ρ (fun d ρ => W1 d.toInt (fun i => O (some i) ρ) X) := opt_any rfl
theorem see_gsum {t : Tg} {it : It} {c : T} {e : E} : PV call X (.gsum t it c e) ρ K = PE call X (.gsum t it c e) ρ K := rfl
theorem now_gsum {t : Tg} {it : It} {c : T} {e : E} {x : D} {G : D → Prop} : PN X (.gsum t it c e) x ρ G = G x := rfl
theorem opt_gsum {t : Tg} {it : It} {c : T} {e : E} {O : Option Int → Env → Prop} : PO call X (.gsum t it c e) ρ O = PE call X (.gsum t it c e) ρ (fun d ρ => W1 d.toInt (fun i => O (some i) ρ) X) := opt_any rfl
theorem see_gall {t : Tg} {it : It} {e : E} : PV call X (.gall t it e) ρ K = PE call X (.gall t it e) ρ K := rfl
theorem now_gall {t : Tg} {it : It} {e : E} {x : D} {G : D → Prop} : PN X (.gall t it e) x ρ G = G x := rfl
theorem opt_gall {t : Tg} {it : It} {e : E} {O : Option Int → Env → Prop} : PO call X (.gall t it e) ρ O = PE call X (.gall t it e) ρ (fun d ρ => W1 d.toInt (fun i => O (some i) ρ) X) := opt_any rfl
theorem see_gall2 {t : Tg} {it : It} {t2 : Tg} {it2 : It} {e : E} : PV call X (.gall2 t it t2 it2 e) ρ K = PE call X (.gall2 t it t2 it2 e) ρ K := rfl
theorem now_gall2 {t : Tg} {it : It} {t2 : Tg} {it2 : It} {e : E} {x : D} {G : D → Prop} : PN X (.gall2 t it t2 it2 e) x ρ G = G x := rfl
theorem opt_gall2 {t : Tg} {it : It} {t2 : Tg} {it2 : It} {e : E} {O : Option Int → Env → Prop} : PO call X (.gall2 t it t2 it2 e) ρ O = PE call X (.gall2 t it t2 it2 e) ρ (fun d ρ => W1 d.toInt (fun i => O (some i) ρ) X) := opt_any rfl
theorem see_grid {n m : E} : PV call X (.grid n m) ρ K = PE call X (.grid n m) ρ K := rfl
theorem now_grid {n m : E} {x : D} {G : D → Prop} : PN X (.grid n m) x ρ G = G x := rfl
theorem opt_grid {n m : E} {O : Option Int → Env → Prop} : PO call X (.grid n m) ρ O = PE call X (.grid n m) ρ (fun d ρ => W1 d.toInt (fun i => O (some i) ρ) X) := opt_any rfl
theorem see_empties {a : E} : PV call X (.empties a) ρ K = PE call X (.empties a) ρ K := rfl
theorem now_empties {a : E} {x : D} {G : D → Prop} : PN X (.empties a) x ρ G = G x := rfl
theorem opt_empties {a : E} {O : Option Int → Env → Prop} : PO call X (.empties a) ρ O = PE call X (.empties a) ρ (fun d ρ => W1 d.toInt (fun i => O (some i) ρ) X) := opt_any rfl
theorem e_k {d : D} : PE call X (.k d) ρ K = K d ρ := rfl
theorem e_v {i : Nat} : PE call X (.v i) ρ K = W1 (valS ρ i) (fun d => K d ρ) X := by unfold PE; rw [evalE]; simp only [w2_bind, w2_ok] <;> rfl
theorem e_tup {es : Es} : PE call X (.tup es) ρ K = PEs call X es ρ (fun ds ρ => W1 (mkTup ds) (fun d => K d ρ) X) := by unfold PE; rw [evalE]; simp only [w2_bind, w2_bind2, w2_ok] <;> rfl
theorem e_lst {es : Es} : PE call X (.lst es) ρ K = PEs call X es ρ (fun ds ρ => W1 (mkLst ds) (fun d => K d ρ) X) := by unfold PE; rw [evalE]; simp only [w2_bind, w2_bind2, w2_ok] <;> rfl
theorem e_dict {a b : Es} : PE call X (.dict a b) ρ K = PEs call X a ρ (fun ks ρ => PEs call X b ρ (fun vs ρ => W1 (dictE ks vs []) (fun d => K (.dct d) ρ) X)) := by unfold PE; rw [evalE]; simp only [w2_bind, w2_bind2, w2_ok] <;> rfl
theorem e_bin {o : BO} {a b : E} : PE call X (.bin o a b) ρ K = PV call X a ρ (fun x ρ => PV call X b ρ (fun y ρ => PN X a x ρ (fun x => PN X b y ρ (fun y => W1 (binR o x y) (fun d => K d ρ) X)))) := by unfold PE; rw [evalE]; simp only [w2_bind, w2_bind2, w2_ok] <;> rfl
theorem e_cmp {o : CO} {a b : E} : PE call X (.cmp o a b) ρ K = PV call X a ρ (fun x ρ => PV call X b ρ (fun y ρ => PN X a x ρ (fun x => PN X b y ρ (fun y => W1 (cmpR o x y) (fun d => K (.bool d) ρ) X)))) := by unfold PE; rw [evalE]; simp only [w2_bind, w2_bind2, w2_ok, cmpD, w1_bind, w1_ok] <;> rfl
theorem e_chain {o p : CO} {a b c : E} : PE call X (.chain o p a b c) ρ K = PE call X a ρ (fun x ρ => PE call X b ρ (fun y ρ => W1 (cmpR o x y) (fun t => if t = true then PE call X c ρ (fun z ρ => W1 (cmpR p y z) (fun u => K (.bool u) ρ) X) else K (.bool false) ρ) X)) := by unfold PE; rw [evalE]; simp only [w2_bind, w2_bind2, w2_ok, w2_ite] <;> rfl
theorem e_not {a : E} : PE call X (.not a) ρ K = PV call X a ρ (fun d ρ => W1 d.truth (fun b => K (.bool (!b)) ρ) X) := by unfold PE; rw [evalE]; simp only [w2_bind, w2_bind2, w2_ok] <;> rfl
def PBool (d : D) (K : Bool → Prop) : Prop := match d with
  | .bool b => K b
  | _ => False
theorem pbool {b : Bool} {G : Bool → Prop} : PBool (.bool b) G = G b := rfl
theorem e_and {a b : E} : PE call X (.and a b) ρ K = PE call X a ρ (fun x ρ => PBool x (fun t => if t = true then PE call X b ρ K else K (.bool false) ρ)) := by
  unfold PE; rw [evalE]; simp only [w2_bind2]; congr 1; funext x ρ
  cases x with
  | bool t => cases t <;> rfl
  | _ => rfl
theorem e_or {a b : E} : PE call X (.or a b) ρ K = PE call X a ρ (fun x ρ => PBool x (fun t => if t = true then K (.bool true) ρ else PE call X b ρ K)) := by
  unfold PE; rw [evalE]; simp only [w2_bind2]; congr 1; funext x ρ
  cases x with
  | bool t => cases t <;> rfl
  | _ => rfl
theorem e_ite {t : T} {a b : E} : PE call X (.ite t a b) ρ K = PT call X t ρ (fun c ρ => if c = true then PE call X a ρ K else PE call X b ρ K) := by unfold PE; rw [evalE]; simp only [w2_bind2, w2_ite] <;> rfl
theorem e_idx {a i : E} : PE call X (.idx a i) ρ K = PV call X a ρ (fun x ρ => PV call X i ρ (fun y ρ => PN X a x ρ (fun x => PN X i y ρ (fun y => W1 (idxR x y) (fun d => K d ρ) X)))) := by unfold PE; rw [evalE]; simp only [w2_bind, w2_bind2, w2_ok] <;> rfl
theorem e_idxd {a i : E} : PE call X (.idxd a i) ρ K = PV call X a ρ (fun x ρ => PE call X i ρ (fun y ρ => PN X a x ρ (fun x => W1 (idxDR x y) (fun d => K d ρ) X))) := by unfold PE; rw [evalE]; simp only [w2_bind, w2_bind2, w2_ok] <;> rfl
theorem e_ind {n : Bool} {a b : E} : PE call X (.ind n a b) ρ K = PE call X a ρ (fun x ρ => PV call X b ρ (fun y ρ => W1 (inDR n x y) (fun d => K d ρ) X)) := by unfold PE; rw [evalE]; simp only [w2_bind, w2_bind2, w2_ok] <;> rfl
theorem e_any2 {n : Nat} : PE call X (.any2 n) ρ K = W1 (own2S ρ n) (fun xs => W1 (anyR xs) (fun b => K (.bool b) ρ) X) X := by unfold PE; rw [evalE]; simp only [w2_bind, w2_bind2, w2_ok] <;> rfl
def PLst (d : D) (K : List D → Prop) : Prop := match d with
  | .lst l => K l
  | _ => False
theorem plst {b : List D} {G : List D → Prop} : PLst (.lst b) G = G b := rfl
theorem e_idx2 {n : Nat} {a b : E} : PE call X (.idx2 n a b) ρ K = PE call X a ρ (fun x ρ => PE call X b ρ (fun y ρ => W1 (own2S ρ n) (fun xs => W1 x.toInt (fun i => W1 (nthR xs i) (fun r => PLst r (fun r => W1 y.toInt (fun j => W1 (nthR r j) (fun d => K d ρ) X) X)) X) X) X)) := by
  unfold PE; rw [evalE]; simp only [w2_bind]
  refine w1_congr fun p => w1_congr fun q => w1_congr fun xs => w1_congr fun i => w1_congr fun r => ?_
  cases r <;> simp only [w2_bind, w2_ok] <;> rfl
theorem e_slice {a l h : E} : PE call X (.slice a l h) ρ K = PV call X a ρ (fun x ρ => PO call X l ρ (fun lo ρ => PO call X h ρ (fun hi ρ => PN X a x ρ (fun x => W1 (sliceR x lo hi) (fun d => K d ρ) X)))) := by unfold PE; rw [evalE]; simp only [w2_bind, w2_bind2, w2_ok] <;> rfl
theorem e_call {f : Nat} {as : Es} : PE call X (.call f as) ρ K = PAs call X as ρ (fun ds ρ => W2 (call f ds) (fun d outs => Now (outsS as outs ρ) (fun ρ => K d ρ)) X) := by unfold PE; rw [evalE]; simp only [w2_bind, w2_bind2, w2_ok] <;> rfl
theorem e_b1 {o : B1} {a : E} : PE call X (.b1 o a) ρ K = PV call X a ρ (fun x ρ => W1 (b1R o x) (fun d => K d ρ) X) := by unfold PE; rw [evalE]; simp only [w2_bind, w2_bind2, w2_ok] <;> rfl
theorem e_b2 {o : B2} {a b : E} : PE call X (.b2 o a b) ρ K = PE call X a ρ (fun x ρ => PE call X b ρ (fun y ρ => W1 (b2R o x y) (fun d => K d ρ) X)) := by unfold PE; rw [evalE]; simp only [w2_bind, w2_bind2, w2_ok] <;> rfl
theorem e_b3 {o : B2} {a b c : E} : PE call X (.b3 o a b c) ρ K = PE call X a ρ (fun x ρ => PE call X b ρ (fun y ρ => PE call X c ρ (fun z ρ => W1 (b3R o x y z) (fun d => K d ρ) X))) := by unfold PE; rw [evalE]; simp only [w2_bind, w2_bind2, w2_ok] <;> rfl
theorem e_get {a b c : E} : PE call X (.get a b c) ρ K = PV call X a ρ (fun x ρ => PE call X b ρ (fun y ρ => PE call X c ρ (fun z ρ => PN X a x ρ (fun x => W1 (getR x y z) (fun d => K d ρ) X)))) := by unfold PE; rw [evalE]; simp only [w2_bind, w2_bind2, w2_ok] <;> rfl
theorem e_count {a x : E} : PE call X (.count a x) ρ K = PV call X a ρ (fun l ρ => W1 (isLstR l) (fun _ => PE call X x ρ (fun d ρ => PN X a l ρ (fun l => W1 (countR l d) (fun d => K d ρ) X))) X) := by unfold PE; rw [evalE]; simp only [w2_bind, w2_bind2, w2_ok] <;> rfl
theorem e_index {a x : E} : PE call X (.index a x) ρ K = PV call X a ρ (fun l ρ => W1 (isLstR l) (fun _ => PE call X x ρ (fun d ρ => PN X a l ρ (fun l => W1 (indexR l d) (fun d => K d ρ) X))) X) := by unfold PE; rw [evalE]; simp only [w2_bind, w2_bind2, w2_ok] <;> rfl
theorem e_isa {t : TY} {a : E} : PE call X (.isa t a) ρ K = PE call X a ρ (fun x ρ => W1 (isTy t x) (fun b => K (.bool b) ρ) X) := by unfold PE; rw [evalE]; simp only [w2_bind, w2_bind2, w2_ok] <;> rfl
theorem e_isExc {c : Nat} {a : E} : PE call X (.isExc c a) ρ K = PE call X a ρ (fun x ρ => W1 (isExcR c x) (fun b => K (.bool b) ρ) X) := by unfold PE; rw [evalE]; simp only [w2_bind, w2_bind2, w2_ok] <;> rfl
theorem e_mkExc {c : Nat} : PE call X (.mkExc c) ρ K = if c < 5 then K (.exc c) ρ else False := by unfold PE; rw [evalE]; simp only [w2_ite, w2_ok, w2_bad] <;> rfl
/-! tests -/
theorem t_not {a : T} : PT call X (.not a) ρ B = PT call X a ρ (fun b ρ => B (!b) ρ) := by unfold PT; rw [evalT]; simp only [w2_bind2, w2_ok] <;> rfl
theorem t_and {a b : T} : PT call X (.and a b) ρ B = PT call X a ρ (fun x ρ => if x = true then PT call X b ρ B else B false ρ) := by unfold PT; rw [evalT]; simp only [w2_bind2, w2_ok, w2_ite] <;> rfl
theorem t_or {a b : T} : PT call X (.or a b) ρ B = PT call X a ρ (fun x ρ => if x = true then B true ρ else PT call X b ρ B) := by unfold PT; rw [evalT]; simp only [w2_bind2, w2_ok, w2_ite] <;> rfl
theorem t_of {e : E} : PT call X (.of e) ρ B = PV call X e ρ (fun d ρ => W1 d.truth (fun b => B b ρ) X) := by unfold PT; rw [evalT]; simp only [w2_bind2, w2_bind, w2_ok] <;> rfl
/-! lists of values -/
theorem es_nil : PEs call X .nil ρ L = L [] ρ := rfl
theorem es_cons {e : E} {es : Es} : PEs call X (.cons e es) ρ L = PE call X e ρ (fun d ρ => PEs call X es ρ (fun ds ρ => L (d :: ds) ρ)) := by unfold PEs; rw [evalEs]; simp only [w2_bind2, w2_bind, w2_ok] <;> rfl
theorem as_nil : PAs call X .nil ρ L = L [] ρ := rfl
theorem as_io {i : Nat} {es : Es} : PAs call X (.cons (.io i) es) ρ L = W1 (ownS ρ i) (fun _ => PAs call X es ρ (fun ds ρ => W1 (ownS ρ i) (fun d => L (d :: ds) ρ) X)) X := by unfold PAs; rw [evalAs]; simp only [w2_bind2, w2_bind, w2_ok] <;> rfl
theorem as_tmp {e : E} {es : Es} : PAs call X (.cons (.tmp e) es) ρ L = PE call X e ρ (fun d ρ => PAs call X es ρ (fun ds ρ => L (d :: ds) ρ)) := by unfold PAs; rw [evalAs]; simp only [w2_bind2, w2_bind, w2_ok] <;> rfl
/-! what is walked -/
theorem i_val {e : E} : PI call X (.val e) ρ L = PV call X e ρ (fun d ρ => W1 (itemsR d) (fun l => L l ρ) X) := by unfold PI; rw [evalIt]; simp only [w2_bind2, w2_bind, w2_ok] <;> rfl
def PInt (d : D) (K : Int → Prop) : Prop := match d with
  | .int b => K b
  | _ => False
theorem pint {b : Int} {G : Int → Prop} : PInt (.int b) G = G b := rfl
theorem i_range {e : E} : PI call X (.range e) ρ L = PE call X e ρ (fun d ρ => PInt d (fun n => if smallI n = true then L (rangeL 0 n) ρ else False)) := by
  unfold PI; rw [evalIt]; simp only [w2_bind2]; unfold PE; congr 1; funext d ρ
  cases d <;> simp only [w2_ite, w2_ok, w2_bad] <;> rfl
theorem i_range2 {a b : E} : PI call X (.range2 a b) ρ L = PE call X a ρ (fun x ρ => PE call X b ρ (fun y ρ => PInt x (fun i => PInt y (fun j => if (smallI i && smallI j) = true then L (rangeL i j) ρ else False)))) := by
  unfold PI; rw [evalIt]; simp only [w2_bind2]; unfold PE; congr 1; funext x ρ; congr 1; funext y ρ
  cases x <;> cases y <;> simp only [w2_ite, w2_ok, w2_bad] <;> rfl
theorem i_zip2 {a b : E} : PI call X (.zip2 a b) ρ L = PE call X a ρ (fun x ρ => PE call X b ρ (fun y ρ => W1 (itemsR x) (fun xs => W1 (itemsR y) (fun ys => L (zip2 xs ys) ρ) X) X)) := by unfold PI; rw [evalIt]; simp only [w2_bind2, w2_bind, w2_ok] <;> rfl
theorem i_zip3 {a b c : E} : PI call X (.zip3 a b c) ρ L = PE call X a ρ (fun x ρ => PE call X b ρ (fun y ρ => PE call X c ρ (fun z ρ => W1 (itemsR x) (fun xs => W1 (itemsR y) (fun ys => W1 (itemsR z) (fun zs => L (zip3 xs ys zs) ρ) X) X) X))) := by unfold PI; rw [evalIt]; simp only [w2_bind2, w2_bind, w2_ok] <;> rfl
theorem i_enum {i : It} : PI call X (.enum i) ρ L = PI call X i ρ (fun l ρ => L (enumL 0 l) ρ) := by unfold PI; rw [evalIt]; simp only [w2_bind2, w2_bind, w2_ok] <;> rfl
theorem i_rev {e : E} : PI call X (.rev e) ρ L = PE call X e ρ (fun d ρ => PLst d (fun l => L l.reverse ρ)) := by
  unfold PI; rw [evalIt]; simp only [w2_bind2]; unfold PE; congr 1; funext d ρ
  cases d <;> rfl
/-! statements -/
theorem s_set {l : List Nat} {i g : Nat} {e : E} : PS call w X (.set l i g e) ρ C = Now (letGo ρ l) (fun ρ => PE call X e ρ (fun d ρ => PB X ρ i d g (fun ρ => C .next ρ))) := by unfold PS; rw [evalS]; simp only [w2_bind2, w2_bind, w2_ok] <;> rfl
theorem s_ret {l : List Nat} {e : E} : PS call w X (.ret l e) ρ C = Now (letGo ρ l) (fun ρ => PE call X e ρ (fun d ρ => C (.ret d) ρ)) := by unfold PS; rw [evalS]; simp only [w2_bind2, w2_bind, w2_ok] <;> rfl
theorem s_retv {i : Nat} : PS call w X (.retv i) ρ C = W1 (getS ρ i) (fun p => if p.2 = 1 ∨ p.2 = 2 then C (.ret p.1) (ρ.set i none) else False) X := by unfold PS; rw [evalS]; simp only [w2_bind2, w2_bind, w2_ite, w2_ok, w2_bad]
theorem s_retN : PS call w X .retN ρ C = C (.ret .non) ρ := rfl
theorem s_raise {c : Nat} : PS call w X (.raise c) ρ C = X c := rfl
theorem s_brk : PS call w X .brk ρ C = C .brk ρ := rfl
theorem s_cont : PS call w X .cont ρ C = C .cont ρ := rfl
theorem s_pass : PS call w X .pass ρ C = C .next ρ := rfl
theorem s_ex {e : E} : PS call w X (.ex e) ρ C = PE call X e ρ (fun _ ρ => C .next ρ) := by unfold PS; rw [evalS]; simp only [w2_bind2, w2_bind, w2_ok] <;> rfl
theorem s_ifs {t : T} {a b : Ss} : PS call w X (.ifs t a b) ρ C = PT call X t ρ (fun c ρ => if c = true then PSs call w X a ρ C else PSs call w X b ρ C) := by unfold PS; rw [evalS]; simp only [w2_bind2, w2_bind, w2_ite] <;> rfl
theorem s_app {l : List Nat} {i : Nat} {e : E} : PS call w X (.app l i e) ρ C = Now (letGo ρ l) (fun ρ => PE call X e ρ (fun d ρ => W1 (listOwn ρ i) (fun xs => if xs.length < maxLen then Now (putS ρ i (.lst (xs ++ [d]))) (fun ρ => C .next ρ) else False) X)) := by unfold PS; rw [evalS]; simp only [w2_bind2, w2_bind, w2_ite, w2_ok, w2_bad] <;> rfl
theorem s_ext {l : List Nat} {i : Nat} {e : E} : PS call w X (.ext l i e) ρ C = Now (letGo ρ l) (fun ρ => PV call X e ρ (fun d ρ => W1 (listOwn ρ i) (fun xs => W1 (itemsR d) (fun ys => if xs.length + ys.length ≤ maxLen then Now (putS ρ i (.lst (xs ++ ys))) (fun ρ => C .next ρ) else False) X) X)) := by unfold PS; rw [evalS]; simp only [w2_bind2, w2_bind, w2_ite, w2_ok, w2_bad] <;> rfl
theorem s_put {l : List Nat} {i : Nat} {a e : E} : PS call w X (.put l i a e) ρ C = Now (letGo ρ l) (fun ρ => PE call X e ρ (fun d ρ => W1 (ownS ρ i) (fun _ => PE call X a ρ (fun j ρ => W1 (ownS ρ i) (fun x => PLst x (fun l => W1 j.toInt (fun j => W1 (setNth l j d) (fun l => Now (putS ρ i (.lst l)) (fun ρ => C .next ρ)) X) X)) X)) X)) := by
  unfold PS; rw [evalS]; simp only [w2_bind]
  refine w1_congr fun p => w1_congr fun q => w1_congr fun xs => w1_congr fun r => ?_
  cases r <;> simp only [w2_bind, w2_ok] <;> rfl
theorem s_unpack {l : List Nat} {t : Tg} {e : E} : PS call w X (.unpack l t e) ρ C = Now (letGo ρ l) (fun ρ => PE call X e ρ (fun d ρ => W1 (bindT ρ t d) (fun ρ => C .next ρ) X)) := by unfold PS; rw [evalS]; simp only [w2_bind2, w2_bind, w2_ok] <;> rfl
theorem s_par {l : List Nat} {is : List (Nat × Nat)} {es : Es} : PS call w X (.par l is es) ρ C = Now (letGo ρ l) (fun ρ => PEs call X es ρ (fun ds ρ => W1 (bindPar ρ is ds) (fun ρ => C .next ρ) X)) := by unfold PS; rw [evalS]; simp only [w2_bind2, w2_bind, w2_ok] <;> rfl
theorem s_aug {i : Nat} {o : BO} {e : E} : PS call w X (.aug i o e) ρ C = W1 (valS ρ i) (fun x => PE call X e ρ (fun d ρ => PInt x (fun _ => W1 (binR o x d) (fun v => PB X ρ i v 0 (fun ρ => C .next ρ)) X))) X := by
  unfold PS; rw [evalS]; simp only [w2_bind]
  refine w1_congr fun x => w1_congr fun p => ?_
  cases x <;> simp only [w2_bind, w2_ok] <;> rfl
/-- a loop's body, and what is behind it -/
def LB (call : CallF) (w : Nat) (t : Tg) (b : Ss) (x : D) (ρ : Env) : R (Ctl × Env) := bindT ρ t x >>= fun ρ => evalSs call w b ρ
theorem lb_def {t : Tg} {b : Ss} {x : D} : W2 (LB call w t b x ρ) C X = W1 (bindT ρ t x) (fun ρ => PSs call w X b ρ C) X := by unfold LB; rw [w2_bind]; rfl
theorem s_for {l : List Nat} {t : Tg} {it : It} {b : Ss} : PS call w X (.for_ l t it b) ρ C = Now (letGo ρ l) (fun ρ => PI call X it ρ (fun xs ρ => W2 (forR (LB call w t b) xs ρ) C X)) := by unfold PS; rw [evalS]; simp only [w2_bind2] <;> rfl
/-- behind a statement -/
def After (call : CallF) (w : Nat) (X : Nat → Prop) (ss : Ss) (c : Ctl) (ρ : Env) (C : Ctl → Env → Prop) : Prop := match c with
  | .next => PSs call w X ss ρ C
  | c => C c ρ
theorem af_next {ss : Ss} : After call w X ss .next ρ C = PSs call w X ss ρ C := rfl
theorem af_ret {ss : Ss} {d : D} : After call w X ss (.ret d) ρ C = C (.ret d) ρ := rfl
theorem af_brk {ss : Ss} : After call w X ss .brk ρ C = C .brk ρ := rfl
theorem af_cont {ss : Ss} : After call w X ss .cont ρ C = C .cont ρ := rfl
theorem ss_nil : PSs call w X .nil ρ C = C .next ρ := rfl
theorem ss_cons {s : S} {ss : Ss} : PSs call w X (.cons s ss) ρ C = PS call w X s ρ (fun c ρ => After call w X ss c ρ C) := by
  unfold PSs PS; rw [evalSs]; simp only [w2_bind2]; congr 1; funext c ρ
  cases c <;> rfl
/-! names bound -/
theorem b_n {a : Slot} {n : Nat} {d : D} {g : Nat} {G : Env → Prop} : PB X (a :: ρ) (n + 1) d g G = PB X ρ n d g (fun ρ => G (a :: ρ)) := w1_bindS_n
theorem b_0n {d : D} {g : Nat} {G : Env → Prop} : PB X (none :: ρ) 0 d g G = G (some (d, g) :: ρ) := rfl
theorem b_00 {d e : D} {g : Nat} {G : Env → Prop} : PB X (some (e, 0) :: ρ) 0 d g G = G (some (d, g) :: ρ) := rfl
theorem b_01 {d e : D} {g : Nat} {G : Env → Prop} : PB X (some (e, 1) :: ρ) 0 d g G = G (some (d, g) :: ρ) := rfl
theorem b_02 {d e : D} {g : Nat} {G : Env → Prop} : PB X (some (e, 2) :: ρ) 0 d g G = G (some (d, g) :: ρ) := rfl
theorem bt_nm {i : Nat} {d : D} {G : Env → Prop} : W1 (bindT ρ (.nm i) d) G X = PB X ρ i d 0 G := rfl
theorem bt_tup {ts : Tgs} {l : List D} {G : Env → Prop} : W1 (bindT ρ (.tup ts) (.tup l)) G X = W1 (bindTs ρ ts l) G X := rfl
theorem bts_nil {G : Env → Prop} : W1 (bindTs ρ .nil []) G X = G ρ := rfl
theorem bts_cons {t : Tg} {ts : Tgs} {d : D} {ds : List D} {G : Env → Prop} : W1 (bindTs ρ (.cons t ts) (d :: ds)) G X = W1 (bindT ρ t d) (fun ρ => W1 (bindTs ρ ts ds) G X) X := by rw [bindTs, w1_bind]
theorem bp_nil {G : Env → Prop} : W1 (bindPar ρ [] []) G X = G ρ := rfl
theorem bp_cons {i g : Nat} {is : List (Nat × Nat)} {d : D} {ds : List D} {G : Env → Prop} : W1 (bindPar ρ ((i, g) :: is) (d :: ds)) G X = PB X ρ i d g (fun ρ => W1 (bindPar ρ is ds) G X) := by rw [bindPar, w1_bind]; rfl
/-! a def -/
/-- lists and dicts all -/
def AM (l : List D) : Bool := l.all D.isMut
theorem am_nil : AM [] = true := rfl
theorem am_lst {l : List D} {r : List D} : AM (.lst l :: r) = AM r := rfl
theorem am_dct {l : List (D × D)} {r : List D} : AM (.dct l :: r) = AM r := rfl
def Fin (ps : List Bool) (Q : D → List D → Prop) (c : Ctl) (ρ : Env) : Prop := if AM (outsOf ps ρ) = true then (match c with
    | .next => Q .non (outsOf ps ρ)
    | .ret d => Q d (outsOf ps ρ)
    | _ => False) else False
theorem fin_next {ps : List Bool} {Q : D → List D → Prop} : Fin ps Q .next ρ = if AM (outsOf ps ρ) = true then Q .non (outsOf ps ρ) else False := rfl
theorem fin_ret {ps : List Bool} {Q : D → List D → Prop} {d : D} : Fin ps Q (.ret d) ρ = if AM (outsOf ps ρ) = true then Q d (outsOf ps ρ) else False := rfl
theorem out_nil : outsOf [] ρ = [] := rfl
theorem out_f {b : List Bool} {s : Slot} : outsOf (false :: b) (s :: ρ) = outsOf b ρ := rfl
theorem out_t {b : List Bool} {d : D} {g : Nat} : outsOf (true :: b) (some (d, g) :: ρ) = d :: outsOf b ρ := rfl
theorem run_def {f : Fn} {ds : List D} {Q : D → List D → Prop} : W2 (runF call w f ds) Q X = W1 (startS f ds) (fun ρ => PSs call w X f.body ρ (Fin f.ps Q)) X := by
  unfold runF; simp only [w2_bind]
  refine w1_congr fun ρ => w1_congr fun p => ?_
  rw [w2_ite]
  unfold Fin AM
  by_cases h : (outsOf f.ps p.2).all D.isMut = true
  · rw [if_pos h, if_pos h]
    cases p.1 <;> rfl
  · rw [if_neg h, if_neg h]; rfl
theorem os_nil {ds : List D} : outsS .nil ds ρ = ρ := rfl
theorem os_io {i : Nat} {es : Es} {d : D} {ds : List D} : outsS (.cons (.io i) es) (d :: ds) ρ = outsS es ds (putS ρ i d) := rfl
theorem os_tmp {e : E} {es : Es} {d : D} {ds : List D} : outsS (.cons (.tmp e) es) (d :: ds) ρ = outsS es ds ρ := rfl
theorem os_k {d : D} {es1 : Es} {ds1 : List D} : outsS (.cons (.k d) es1) ds1 ρ = outsS es1 ds1 ρ := rfl
theorem os_v {i : Nat} {es1 : Es} {ds1 : List D} : outsS (.cons (.v i) es1) ds1 ρ = outsS es1 ds1 ρ := rfl
theorem os_tup {es : Es} {es1 : Es} {ds1 : List D} : outsS (.cons (.tup es) es1) ds1 ρ = outsS es1 ds1 ρ := rfl
theorem os_lst {es : Es} {es1 : Es} {ds1 : List D} : outsS (.cons (.lst es) es1) ds1 ρ = outsS es1 ds1 ρ := rfl
theorem os_dict {a b : Es} {es1 : Es} {ds1 : List D} : outsS (.cons (.dict a b) es1) ds1 ρ = outsS es1 ds1 ρ := rfl
theorem os_bin {o : BO} {a b : E} {es1 : Es} {ds1 : List D} : outsS (.cons (.bin o a b) es1) ds1 ρ = outsS es1 ds1 ρ := rfl
theorem os_cmp {o : CO} {a b : E} {es1 : Es} {ds1 : List D} : outsS (.cons (.cmp o a b) es1) ds1 ρ = outsS es1 ds1 ρ := rfl
theorem os_chain {o p : CO} {a b c : E} {es1 : Es} {ds1 : List D} : outsS (.cons (.chain o p a b c) es1) ds1 ρ = outsS es1 ds1 ρ := rfl
theorem os_not {a : E} {es1 : Es} {ds1 : List D} : outsS (.cons (.not a) es1) ds1 ρ = outsS es1 ds1 ρ := rfl
theorem os_and {a b : E} {es1 : Es} {ds1 : List D} : outsS (.cons (.and a b) es1) ds1 ρ = outsS es1 ds1 ρ := rfl
theorem os_or {a b : E} {es1 : Es} {ds1 : List D} : outsS (.cons (.or a b) es1) ds1 ρ = outsS es1 ds1 ρ := rfl
theorem os_ite {t : T} {a b : E} {es1 : Es} {ds1 : List D} : outsS (.cons (.ite t a b) es1) ds1 ρ = outsS es1 ds1 ρ := rfl
theorem os_idx {a i : E} {es1 : Es} {ds1 : List D} : outsS (.cons (.idx a i) es1) ds1 ρ = outsS es1 ds1 ρ := rfl
theorem os_idxd {a i : E} {es1 : Es} {ds1 : List D} : outsS (.cons (.idxd a i) es1) ds1 ρ = outsS es1 ds1 ρ := rfl
theorem os_ind {n : Bool} {a d : E} {es1 : Es} {ds1 : List D} : outsS (.cons (.ind n a d) es1) ds1 ρ = outsS es1 ds1 ρ := rfl
theorem os_idx2 {n : Nat} {a b : E} {es1 : Es} {ds1 : List D} : outsS (.cons (.idx2 n a b) es1) ds1 ρ = outsS es1 ds1 ρ := rfl
theorem os_any2 {n : Nat} {es1 : Es} {ds1 : List D} : outsS (.cons (.any2 n) es1) ds1 ρ = outsS es1 ds1 ρ := rfl
theorem os_slice {a l h : E} {es1 : Es} {ds1 : List D} : outsS (.cons (.slice a l h) es1) ds1 ρ = outsS es1 ds1 ρ := rfl
theorem os_call {f : Nat} {as : Es} {es1 : Es} {ds1 : List D} : outsS (.cons (.call f as) es1) ds1 ρ = outsS es1 ds1 ρ := rfl
theorem os_b1 {o : B1} {a : E} {es1 : Es} {ds1 : List D} : outsS (.cons (.b1 o a) es1) ds1 ρ = outsS es1 ds1 ρ := rfl
theorem os_b2 {o : B2} {a b : E} {es1 : Es} {ds1 : List D} : outsS (.cons (.b2 o a b) es1) ds1 ρ = outsS es1 ds1 ρ := rfl
theorem os_b3 {o : B2} {a b c : E} {es1 : Es} {ds1 : List D} : outsS (.cons (.b3 o a b c) es1) ds1 ρ = outsS es1 ds1 ρ := rfl
theorem os_get {d k z : E} {es1 : Es} {ds1 : List D} : outsS (.cons (.get d k z) es1) ds1 ρ = outsS es1 ds1 ρ := rfl
theorem os_count {a x : E} {es1 : Es} {ds1 : List D} : outsS (.cons (.count a x) es1) ds1 ρ = outsS es1 ds1 ρ := rfl
theorem os_index {a x : E} {es1 : Es} {ds1 : List D} : outsS (.cons (.index a x) es1) ds1 ρ = outsS es1 ds1 ρ := rfl
theorem os_isa {t : TY} {a : E} {es1 : Es} {ds1 : List D} : outsS (.cons (.isa t a) es1) ds1 ρ = outsS es1 ds1 ρ := rfl
theorem os_isExc {c : Nat} {a : E} {es1 : Es} {ds1 : List D} : outsS (.cons (.isExc c a) es1) ds1 ρ = outsS es1 ds1 ρ := rfl
theorem os_mkExc {c : Nat} {es1 : Es} {ds1 : List D} : outsS (.cons (.mkExc c) es1) ds1 ρ = outsS es1 ds1 ρ := rfl
theorem os_lc {t : Tg} {it : It} {c : T} {e : E} {es1 : Es} {ds1 : List D} : outsS (.cons (.lc t it c e) es1) ds1 ρ = outsS es1 ds1 ρ := rfl
theorem os_lc2 {t : Tg} {it : It} {t2 : Tg} {it2 : It} {c : T} {e : E} {es1 : Es} {ds1 : List D} : outsS (.cons (.lc2 t it t2 it2 c e) es1) ds1 ρ = outsS es1 ds1 ρ := rfl
theorem os_gsum {t : Tg} {it : It} {c : T} {e : E} {es1 : Es} {ds1 : List D} : outsS (.cons (.gsum t it c e) es1) ds1 ρ = outsS es1 ds1 ρ := rfl
theorem os_gall {t : Tg} {it : It} {e : E} {es1 : Es} {ds1 : List D} : outsS (.cons (.gall t it e) es1) ds1 ρ = outsS es1 ds1 ρ := rfl
theorem os_gall2 {t : Tg} {it : It} {t2 : Tg} {it2 : It} {e : E} {es1 : Es} {ds1 : List D} : outsS (.cons (.gall2 t it t2 it2 e) es1) ds1 ρ = outsS es1 ds1 ρ := rfl
theorem os_grid {n m : E} {es1 : Es} {ds1 : List D} : outsS (.cons (.grid n m) es1) ds1 ρ = outsS es1 ds1 ρ := rfl
theorem os_empties {a : E} {es1 : Es} {ds1 : List D} : outsS (.cons (.empties a) es1) ds1 ρ = outsS es1 ds1 ρ := rfl
theorem ty_int_non  : isTy .int .non = .ok false := rfl
theorem ty_int_bool {b : Bool} : isTy .int (.bool b) = .ok true := rfl
theorem ty_int_int {i : Int} : isTy .int (.int i) = .ok true := rfl
theorem ty_int_str {s : W} : isTy .int (.str s) = .ok false := rfl
theorem ty_int_tup {l : List D} : isTy .int (.tup l) = .ok false := rfl
theorem ty_int_lst {l : List D} : isTy .int (.lst l) = .ok false := rfl
theorem ty_bool_non  : isTy .bool .non = .ok false := rfl
theorem ty_bool_bool {b : Bool} : isTy .bool (.bool b) = .ok true := rfl
theorem ty_bool_int {i : Int} : isTy .bool (.int i) = .ok false := rfl
theorem ty_bool_str {s : W} : isTy .bool (.str s) = .ok false := rfl
theorem ty_bool_tup {l : List D} : isTy .bool (.tup l) = .ok false := rfl
theorem ty_bool_lst {l : List D} : isTy .bool (.lst l) = .ok false := rfl
theorem ty_tuple_non  : isTy .tuple .non = .ok false := rfl
theorem ty_tuple_bool {b : Bool} : isTy .tuple (.bool b) = .ok false := rfl
theorem ty_tuple_int {i : Int} : isTy .tuple (.int i) = .ok false := rfl
theorem ty_tuple_str {s : W} : isTy .tuple (.str s) = .ok false := rfl
theorem ty_tuple_tup {l : List D} : isTy .tuple (.tup l) = .ok true := rfl
theorem ty_tuple_lst {l : List D} : isTy .tuple (.lst l) = .ok false := rfl
theorem ty_str_non  : isTy .str .non = .ok false := rfl
theorem ty_str_bool {b : Bool} : isTy .str (.bool b) = .ok false := rfl
theorem ty_str_int {i : Int} : isTy .str (.int i) = .ok false := rfl
theorem ty_str_str {s : W} : isTy .str (.str s) = .ok true := rfl
theorem ty_str_tup {l : List D} : isTy .str (.tup l) = .ok false := rfl
theorem ty_str_lst {l : List D} : isTy .str (.lst l) = .ok false := rfl
theorem tb_bool {b : Bool} : D.toBool (.bool b) = .ok b := rfl
theorem tr_non  : D.truth .non = .ok false := rfl
theorem tr_bool {b : Bool} : D.truth (.bool b) = .ok b := rfl
theorem tr_int {i : Int} : D.truth (.int i) = .ok (i != 0) := rfl
theorem tr_str {s : W} : D.truth (.str s) = .ok (s != .empty) := rfl
theorem tr_tup {l : List D} : D.truth (.tup l) = .ok (!l.isEmpty) := rfl
theorem tr_lst {l : List D} : D.truth (.lst l) = .ok (!l.isEmpty) := rfl
theorem toInt_int {i : Int} : D.toInt (.int i) = .ok i := rfl
theorem bin_addi {i j : Int} : binR .add (.int i) (.int j) = .ok (.int (i + j)) := rfl
theorem bin_addt {a b : List D} : binR .add (.tup a) (.tup b) = mkTup (a ++ b) := rfl
theorem bin_addl {a b : List D} : binR .add (.lst a) (.lst b) = mkLst (a ++ b) := rfl
theorem bin_sub {i j : Int} : binR .sub (.int i) (.int j) = .ok (.int (i - j)) := rfl
theorem bin_mul {i j : Int} : binR .mul (.int i) (.int j) = if smallMul i j then .ok (.int (i * j)) else .bad := rfl
theorem bin_mult {a : List D} {n : Int} : binR .mul (.tup a) (.int n) = if -1000 ≤ n ∧ n ≤ 1000 ∧ a.length ≤ 1000 then .ok (.tup (repL a n)) else .bad := rfl
theorem bin_mull {a : List D} {n : Int} : binR .mul (.lst a) (.int n) = if n < 2 ^ 62 ∧ -(2 ^ 62) < n ∧ a.length * n.toNat ≤ maxLen then .ok (.lst (repL a n)) else .bad := rfl
theorem bin_fdiv {i j : Int} : binR .fdiv (.int i) (.int j) = if 0 < j ∧ j < 1073741824 then .ok (.int (i / j)) else .bad := rfl
theorem bin_mod {i j : Int} : binR .mod (.int i) (.int j) = if 0 < j then .ok (.int (i % j)) else .bad := rfl
theorem bin_pow {i j : Int} : binR .pow (.int i) (.int j) = if 0 ≤ j ∧ j ≤ 1000 ∧ i.natAbs < 2 ^ 64 then .ok (.int (i ^ j.toNat)) else .bad := rfl
theorem cmp_eq {a b : D} : cmpR .eq a b = eqR a b := rfl
theorem cmp_ne {a b : D} : cmpR .ne a b = (eqR a b >>= fun c => .ok (!c)) := rfl
theorem cmp_lt {a b : D} : cmpR .lt a b = ltR a b := rfl
theorem cmp_le {i j : Int} : cmpR .le (.int i) (.int j) = .ok (decide (i ≤ j)) := rfl
theorem cmp_gt {i j : Int} : cmpR .gt (.int i) (.int j) = .ok (decide (j < i)) := rfl
theorem cmp_ge {i j : Int} : cmpR .ge (.int i) (.int j) = .ok (decide (j ≤ i)) := rfl
theorem cmp_is {a b : D} : cmpR .is_ a b = isR a b := rfl
theorem cmp_isNot {a b : D} : cmpR .isNot a b = (isR a b >>= fun c => .ok (!c)) := rfl
theorem cmp_int {a : D} {l : List D} : cmpR .in_ a (.tup l) = inR a l := rfl
theorem cmp_inl {a : D} {l : List D} : cmpR .in_ a (.lst l) = inR a l := rfl
theorem cmp_nint {a : D} {l : List D} : cmpR .notIn a (.tup l) = (inR a l >>= fun c => .ok (!c)) := rfl
theorem cmp_ninl {a : D} {l : List D} : cmpR .notIn a (.lst l) = (inR a l >>= fun c => .ok (!c)) := rfl
theorem eq_ii {i j : Int} : eqR (.int i) (.int j) = .ok (i == j) := rfl
theorem eq_ss {a b : W} : eqR (.str a) (.str b) = .ok (a == b) := rfl
theorem eq_bb {a b : Bool} : eqR (.bool a) (.bool b) = .ok (a == b) := rfl
theorem lt_ii {i j : Int} : ltR (.int i) (.int j) = .ok (decide (i < j)) := rfl
theorem is_non_n  : isR .non .non = .ok true := rfl
theorem is_bool_n {b : Bool} : isR (.bool b) .non = .ok false := rfl
theorem is_int_n {i : Int} : isR (.int i) .non = .ok false := rfl
theorem is_str_n {s : W} : isR (.str s) .non = .ok false := rfl
theorem is_tup_n {l : List D} : isR (.tup l) .non = .ok false := rfl
theorem is_lst_n {l : List D} : isR (.lst l) .non = .ok false := rfl
theorem ix_t {l : List D} {i : Int} : idxR (.tup l) (.int i) = nthR l i := rfl
theorem ix_l {l : List D} {i : Int} : idxR (.lst l) (.int i) = nthR l i := rfl
theorem sl_t {l : List D} {a b : Option Int} : sliceR (.tup l) a b = .ok (.tup (sliceL l a b)) := rfl
theorem sl_l {l : List D} {a b : Option Int} : sliceR (.lst l) a b = .ok (.lst (sliceL l a b)) := rfl
theorem it_t {l : List D} : itemsR (.tup l) = .ok l := rfl
theorem it_l {l : List D} : itemsR (.lst l) = .ok l := rfl
theorem it_s {l : List Int} : itemsR (.scr l) = .ok (l.map .int) := rfl
theorem b1_lent {l : List D} : b1R .len (.tup l) = .ok (.int l.length) := rfl
theorem b1_lenl {l : List D} : b1R .len (.lst l) = .ok (.int l.length) := rfl
theorem b1_int {i : Int} : b1R .int (.int i) = .ok (.int i) := rfl
theorem b1_abs {i : Int} : b1R .abs (.int i) = .ok (.int (if i < 0 then -i else i)) := rfl
theorem b1_neg {i : Int} : b1R .neg (.int i) = .ok (.int (-i)) := rfl
theorem b1_sum {l : List D} : b1R .sum (.lst l) = (intsR l >>= fun r => .ok (.int r.sum)) := rfl
theorem b1_min {l : List D} : b1R .min (.lst l) = minR l := rfl
theorem b1_max {l : List D} : b1R .max (.lst l) = maxR l := rfl
theorem b1_anyl {l : List D} : b1R .any (.lst l) = (anyR l >>= fun r => .ok (.bool r)) := rfl
theorem b1_anyt {l : List D} : b1R .any (.tup l) = (anyR l >>= fun r => .ok (.bool r)) := rfl
theorem b1_tupl {l : List D} : b1R .tupleOf (.lst l) = .ok (.tup l) := rfl
theorem b1_tupt {l : List D} : b1R .tupleOf (.tup l) = .ok (.tup l) := rfl
theorem b1_lstl {l : List D} : b1R .listOf (.lst l) = .ok (.lst l) := rfl
theorem b1_lstt {l : List D} : b1R .listOf (.tup l) = .ok (.lst l) := rfl
theorem b1_sortl {l : List D} : b1R .sorted (.lst l) = (sortR l >>= fun r => .ok (.lst r)) := rfl
theorem b1_sortt {l : List D} : b1R .sorted (.tup l) = (sortR l >>= fun r => .ok (.lst r)) := rfl
theorem b1_sortk {l : List D} : b1R .sortedKey (.lst l) = (sortKeyR l >>= fun r => .ok (.lst r)) := rfl
theorem b1_repr {d : D} : b1R .repr d = if reprOk d then .ok (.rep d) else .bad := rfl
theorem b1_strExc {e : Nat} : b1R .strExc (.exc e) = if e < 5 then .ok (.str .empty) else .bad := rfl
theorem b2_min {i j : Int} : b2R .min (.int i) (.int j) = .ok (.int (if j < i then j else i)) := rfl
theorem b2_max {i j : Int} : b2R .max (.int i) (.int j) = .ok (.int (if i < j then j else i)) := rfl
theorem ise_ {c e : Nat} : isExcR c (.exc e) = if e < 5 then .ok (c == e || c == 0 || c == 5) else .bad := rfl
theorem as_any {e : E} {es : Es} (h : evalAs call (.cons e es) ρ = (do let (d, ρ) ← evalE call e ρ; let (ds, ρ) ← evalAs call es ρ; R.ok (d :: ds, ρ))) : PAs call X (.cons e es) ρ L = PE call X e ρ (fun d ρ => PAs call X es ρ (fun ds ρ => L (d :: ds) ρ)) := by unfold PAs; rw [h]; simp only [w2_bind2, w2_ok] <;> rfl
theorem as_k {d : D} {es : Es} : PAs call X (.cons (.k d) es) ρ L = PE call X (.k d) ρ (fun d ρ => PAs call X es ρ (fun ds ρ => L (d :: ds) ρ)) := as_any rfl
theorem as_v {i : Nat} {es : Es} : PAs call X (.cons (.v i) es) ρ L = PE call X (.v i) ρ (fun d ρ => PAs call X es ρ (fun ds ρ => L (d :: ds) ρ)) := as_any rfl
theorem as_tup {es0 es : Es} : PAs call X (.cons (.tup es0) es) ρ L = PE call X (.tup es0) ρ (fun d ρ => PAs call X es ρ (fun ds ρ => L (d :: ds) ρ)) := as_any rfl
theorem as_lst {es0 es : Es} : PAs call X (.cons (.lst es0) es) ρ L = PE call X (.lst es0) ρ (fun d ρ => PAs call X es ρ (fun ds ρ => L (d :: ds) ρ)) := as_any rfl
theorem as_dict {a b : Es} {es : Es} : PAs call X (.cons (.dict a b) es) ρ L = PE call X (.dict a b) ρ (fun d ρ => PAs call X es ρ (fun ds ρ => L (d :: ds) ρ)) := as_any rfl
theorem as_bin {o : BO} {a b : E} {es : Es} : PAs call X (.cons (.bin o a b) es) ρ L = PE call X (.bin o a b) ρ (fun d ρ => PAs call X es ρ (fun ds ρ => L (d :: ds) ρ)) := as_any rfl
theorem as_cmp {o : CO} {a b : E} {es : Es} : PAs call X (.cons (.cmp o a b) es) ρ L = PE call X (.cmp o a b) ρ (fun d ρ => PAs call X es ρ (fun ds ρ => L (d :: ds) ρ)) := as_any rfl
theorem as_chain {o p : CO} {a b c : E} {es : Es} : PAs call X (.cons (.chain o p a b c) es) ρ L = PE call X (.chain o p a b c) ρ (fun d ρ => PAs call X es ρ (fun ds ρ => L (d :: ds) ρ)) := as_any rfl
theorem as_not {a : E} {es : Es} : PAs call X (.cons (.not a) es) ρ L = PE call X (.not a) ρ (fun d ρ => PAs call X es ρ (fun ds ρ => L (d :: ds) ρ)) := as_any rfl
theorem as_and {a b : E} {es : Es} : PAs call X (.cons (.and a b) es) ρ L = PE call X (.and a b) ρ (fun d ρ => PAs call X es ρ (fun ds ρ => L (d :: ds) ρ)) := as_any rfl
theorem as_or {a b : E} {es : Es} : PAs call X (.cons (.or a b) es) ρ L = PE call X (.or a b) ρ (fun d ρ => PAs call X es ρ (fun ds ρ => L (d :: ds) ρ)) := as_any rfl
theorem as_ite {t : T} {a b : E} {es : Es} : PAs call X (.cons (.ite t a b) es) ρ L = PE call X (.ite t a b) ρ (fun d ρ => PAs call X es ρ (fun ds ρ => L (d :: ds) ρ)) := as_any rfl
theorem as_idx {a i : E} {es : Es} : PAs call X (.cons (.idx a i) es) ρ L = PE call X (.idx a i) ρ (fun d ρ => PAs call X es ρ (fun ds ρ => L (d :: ds) ρ)) := as_any rfl
theorem as_idxd {a i : E} {es : Es} : PAs call X (.cons (.idxd a i) es) ρ L = PE call X (.idxd a i) ρ (fun d ρ => PAs call X es ρ (fun ds ρ => L (d :: ds) ρ)) := as_any rfl
theorem as_ind {n : Bool} {a d : E} {es : Es} : PAs call X (.cons (.ind n a d) es) ρ L = PE call X (.ind n a d) ρ (fun d ρ => PAs call X es ρ (fun ds ρ => L (d :: ds) ρ)) := as_any rfl
theorem as_idx2 {n : Nat} {a b : E} {es : Es} : PAs call X (.cons (.idx2 n a b) es) ρ L = PE call X (.idx2 n a b) ρ (fun d ρ => PAs call X es ρ (fun ds ρ => L (d :: ds) ρ)) := as_any rfl
theorem as_any2 {n : Nat} {es : Es} : PAs call X (.cons (.any2 n) es) ρ L = PE call X (.any2 n) ρ (fun d ρ => PAs call X es ρ (fun ds ρ => L (d :: ds) ρ)) := as_any rfl
theorem as_slice {a l h : E} {es : Es} : PAs call X (.cons (.slice a l h) es) ρ L = PE call X (.slice a l h) ρ (fun d ρ => PAs call X es ρ (fun ds ρ => L (d :: ds) ρ)) := as_any rfl
theorem as_call {f : Nat} {as1 : Es} {es : Es} : PAs call X (.cons (.call f as1) es) ρ L = PE call X (.call f as1) ρ (fun d ρ => PAs call X es ρ (fun ds ρ => L (d :: ds) ρ)) := as_any rfl
theorem as_b1 {o : B1} {a : E} {es : Es} : PAs call X (.cons (.b1 o a) es) ρ L = PE call X (.b1 o a) ρ (fun d ρ => PAs call X es ρ (fun ds ρ => L (d :: ds) ρ)) := as_any rfl
theorem as_b2 {o : B2} {a b : E} {es : Es} : PAs call X (.cons (.b2 o a b) es) ρ L = PE call X (.b2 o a b) ρ (fun d ρ => PAs call X es ρ (fun ds ρ => L (d :: ds) ρ)) := as_any rfl
theorem as_b3 {o : B2} {a b c : E} {es : Es} : PAs call X (.cons (.b3 o a b c) es) ρ L = PE call X (.b3 o a b c) ρ (fun d ρ => PAs call X es ρ (fun ds ρ => L (d :: ds) ρ)) := as_any rfl
theorem as_get {d k z : E} {es : Es} : PAs call X (.cons (.get d k z) es) ρ L = PE call X (.get d k z) ρ (fun d ρ => PAs call X es ρ (fun ds ρ => L (d :: ds) ρ)) := as_any rfl
theorem as_count {a x : E} {es : Es} : PAs call X (.cons (.count a x) es) ρ L = PE call X (.count a x) ρ (fun d ρ => PAs call X es ρ (fun ds ρ => L (d :: ds) ρ)) := as_any rfl
theorem as_index {a x : E} {es : Es} : PAs call X (.cons (.index a x) es) ρ L = PE call X (.index a x) ρ (fun d ρ => PAs call X es ρ (fun ds ρ => L (d :: ds) ρ)) := as_any rfl
theorem as_isa {t : TY} {a : E} {es : Es} : PAs call X (.cons (.isa t a) es) ρ L = PE call X (.isa t a) ρ (fun d ρ => PAs call X es ρ (fun ds ρ => L (d :: ds) ρ)) := as_any rfl
theorem as_isExc {c : Nat} {a : E} {es : Es} : PAs call X (.cons (.isExc c a) es) ρ L = PE call X (.isExc c a) ρ (fun d ρ => PAs call X es ρ (fun ds ρ => L (d :: ds) ρ)) := as_any rfl
theorem as_mkExc {c : Nat} {es : Es} : PAs call X (.cons (.mkExc c) es) ρ L = PE call X (.mkExc c) ρ (fun d ρ => PAs call X es ρ (fun ds ρ => L (d :: ds) ρ)) := as_any rfl
theorem as_lc {t : Tg} {it : It} {c : T} {e : E} {es : Es} : PAs call X (.cons (.lc t it c e) es) ρ L = PE call X (.lc t it c e) ρ (fun d ρ => PAs call X es ρ (fun ds ρ => L (d :: ds) ρ)) := as_any rfl
theorem as_lc2 {t : Tg} {it : It} {t2 : Tg} {it2 : It} {c : T} {e : E} {es : Es} : PAs call X (.cons (.lc2 t it t2 it2 c e) es) ρ L = PE call X (.lc2 t it t2 it2 c e) ρ (fun d ρ => PAs call X es ρ (fun ds ρ => L (d :: ds) ρ)) := as_any rfl
theorem as_gsum {t : Tg} {it : It} {c : T} {e : E} {es : Es} : PAs call X (.cons (.gsum t it c e) es) ρ L = PE call X (.gsum t it c e) ρ (fun d ρ => PAs call X es ρ (fun ds ρ => L (d :: ds) ρ)) := as_any rfl
theorem as_gall {t : Tg} {it : It} {e : E} {es : Es} : PAs call X (.cons (.gall t it e) es) ρ L = PE call X (.gall t it e) ρ (fun d ρ => PAs call X es ρ (fun ds ρ => L (d :: ds) ρ)) := as_any rfl
theorem as_gall2 {t : Tg} {it : It} {t2 : Tg} {it2 : It} {e : E} {es : Es} : PAs call X (.cons (.gall2 t it t2 it2 e) es) ρ L = PE call X (.gall2 t it t2 it2 e) ρ (fun d ρ => PAs call X es ρ (fun ds ρ => L (d :: ds) ρ)) := as_any rfl
theorem as_grid {n m : E} {es : Es} : PAs call X (.cons (.grid n m) es) ρ L = PE call X (.grid n m) ρ (fun d ρ => PAs call X es ρ (fun ds ρ => L (d :: ds) ρ)) := as_any rfl
theorem as_empties {a : E} {es : Es} : PAs call X (.cons (.empties a) es) ρ L = PE call X (.empties a) ρ (fun d ρ => PAs call X es ρ (fun ds ρ => L (d :: ds) ρ)) := as_any rfl
end
/-! ### loops -/
section
variable {call : CallF} {w : Nat} {ρ : Env} {X : Nat → Prop} {K : D → Env → Prop} {C : Ctl → Env → Prop} {B : Bool → Env → Prop} {L : List D → Env → Prop}
theorem w2_quiet {α β : Type} {m : R (α × β)} {Q : α → β → Prop} : W2 (match m with | .exc _ => .bad | r => r) Q X = W2 m Q (fun _ => False) := by cases m <;> rfl
theorem quiet_w {α : Type} {m : R (α × Env)} {Q : α → Env → Prop} : W2 (quiet m) Q X = W2 m Q (fun _ => False) := by cases m <;> rfl
/-- a comprehension's body -/
def CB (call : CallF) (ns : List Nat) (t : Tg) (c : T) (e : E) (x : D) (ρ : Env) : R (Option D × Env) := bindT (wipeS ρ ns) t x >>= fun ρ => evalT call c ρ >>= fun p => if p.1 = true then evalE call e p.2 >>= fun p => .ok (some p.1, p.2) else .ok (none, p.2)
def PC (call : CallF) (X : Nat → Prop) (ns : List Nat) (t : Tg) (c : T) (e : E) (x : D) (ρ : Env) (O : Option D → Env → Prop) : Prop := W1 (bindT (wipeS ρ ns) t x) (fun ρ => PT call X c ρ (fun b ρ => if b = true then PE call X e ρ (fun d ρ => O (some d) ρ) else O none ρ)) X
theorem cb_w {ns : List Nat} {t : Tg} {c : T} {e : E} {x : D} {O : Option D → Env → Prop} : W2 (CB call ns t c e x ρ) O X = PC call X ns t c e x ρ O := by
  unfold CB PC
  rw [w2_bind]
  refine w1_congr fun ρ => ?_
  rw [w2_bind]
  refine w1_congr fun p => ?_
  rw [w2_ite, w2_bind]
  rfl
theorem e_lc {t : Tg} {it : It} {c : T} {e : E} : PE call X (.lc t it c e) ρ K = PI call X it ρ (fun xs ρ => if plainS ρ (namesT t) = true then W1 (lockAll ρ (itSlots it)) (fun ρ1 => W2 (eachR (fun x ρ => quiet (CB call (namesT t) t c e x ρ)) xs ρ1) (fun l ρ2 => W1 (mkLst l) (fun d => K d (unlockAll (backS ρ2 ρ (namesT t)) ρ (itSlots it))) X) X) X else False) := by
  unfold PE; rw [evalE]; simp only [w2_bind]
  refine w1_congr fun p => ?_
  rw [w2_ite]
  by_cases h : plainS p.2 (namesT t) = true
  · rw [if_pos h]
    refine Eq.trans ?_ (if_pos h).symm
    simp only [w2_bind]
    rfl
  · rw [if_neg h]
    exact (if_neg h).symm
theorem e_gsum {t : Tg} {it : It} {c : T} {e : E} : PE call X (.gsum t it c e) ρ K = PI call X it ρ (fun xs ρ => if plainS ρ (namesT t) = true then W1 (lockAll ρ (itSlots it)) (fun ρ1 => W2 (eachR (fun x ρ => quiet (CB call (namesT t) t c e x ρ)) xs ρ1) (fun l ρ2 => W1 (intsR l) (fun is => K (.int is.sum) (unlockAll (backS ρ2 ρ (namesT t)) ρ (itSlots it))) X) X) X else False) := by
  unfold PE; rw [evalE]; simp only [w2_bind]
  refine w1_congr fun p => ?_
  rw [w2_ite]
  by_cases h : plainS p.2 (namesT t) = true
  · rw [if_pos h]
    refine Eq.trans ?_ (if_pos h).symm
    simp only [w2_bind]
    rfl
  · rw [if_neg h]
    exact (if_neg h).symm
/-- the body of all(..) -/
def GB (call : CallF) (ns : List Nat) (t : Tg) (e : E) (x : D) (ρ : Env) : R (Bool × Env) := bindT (wipeS ρ ns) t x >>= fun ρ => evalE call e ρ >>= fun p => p.1.toBool >>= fun b => .ok (b, p.2)
def PG (call : CallF) (X : Nat → Prop) (ns : List Nat) (t : Tg) (e : E) (x : D) (ρ : Env) (O : Bool → Env → Prop) : Prop := W1 (bindT (wipeS ρ ns) t x) (fun ρ => PE call X e ρ (fun d ρ => W1 d.toBool (fun b => O b ρ) X)) X
theorem gb_w {ns : List Nat} {t : Tg} {e : E} {x : D} {O : Bool → Env → Prop} : W2 (GB call ns t e x ρ) O X = PG call X ns t e x ρ O := by
  unfold GB PG
  rw [w2_bind]
  refine w1_congr fun ρ => ?_
  rw [w2_bind]
  refine w1_congr fun p => ?_
  rw [w2_bind]
  rfl
theorem e_gall {t : Tg} {it : It} {e : E} : PE call X (.gall t it e) ρ K = PI call X it ρ (fun xs ρ => if plainS ρ (namesT t) = true then W1 (lockAll ρ (itSlots it)) (fun ρ1 => W2 (allR (fun x ρ => quiet (GB call (namesT t) t e x ρ)) xs ρ1) (fun b ρ2 => K (.bool b) (unlockAll (backS ρ2 ρ (namesT t)) ρ (itSlots it))) X) X else False) := by
  unfold PE; rw [evalE]; simp only [w2_bind]
  refine w1_congr fun p => ?_
  rw [w2_ite]
  by_cases h : plainS p.2 (namesT t) = true
  · rw [if_pos h]
    refine Eq.trans ?_ (if_pos h).symm
    simp only [w2_bind]
    rfl
  · rw [if_neg h]
    exact (if_neg h).symm
/-! the loops' laws -/
theorem each_fn {α : Type} {f : D → Env → R (Option α × Env)} {g : D → Option α} {J : Env → Prop} {Q : List α → Env → Prop} : ∀ {xs : List D} {ρ : Env}, J ρ → (∀ x, x ∈ xs → ∀ ρ, J ρ → W2 (f x ρ) (fun o ρ' => o = g x ∧ J ρ') (fun _ => False)) → (∀ ρ', J ρ' → Q (xs.filterMap g) ρ') → W2 (eachR (fun x ρ => quiet (f x ρ)) xs ρ) Q X
  | [], ρ, hJ, h, q => q ρ hJ
  | x :: xs, ρ, hJ, h, q => by
    rw [eachR, w2_bind2, quiet_w]
    refine w2_mono (h x List.mem_cons_self ρ hJ) (fun o ρ' ⟨e, j⟩ => ?_) (fun _ z => z.elim)
    show W2 (_ >>= _) _ _
    rw [w2_bind2]
    refine each_fn j (fun y hy => h y (List.mem_cons_of_mem _ hy)) fun ρ'' j' => ?_
    subst e
    have z := q ρ'' j'
    rw [List.filterMap_cons] at z
    cases hx : g x <;> rw [hx] at z <;> exact z
theorem each_inv {α : Type} {f : D → Env → R (Option α × Env)} {P : α → Prop} {J : Env → Prop} {Q : List α → Env → Prop} : ∀ {xs : List D} {ρ : Env}, J ρ → (∀ x, x ∈ xs → ∀ ρ, J ρ → W2 (f x ρ) (fun o ρ' => J ρ' ∧ ∀ a, o = some a → P a) (fun _ => False)) → (∀ l ρ', J ρ' → l.length ≤ xs.length → (∀ a, a ∈ l → P a) → Q l ρ') → W2 (eachR (fun x ρ => quiet (f x ρ)) xs ρ) Q X
  | [], ρ, hJ, h, q => q [] ρ hJ (Nat.le_refl _) fun _ z => by cases z
  | x :: xs, ρ, hJ, h, q => by
    rw [eachR, w2_bind2, quiet_w]
    refine w2_mono (h x List.mem_cons_self ρ hJ) (fun o ρ' ⟨j, e⟩ => ?_) (fun _ z => z.elim)
    show W2 (_ >>= _) _ _
    rw [w2_bind2]
    refine each_inv j (fun y hy => h y (List.mem_cons_of_mem _ hy)) fun l ρ'' j' hl hp => ?_
    cases o with
    | none => exact q _ _ j' (by simp only [List.length_cons]; omega) hp
    | some a =>
      refine q (a :: l) _ j' (by simp only [List.length_cons]; omega) fun b hb => ?_
      rcases List.mem_cons.mp hb with rfl | hb
      · exact e _ rfl
      · exact hp b hb
/-- .. nothing left out: as many -/
theorem each_all {α : Type} {f : D → Env → R (Option α × Env)} {P : α → Prop} {J : Env → Prop} {Q : List α → Env → Prop} : ∀ {xs : List D} {ρ : Env}, J ρ → (∀ x, x ∈ xs → ∀ ρ, J ρ → W2 (f x ρ) (fun o ρ' => J ρ' ∧ ∃ a, o = some a ∧ P a) (fun _ => False)) → (∀ l ρ', J ρ' → l.length = xs.length → (∀ a, a ∈ l → P a) → Q l ρ') → W2 (eachR (fun x ρ => quiet (f x ρ)) xs ρ) Q X
  | [], ρ, hJ, h, q => q [] ρ hJ rfl fun _ z => by cases z
  | x :: xs, ρ, hJ, h, q => by
    rw [eachR, w2_bind2, quiet_w]
    refine w2_mono (h x List.mem_cons_self ρ hJ) (fun o ρ' ⟨j, a, e, pa⟩ => ?_) (fun _ z => z.elim)
    show W2 (_ >>= _) _ _
    rw [w2_bind2]
    refine each_all j (fun y hy => h y (List.mem_cons_of_mem _ hy)) fun l ρ'' j' hl hp => ?_
    subst e
    refine q (a :: l) _ j' (by simp only [List.length_cons, hl]) fun b hb => ?_
    rcases List.mem_cons.mp hb with rfl | hb
    · exact pa
    · exact hp b hb
theorem all_fn {f : D → Env → R (Bool × Env)} {g : D → Bool} {J : Env → Prop} {Q : Bool → Env → Prop} : ∀ {xs : List D} {ρ : Env}, J ρ → (∀ x, x ∈ xs → ∀ ρ, J ρ → W2 (f x ρ) (fun o ρ' => o = g x ∧ J ρ') (fun _ => False)) → (∀ ρ', J ρ' → Q (xs.all g) ρ') → W2 (allR (fun x ρ => quiet (f x ρ)) xs ρ) Q X
  | [], ρ, hJ, h, q => q ρ hJ
  | x :: xs, ρ, hJ, h, q => by
    rw [allR, w2_bind2, quiet_w]
    refine w2_mono (h x List.mem_cons_self ρ hJ) (fun o ρ' ⟨e, j⟩ => ?_) (fun _ z => z.elim)
    subst e
    have q' := q
    simp only [List.all_cons] at q'
    cases hx : g x with
    | false => rw [hx] at q'; exact q' ρ' j
    | true =>
      rw [hx] at q'
      exact all_fn j (fun y hy => h y (List.mem_cons_of_mem _ hy)) q'
theorem for_inv {f : D → Env → R (Ctl × Env)} {J : Env → Prop} {C : Ctl → Env → Prop} : ∀ {xs : List D} {ρ : Env}, J ρ → (∀ x, x ∈ xs → ∀ ρ, J ρ → W2 (f x ρ) (fun c ρ' => (c = .next ∨ c = .cont) ∧ J ρ') X) → (∀ ρ', J ρ' → C .next ρ') → W2 (forR f xs ρ) C X
  | [], ρ, hJ, h, q => q ρ hJ
  | x :: xs, ρ, hJ, h, q => by
    rw [forR, w2_bind2]
    refine w2_mono (h x List.mem_cons_self ρ hJ) (fun c ρ' ⟨e, j⟩ => ?_) (fun _ z => z)
    rcases e with rfl | rfl <;> exact for_inv j (fun y hy => h y (List.mem_cons_of_mem _ hy)) q
theorem for_nil {f : D → Env → R (Ctl × Env)} : W2 (forR f [] ρ) C X = C .next ρ := rfl
/-- one turn -/
def Turn (f : D → Env → R (Ctl × Env)) (X : Nat → Prop) (xs : List D) (c : Ctl) (ρ : Env) (C : Ctl → Env → Prop) : Prop := match c with
  | .next => W2 (forR f xs ρ) C X
  | .cont => W2 (forR f xs ρ) C X
  | .brk => C .next ρ
  | .ret d => C (.ret d) ρ
theorem turn_next {f : D → Env → R (Ctl × Env)} {xs : List D} : Turn f X xs .next ρ C = W2 (forR f xs ρ) C X := rfl
theorem turn_cont {f : D → Env → R (Ctl × Env)} {xs : List D} : Turn f X xs .cont ρ C = W2 (forR f xs ρ) C X := rfl
theorem turn_brk {f : D → Env → R (Ctl × Env)} {xs : List D} : Turn f X xs .brk ρ C = C .next ρ := rfl
theorem turn_ret {f : D → Env → R (Ctl × Env)} {xs : List D} {d : D} : Turn f X xs (.ret d) ρ C = C (.ret d) ρ := rfl
theorem for_cons {f : D → Env → R (Ctl × Env)} {x : D} {xs : List D} : W2 (forR f (x :: xs) ρ) C X = W2 (f x ρ) (fun c ρ => Turn f X xs c ρ C) X := by
  rw [forR, w2_bind2]
  congr 1; funext c ρ
  cases c <;> rfl
/-! names of a comprehension -/
theorem wipe_len : ∀ (ns : List Nat) (ρ : Env), (wipeS ρ ns).length = ρ.length
  | [], ρ => rfl
  | i :: is, ρ => by rw [wipeS, wipe_len is, List.length_set]
theorem wipe_at : ∀ (ns : List Nat) (ρ : Env) (j : Nat), (wipeS ρ ns)[j]? = if j ∈ ns ∧ j < ρ.length then some none else ρ[j]?
  | [], ρ, j => by simp [wipeS]
  | i :: is, ρ, j => by
    rw [wipeS, wipe_at is, List.length_set, List.getElem?_set]
    by_cases h1 : j ∈ is ∧ j < ρ.length
    · rw [if_pos h1, if_pos ⟨List.mem_cons_of_mem _ h1.1, h1.2⟩]
    · rw [if_neg h1]
      by_cases h2 : i = j
      · subst h2
        by_cases h3 : i < ρ.length
        · rw [if_pos rfl, if_pos h3, if_pos ⟨List.mem_cons_self, h3⟩]
        · rw [if_pos rfl, if_neg h3, if_neg (fun z => h3 z.2), List.getElem?_eq_none (by omega)]
      · rw [if_neg h2, if_neg]
        rintro ⟨m, l⟩
        rcases List.mem_cons.mp m with e | m
        · exact h2 e.symm
        · exact h1 ⟨m, l⟩
theorem wipe_idem (ns : List Nat) (ρ : Env) : wipeS (wipeS ρ ns) ns = wipeS ρ ns := by
  apply List.ext_getElem?
  intro j
  rw [wipe_at, wipe_at, wipe_len]
  split <;> rfl
theorem back_at : ∀ (ns : List Nat) (ρ old : Env) (j : Nat), ρ.length = old.length → (backS ρ old ns)[j]? = if j ∈ ns ∧ j < old.length then old[j]? else ρ[j]?
  | [], ρ, old, j, h => by simp [backS]
  | i :: is, ρ, old, j, h => by
    rw [backS]
    by_cases hi : i < old.length
    · rw [List.getElem?_eq_getElem hi]
      rw [back_at is _ old j (by rw [List.length_set]; exact h), List.getElem?_set]
      by_cases h1 : j ∈ is ∧ j < old.length
      · rw [if_pos h1, if_pos ⟨List.mem_cons_of_mem _ h1.1, h1.2⟩]
      · rw [if_neg h1]
        by_cases h2 : i = j
        · subst h2
          rw [if_pos rfl, if_pos (h ▸ hi), if_pos ⟨List.mem_cons_self, hi⟩, List.getElem?_eq_getElem hi]
        · rw [if_neg h2, if_neg]
          rintro ⟨m, l⟩
          rcases List.mem_cons.mp m with e | m
          · exact h2 e.symm
          · exact h1 ⟨m, l⟩
    · rw [show old[i]? = none from List.getElem?_eq_none (by omega)]
      show (backS ρ old is)[j]? = _
      rw [back_at is ρ old j h]
      by_cases h1 : j ∈ is ∧ j < old.length
      · rw [if_pos h1, if_pos ⟨List.mem_cons_of_mem _ h1.1, h1.2⟩]
      · rw [if_neg h1, if_neg]
        rintro ⟨m, l⟩
        rcases List.mem_cons.mp m with e | m
        · subst e; exact hi l
        · exact h1 ⟨m, l⟩
theorem back_wipe {ns : List Nat} {ρ ρ2 : Env} (h : wipeS ρ2 ns = wipeS ρ ns) : backS ρ2 ρ ns = ρ := by
  have hl : ρ2.length = ρ.length := by rw [← wipe_len ns ρ2, h, wipe_len]
  apply List.ext_getElem?
  intro j
  rw [back_at _ _ _ _ hl]
  have e := congrArg (fun l : Env => l[j]?) h
  simp only [wipe_at, hl] at e
  by_cases h1 : j ∈ ns ∧ j < ρ.length
  · rw [if_pos h1]
  · rw [if_neg h1]; rw [if_neg h1, if_neg h1] at e; exact e
/-! a comprehension, when what is walked is there -/
section
variable {g : D → Option D} {h : D → D} {u : D → Bool} {f : D → Option Int} {J : Env → Prop} {P : D → Prop} {t : Tg} {it : It} {c : T} {e : E} {xs ys : List D} {ρ' : Env}
def LcF (call : CallF) (g : D → Option D) (t : Tg) (c : T) (e : E) (K : D → Env → Prop) (xs : List D) (ρ : Env) : Prop := plainS ρ (namesT t) = true ∧ (∀ x, x ∈ xs → PC call (fun _ => False) (namesT t) t c e x ρ (fun o ρ' => o = g x ∧ wipeS ρ' (namesT t) = wipeS ρ (namesT t))) ∧ (xs.filterMap g).length ≤ maxLen ∧ K (.lst (xs.filterMap g)) ρ
def MapF (call : CallF) (g : D → D) (t : Tg) (e : E) (K : D → Env → Prop) (xs : List D) (ρ : Env) : Prop := plainS ρ (namesT t) = true ∧ (∀ x, x ∈ xs → PC call (fun _ => False) (namesT t) t (.of (.k (.bool true))) e x ρ (fun o ρ' => o = some (g x) ∧ wipeS ρ' (namesT t) = wipeS ρ (namesT t))) ∧ xs.length ≤ maxLen ∧ K (.lst (xs.map g)) ρ
def SumF (call : CallF) (f : D → Option Int) (t : Tg) (c : T) (e : E) (K : D → Env → Prop) (xs : List D) (ρ : Env) : Prop := plainS ρ (namesT t) = true ∧ (∀ x, x ∈ xs → PC call (fun _ => False) (namesT t) t c e x ρ (fun o ρ' => o = (f x).map D.int ∧ wipeS ρ' (namesT t) = wipeS ρ (namesT t))) ∧ K (.int (xs.filterMap f).sum) ρ
def AllF (call : CallF) (g : D → Bool) (t : Tg) (e : E) (K : D → Env → Prop) (xs : List D) (ρ : Env) : Prop := plainS ρ (namesT t) = true ∧ (∀ x, x ∈ xs → PG call (fun _ => False) (namesT t) t e x ρ (fun o ρ' => o = g x ∧ wipeS ρ' (namesT t) = wipeS ρ (namesT t))) ∧ K (.bool (xs.all g)) ρ
def LcI (call : CallF) (J : Env → Prop) (P : D → Prop) (t : Tg) (c : T) (e : E) (K : D → Env → Prop) (xs : List D) (ρ : Env) : Prop := plainS ρ (namesT t) = true ∧ J ρ ∧ (∀ x, x ∈ xs → ∀ ρ, J ρ → PC call (fun _ => False) (namesT t) t c e x ρ (fun o ρ' => J ρ' ∧ ∃ a, o = some a ∧ P a)) ∧ xs.length ≤ maxLen ∧ (∀ l ρ', J ρ' → l.length = xs.length → (∀ a, a ∈ l → P a) → K (.lst l) (backS ρ' ρ (namesT t)))
theorem lc_mk (p : plainS ρ (namesT t) = true) (b : ∀ x, x ∈ xs → PC call (fun _ => False) (namesT t) t c e x ρ (fun o ρ' => o = g x ∧ wipeS ρ' (namesT t) = wipeS ρ (namesT t))) (l : (xs.filterMap g).length ≤ maxLen) (k : K (.lst (xs.filterMap g)) ρ) : LcF call g t c e K xs ρ := ⟨p, b, l, k⟩
theorem map_mk (p : plainS ρ (namesT t) = true) (b : ∀ x, x ∈ xs → PC call (fun _ => False) (namesT t) t (.of (.k (.bool true))) e x ρ (fun o ρ' => o = some (h x) ∧ wipeS ρ' (namesT t) = wipeS ρ (namesT t))) (l : xs.length ≤ maxLen) (k : K (.lst (xs.map h)) ρ) : MapF call h t e K xs ρ := ⟨p, b, l, k⟩
theorem sum_mk (p : plainS ρ (namesT t) = true) (b : ∀ x, x ∈ xs → PC call (fun _ => False) (namesT t) t c e x ρ (fun o ρ' => o = (f x).map D.int ∧ wipeS ρ' (namesT t) = wipeS ρ (namesT t))) (k : K (.int (xs.filterMap f).sum) ρ) : SumF call f t c e K xs ρ := ⟨p, b, k⟩
theorem all_mk (p : plainS ρ (namesT t) = true) (b : ∀ x, x ∈ xs → PG call (fun _ => False) (namesT t) t e x ρ (fun o ρ' => o = u x ∧ wipeS ρ' (namesT t) = wipeS ρ (namesT t))) (k : K (.bool (xs.all u)) ρ) : AllF call u t e K xs ρ := ⟨p, b, k⟩
theorem lci_mk (p : plainS ρ (namesT t) = true) (j : J ρ) (b : ∀ x, x ∈ xs → ∀ ρ, J ρ → PC call (fun _ => False) (namesT t) t c e x ρ (fun o ρ' => J ρ' ∧ ∃ a, o = some a ∧ P a)) (l : xs.length ≤ maxLen) (k : ∀ l ρ', J ρ' → l.length = xs.length → (∀ a, a ∈ l → P a) → K (.lst l) (backS ρ' ρ (namesT t))) : LcI call J P t c e K xs ρ := ⟨p, j, b, l, k⟩
end
theorem pe_lc (g : D → Option D) {t : Tg} {it : It} {c : T} {e : E} (hs : itSlots it = []) (h : PI call X it ρ (fun xs ρ => LcF call g t c e K xs ρ)) : PE call X (.lc t it c e) ρ K := by
  rw [e_lc, hs]
  refine w2_mono h (fun xs ρ ⟨p, h, l, k⟩ => ?_) fun _ z => z
  rw [if_pos p]
  rw [show lockAll ρ [] = .ok ρ from rfl, w1_ok]
  refine each_fn (g := g) (J := fun ρ' => wipeS ρ' (namesT t) = wipeS ρ (namesT t)) rfl (fun x hx ρ' j => ?_) fun ρ' j => ?_
  · have z := h x hx
    rw [← cb_w] at z
    have e : CB call (namesT t) t c e x ρ' = CB call (namesT t) t c e x ρ := by unfold CB; rw [j]
    rw [e]
    exact z
  · rw [mkLst, if_pos l]
    show K _ (backS ρ' ρ (namesT t))
    rw [back_wipe j]
    exact k
theorem pe_gsum (f : D → Option Int) {t : Tg} {it : It} {c : T} {e : E} (hs : itSlots it = []) (h : PI call X it ρ (fun xs ρ => SumF call f t c e K xs ρ)) : PE call X (.gsum t it c e) ρ K := by
  rw [e_gsum, hs]
  refine w2_mono h (fun xs ρ ⟨p, h, k⟩ => ?_) fun _ z => z
  rw [if_pos p]
  rw [show lockAll ρ [] = .ok ρ from rfl, w1_ok]
  refine each_fn (g := fun x => (f x).map D.int) (J := fun ρ' => wipeS ρ' (namesT t) = wipeS ρ (namesT t)) rfl (fun x hx ρ' j => ?_) fun ρ' j => ?_
  · have z := h x hx
    rw [← cb_w] at z
    have e : CB call (namesT t) t c e x ρ' = CB call (namesT t) t c e x ρ := by unfold CB; rw [j]
    rw [e]
    exact z
  · have z : ∀ l : List D, intsR (l.filterMap fun x => (f x).map D.int) = .ok (l.filterMap f) := fun l => by
      induction l with
      | nil => rfl
      | cons a l ih =>
        simp only [List.filterMap_cons]
        cases f a with
        | none => exact ih
        | some i =>
          show intsR (D.int i :: l.filterMap fun x => (f x).map D.int) = .ok (i :: l.filterMap f)
          rw [intsR, ih]
          rfl
    rw [z]
    show K _ (backS ρ' ρ (namesT t))
    rw [back_wipe j]
    exact k
theorem pe_gall (g : D → Bool) {t : Tg} {it : It} {e : E} (hs : itSlots it = []) (h : PI call X it ρ (fun xs ρ => AllF call g t e K xs ρ)) : PE call X (.gall t it e) ρ K := by
  rw [e_gall, hs]
  refine w2_mono h (fun xs ρ ⟨p, h, k⟩ => ?_) fun _ z => z
  rw [if_pos p]
  rw [show lockAll ρ [] = .ok ρ from rfl, w1_ok]
  refine all_fn (g := g) (J := fun ρ' => wipeS ρ' (namesT t) = wipeS ρ (namesT t)) rfl (fun x hx ρ' j => ?_) fun ρ' j => ?_
  · have z := h x hx
    rw [← gb_w] at z
    have e : GB call (namesT t) t e x ρ' = GB call (namesT t) t e x ρ := by unfold GB; rw [j]
    rw [e]
    exact z
  · show K _ (backS ρ' ρ (namesT t))
    rw [back_wipe j]
    exact k
/-- .. whose body changes what is handed over -/
theorem pe_lcI (J : Env → Prop) (P : D → Prop) {t : Tg} {it : It} {c : T} {e : E} (hs : itSlots it = []) (h : PI call X it ρ (fun xs ρ => LcI call J P t c e K xs ρ)) : PE call X (.lc t it c e) ρ K := by
  rw [e_lc, hs]
  refine w2_mono h (fun xs ρ ⟨p, j, h, l, k⟩ => ?_) fun _ z => z
  rw [if_pos p]
  rw [show lockAll ρ [] = .ok ρ from rfl, w1_ok]
  refine each_all (P := P) (J := J) j (fun x hx ρ' j => ?_) fun l' ρ' j hl hp => ?_
  · rw [cb_w]; exact h x hx ρ' j
  · rw [mkLst, if_pos (hl ▸ l)]
    exact k l' ρ' j hl hp
/-! a loop by what holds between its turns -/
def PL (call : CallF) (w : Nat) (X : Nat → Prop) (t : Tg) (b : Ss) (x : D) (ρ : Env) (C : Ctl → Env → Prop) : Prop := W1 (bindT ρ t x) (fun ρ => PSs call w X b ρ C) X
def ForI (call : CallF) (w : Nat) (X : Nat → Prop) (J : Env → Prop) (t : Tg) (b : Ss) (C : Ctl → Env → Prop) (xs : List D) (ρ : Env) : Prop := J ρ ∧ (∀ x, x ∈ xs → ∀ ρ, J ρ → PL call w X t b x ρ (fun c ρ' => (c = .next ∨ c = .cont) ∧ J ρ')) ∧ (∀ ρ', J ρ' → C .next ρ')
theorem fori_mk {J : Env → Prop} {t : Tg} {b : Ss} {xs : List D} (j : J ρ) (h : ∀ x, x ∈ xs → ∀ ρ, J ρ → PL call w X t b x ρ (fun c ρ' => (c = .next ∨ c = .cont) ∧ J ρ')) (k : ∀ ρ', J ρ' → C .next ρ') : ForI call w X J t b C xs ρ := ⟨j, h, k⟩
theorem ps_forI (J : Env → Prop) {l : List Nat} {t : Tg} {it : It} {b : Ss} (h : Now (letGo ρ l) (fun ρ => PI call X it ρ (fun xs ρ => ForI call w X J t b C xs ρ))) : PS call w X (.for_ l t it b) ρ C := by
  rw [s_for]
  have h : W2 (evalIt call it (letGo ρ l)) (fun xs ρ => ForI call w X J t b C xs ρ) X := h
  show W2 (evalIt call it (letGo ρ l)) (fun xs ρ => W2 (forR (LB call w t b) xs ρ) C X) X
  refine w2_mono h (fun xs ρ ⟨j, h, k⟩ => ?_) fun _ z => z
  exact for_inv j (fun x hx ρ hj => by rw [lb_def]; exact h x hx ρ hj) k
/-- .. turn by turn -/
def ForU (call : CallF) (w : Nat) (X : Nat → Prop) (t : Tg) (b : Ss) (C : Ctl → Env → Prop) : List D → Env → Prop
  | [], ρ => C .next ρ
  | x :: xs, ρ => PL call w X t b x ρ (fun c ρ => match c with
    | .next => ForU call w X t b C xs ρ
    | .cont => ForU call w X t b C xs ρ
    | .brk => C .next ρ
    | .ret d => C (.ret d) ρ)
theorem forU_of {t : Tg} {b : Ss} : ∀ {xs : List D} {ρ : Env}, ForU call w X t b C xs ρ → W2 (forR (LB call w t b) xs ρ) C X
  | [], ρ, h => h
  | x :: xs, ρ, h => by
    rw [for_cons, lb_def]
    refine w1_mono h (fun ρ h => ?_) fun _ z => z
    refine w2_mono h (fun c ρ h => ?_) fun _ z => z
    cases c with
    | next => exact forU_of h
    | cont => exact forU_of h
    | brk => exact h
    | ret d => exact h
theorem ps_forU {l : List Nat} {t : Tg} {it : It} {b : Ss} (h : Now (letGo ρ l) (fun ρ => PI call X it ρ (fun xs ρ => ForU call w X t b C xs ρ))) : PS call w X (.for_ l t it b) ρ C := by
  rw [s_for]
  have h : W2 (evalIt call it (letGo ρ l)) (fun xs ρ => ForU call w X t b C xs ρ) X := h
  show W2 (evalIt call it (letGo ρ l)) (fun xs ρ => W2 (forR (LB call w t b) xs ρ) C X) X
  exact w2_mono h (fun xs ρ h => forU_of h) fun _ z => z
theorem fu_nil {t : Tg} {b : Ss} : ForU call w X t b C [] ρ = C .next ρ := rfl
theorem fu_cons {t : Tg} {b : Ss} {x : D} {xs : List D} : ForU call w X t b C (x :: xs) ρ = PL call w X t b x ρ (fun c ρ => match c with
    | .next => ForU call w X t b C xs ρ
    | .cont => ForU call w X t b C xs ρ
    | .brk => C .next ρ
    | .ret d => C (.ret d) ρ) := rfl
/-! errors caught -/
theorem s_try {b : Ss} {m f : Nat} : PS call w X (.try_ b m f) ρ C = W2 (evalSs call w b ρ) (fun c ρ => match c with | .ret d => C (.ret d) ρ | .next => C .next ρ | _ => False) (fun c => if c < 5 then (if m = 2 then C (.ret (.str (if c = 4 then .unfit else .other))) [] else match call f [.exc c] with
          | .ok (.str w, _) => C (.ret (if m = 1 then .tup [.str .refused, .str w] else .str w)) []
          | _ => False) else False) := by
  unfold PS; rw [evalS]
  cases evalSs call w b ρ with
  | ok p =>
    obtain ⟨c, ρ'⟩ := p
    cases c <;> rfl
  | bad => rfl
  | exc c =>
    show W2 (if c < 5 then _ else _) C X = if c < 5 then _ else _
    by_cases h : c < 5
    · rw [if_pos h, if_pos h]
      by_cases h2 : m = 2
      · rw [if_pos h2, if_pos h2]; rfl
      · rw [if_neg h2, if_neg h2]
        cases call f [.exc c] with
        | ok p =>
          obtain ⟨d, o⟩ := p
          cases d <;> rfl
        | bad => rfl
        | exc _ => rfl
    · rw [if_neg h, if_neg h]; rfl
end
end Cg.F
set_option linter.all false
set_option autoImplicit false
set_option maxRecDepth 100000
namespace Cg
open F
/-- what is to hold behind a step: rewriting does not look into it -/
class Kc (α : Type) where
  k : α → Prop
class Kc2 (α β : Type) where
  k : α → β → Prop
theorem k_mk {α : Type} {f : α → Prop} {a : α} : @Kc.k α ⟨f⟩ a = f a := rfl
theorem k_mk2 {α β : Type} {f : α → β → Prop} {a : α} {b : β} : @Kc2.k α β ⟨f⟩ a b = f a b := rfl
def W1 {α : Type} (m : R α) [K : Kc α] (X : Nat → Prop) : Prop := F.W1 m K.k X
def W2 {α β : Type} (m : R (α × β)) [K : Kc2 α β] (X : Nat → Prop) : Prop := F.W2 m K.k X
def Now {α : Type} (a : α) [K : Kc α] : Prop := K.k a
def PE (call : CallF) (X : Nat → Prop) (e : E) (ρ : Env) [K : Kc2 D Env] : Prop := F.PE call X e ρ K.k
def PT (call : CallF) (X : Nat → Prop) (e : T) (ρ : Env) [K : Kc2 Bool Env] : Prop := F.PT call X e ρ K.k
def PEs (call : CallF) (X : Nat → Prop) (e : Es) (ρ : Env) [K : Kc2 (List D) Env] : Prop := F.PEs call X e ρ K.k
def PAs (call : CallF) (X : Nat → Prop) (e : Es) (ρ : Env) [K : Kc2 (List D) Env] : Prop := F.PAs call X e ρ K.k
def PI (call : CallF) (X : Nat → Prop) (e : It) (ρ : Env) [K : Kc2 (List D) Env] : Prop := F.PI call X e ρ K.k
def PS (call : CallF) (w : Nat) (X : Nat → Prop) (e : S) (ρ : Env) [K : Kc2 Ctl Env] : Prop := F.PS call w X e ρ K.k
def PSs (call : CallF) (w : Nat) (X : Nat → Prop) (e : Ss) (ρ : Env) [K : Kc2 Ctl Env] : Prop := F.PSs call w X e ρ K.k
def PV (call : CallF) (X : Nat → Prop) (e : E) (ρ : Env) [K : Kc2 D Env] : Prop := F.PV call X e ρ K.k
def PN (X : Nat → Prop) (e : E) (x : D) (ρ : Env) [K : Kc D] : Prop := F.PN X e x ρ K.k
def PO (call : CallF) (X : Nat → Prop) (e : E) (ρ : Env) [K : Kc2 (Option Int) Env] : Prop := F.PO call X e ρ K.k
def PB (X : Nat → Prop) (ρ : Env) (i : Nat) (d : D) (g : Nat) [K : Kc Env] : Prop := F.PB X ρ i d g K.k
def PBool (d : D) [K : Kc Bool] : Prop := F.PBool d K.k
def PLst (d : D) [K : Kc (List D)] : Prop := F.PLst d K.k
def PInt (d : D) [K : Kc Int] : Prop := F.PInt d K.k
def After (call : CallF) (w : Nat) (X : Nat → Prop) (ss : Ss) (c : Ctl) (ρ : Env) [C : Kc2 Ctl Env] : Prop := F.After call w X ss c ρ C.k
def Fin (ps : List Bool) (Q : Kc2 D (List D)) : Kc2 Ctl Env := ⟨F.Fin ps Q.k⟩
def PC (call : CallF) (X : Nat → Prop) (ns : List Nat) (t : Tg) (c : T) (e : E) (x : D) (ρ : Env) [O : Kc2 (Option D) Env] : Prop := F.PC call X ns t c e x ρ O.k
def PG (call : CallF) (X : Nat → Prop) (ns : List Nat) (t : Tg) (e : E) (x : D) (ρ : Env) [O : Kc2 Bool Env] : Prop := F.PG call X ns t e x ρ O.k
def PL (call : CallF) (w : Nat) (X : Nat → Prop) (t : Tg) (b : Ss) (x : D) (ρ : Env) [C : Kc2 Ctl Env] : Prop := F.PL call w X t b x ρ C.k
def LcF (call : CallF) (g : D → Option D) (t : Tg) (c : T) (e : E) (xs : List D) (ρ : Env) [K : Kc2 D Env] : Prop := F.LcF call g t c e K.k xs ρ
def MapF (call : CallF) (g : D → D) (t : Tg) (e : E) (xs : List D) (ρ : Env) [K : Kc2 D Env] : Prop := F.MapF call g t e K.k xs ρ
def SumF (call : CallF) (f : D → Option Int) (t : Tg) (c : T) (e : E) (xs : List D) (ρ : Env) [K : Kc2 D Env] : Prop := F.SumF call f t c e K.k xs ρ
def AllF (call : CallF) (g : D → Bool) (t : Tg) (e : E) (xs : List D) (ρ : Env) [K : Kc2 D Env] : Prop := F.AllF call g t e K.k xs ρ
def LcI (call : CallF) (J : Env → Prop) (P : D → Prop) (t : Tg) (c : T) (e : E) (xs : List D) (ρ : Env) [K : Kc2 D Env] : Prop := F.LcI call J P t c e K.k xs ρ
def ForI (call : CallF) (w : Nat) (X : Nat → Prop) (J : Env → Prop) (t : Tg) (b : Ss) (xs : List D) (ρ : Env) [C : Kc2 Ctl Env] : Prop := F.ForI call w X J t b C.k xs ρ
def ForU (call : CallF) (w : Nat) (X : Nat → Prop) (t : Tg) (b : Ss) (xs : List D) (ρ : Env) [C : Kc2 Ctl Env] : Prop := F.ForU call w X t b C.k xs ρ
section
variable {α β γ δ : Type} {K : Kc α} {K2 : Kc2 α β} {X : Nat → Prop}
theorem w1_bind (m : R γ) (f : γ → R α) : @W1 _ (m >>= f) K X = @W1 _ m ⟨fun a => @W1 _ (f a) K X⟩ X := F.w1_bind m f
theorem w2_bind (m : R γ) (f : γ → R (α × β)) : @W2 _ _ (m >>= f) K2 X = @W1 _ m ⟨fun a => @W2 _ _ (f a) K2 X⟩ X := F.w2_bind m f
theorem w1_ite (c : Prop) [Decidable c] (m n : R α) : @W1 _ (if c then m else n) K X = if c then @W1 _ m K X else @W1 _ n K X := F.w1_ite c m n
theorem w2_ite (c : Prop) [Decidable c] (m n : R (α × β)) : @W2 _ _ (if c then m else n) K2 X = if c then @W2 _ _ m K2 X else @W2 _ _ n K2 X := F.w2_ite c m n
theorem now_ (a : α) : @Now _ a K = K.k a := rfl
theorem w1_mono {m : R α} {K K' : Kc α} {X X' : Nat → Prop} (h : @W1 _ m K X) (hk : ∀ a, K.k a → K'.k a) (hx : ∀ c, X c → X' c) : @W1 _ m K' X' := F.w1_mono h hk hx
theorem w2_mono {m : R (α × β)} {K K' : Kc2 α β} {X X' : Nat → Prop} (h : @W2 _ _ m K X) (hk : ∀ a b, K.k a b → K'.k a b) (hx : ∀ c, X c → X' c) : @W2 _ _ m K' X' := F.w2_mono h hk hx
theorem w2_eq {m : R (α × β)} {a : α} {b : β} (h : m = .ok (a, b)) : @W2 _ _ m K2 X = K2.k a b := F.w2_eq h
theorem w2_eqx {m : R (α × β)} {c : Nat} (h : m = .exc c) : @W2 _ _ m K2 X = X c := F.w2_eqx h
theorem w1_eq {m : R α} {a : α} (h : m = .ok a) : @W1 _ m K X = K.k a := F.w1_eq h
theorem eq_of_w2 {m : R (α × β)} {a : α} {b : β} (h : @W2 _ _ m ⟨fun x y => x = a ∧ y = b⟩ (fun _ => False)) : m = .ok (a, b) := F.eq_of_w2 h
theorem exc_of_w2 {m : R (α × β)} {c : Nat} (h : @W2 _ _ m ⟨fun _ _ => False⟩ (fun x => x = c)) : m = .exc c := F.exc_of_w2 h
theorem w2_cases {m : R (α × β)} (h : @W2 _ _ m K2 X) : (∃ a b, m = .ok (a, b) ∧ K2.k a b) ∨ ∃ c, m = .exc c ∧ X c := F.w2_cases h
theorem w1_ok (a : α) : @W1 _ (.ok a) K X = K.k a := F.w1_ok a
theorem w1_exc (c : Nat) : @W1 _ (.exc c : R α) K X = X c := F.w1_exc c
theorem w1_bad : @W1 _ (.bad : R α) K X = False := F.w1_bad
theorem w2_ok (a : α) (b : β) : @W2 _ _ (.ok (a, b)) K2 X = K2.k a b := F.w2_ok a b
theorem w2_exc (c : Nat) : @W2 _ _ (.exc c : R (α × β)) K2 X = X c := F.w2_exc c
theorem w2_bad : @W2 _ _ (.bad : R (α × β)) K2 X = False := F.w2_bad
end
section
variable {call : CallF} {w : Nat} {ρ : Env} {X : Nat → Prop} {K : Kc2 D Env} {C : Kc2 Ctl Env} {B : Kc2 Bool Env} {L : Kc2 (List D) Env}
theorem w1_bindS_n {a : Slot} {n : Nat} {d : D} {g : Nat} {E : Kc Env} : @W1 _ (bindS (a :: ρ) (n + 1) d g) E X = @W1 _ (bindS ρ n d g) ⟨fun ρ => E.k (a :: ρ)⟩ X := F.w1_bindS_n
theorem see_b {i : Nat} : @PV call X (.b i) ρ K = @W1 _ (seeS ρ i) ⟨fun d => K.k d ρ⟩ X := F.see_b
theorem now_b {i : Nat} {x : D} {G : Kc D} : @PN X (.b i) x ρ G = @W1 _ (seeS ρ i) G X := F.now_b
theorem opt_omit {O : Kc2 (Option Int) Env} : @PO call X .omit ρ O = O.k none ρ := F.opt_omit
theorem opt_k {i : Int} {O : Kc2 (Option Int) Env} : @PO call X (.k (.int i)) ρ O = O.k (some i) ρ := F.opt_k
theorem see_k {d : D} : @PV call X (.k d) ρ K = @PE call X (.k d) ρ K := F.see_k
theorem now_k {d : D} {x : D} {G : Kc D} : @PN X (.k d) x ρ G = G.k x := F.now_k
theorem see_v {i : Nat} : @PV call X (.v i) ρ K = @PE call X (.v i) ρ K := F.see_v
theorem now_v {i : Nat} {x : D} {G : Kc D} : @PN X (.v i) x ρ G = G.k x := F.now_v
theorem opt_v {i : Nat} {O : Kc2 (Option Int) Env} : @PO call X (.v i) ρ O = @PE call X (.v i) ρ ⟨fun d ρ => @W1 _ d.toInt ⟨fun i => O.k (some i) ρ⟩ X⟩ := F.opt_v
theorem see_tup {es : Es} : @PV call X (.tup es) ρ K = @PE call X (.tup es) ρ K := F.see_tup
theorem now_tup {es : Es} {x : D} {G : Kc D} : @PN X (.tup es) x ρ G = G.k x := F.now_tup
theorem opt_tup {es : Es} {O : Kc2 (Option Int) Env} : @PO call X (.tup es) ρ O = @PE call X (.tup es) ρ ⟨fun d ρ => @W1 _ d.toInt ⟨fun i => O.k (some i) ρ⟩ X⟩ := F.opt_tup
theorem see_lst {es : Es} : @PV call X (.lst es) ρ K = @PE call X (.lst es) ρ K := F.see_lst
theorem now_lst {es : Es} {x : D} {G : Kc D} : @PN X (.lst es) x ρ G = G.k x := F.now_lst
theorem opt_lst {es : Es} {O : Kc2 (Option Int) Env} : @PO call X (.lst es) ρ O = @PE call X (.lst es) ρ ⟨fun d ρ => @W1 _ d.toInt ⟨fun i => O.k (some i) ρ⟩ X⟩ := F.opt_lst
theorem see_dict {a b : Es} : @PV call X (.dict a b) ρ K = @PE call X (.dict a b) ρ K := F.see_dict
theorem now_dict {a b : Es} {x : D} {G : Kc D} : @PN X (.dict a b) x ρ G = G.k x := F.now_dict
theorem opt_dict {a b : Es} {O : Kc2 (Option Int) Env} : @PO call X (.dict a b) ρ O = @PE call X (.dict a b) ρ ⟨fun d ρ => @W1 _ d.toInt ⟨fun i => O.k (some i) ρ⟩ X⟩ := F.opt_dict
theorem see_bin {o : BO} {a b : E} : @PV call X (.bin o a b) ρ K = @PE call X (.bin o a b) ρ K := F.see_bin
theorem now_bin {o : BO} {a b : E} {x : D} {G : Kc D} : @PN X (.bin o a b) x ρ G = G.k x := F.now_bin
theorem opt_bin {o : BO} {a b : E} {O : Kc2 (Option Int) Env} : @PO call X (.bin o a b) ρ O = @PE call X (.bin o a b) ρ ⟨fun d ρ => @W1 _ d.toInt ⟨fun i => O.k (some i) ρ⟩ X⟩ := F.opt_bin
theorem see_cmp {o : CO} {a b : E} : @PV call X (.cmp o a b) ρ K = @PE call X (.cmp o a b) ρ K := F.see_cmp
theorem now_cmp {o : CO} {a b : E} {x : D} {G : Kc D} : @PN X (.cmp o a b) x ρ G = G.k x := F.now_cmp
theorem opt_cmp {o : CO} {a b : E} {O : Kc2 (Option Int) Env} : @PO call X (.cmp o a b) ρ O = @PE call X (.cmp o a b) ρ ⟨fun d ρ => @W1 _ d.toInt ⟨fun i => O.k (some i) ρ⟩ X⟩ := F.opt_cmp
theorem see_chain {o p : CO} {a b c : E} : @PV call X (.chain o p a b c) ρ K = @PE call X (.chain o p a b c) ρ K := F.see_chain
theorem now_chain {o p : CO} {a b c : E} {x : D} {G : Kc D} : @PN X (.chain o p a b c) x ρ G = G.k x := F.now_chain
theorem opt_chain {o p : CO} {a b c : E} {O : Kc2 (Option Int) Env} : @PO call X (.chain o p a b c) ρ O = @PE call X (.chain o p a b c) ρ ⟨fun d ρ => @W1 _ d.toInt ⟨fun i => O.k (some i) ρ⟩ X⟩ := F.opt_chain
theorem see_not {a : E} : @PV call X (.not a) ρ K = @PE call X (.not a) ρ K := F.see_not
theorem now_not {a : E} {x : D} {G : Kc D} : @PN X (.not a) x ρ G = G.k x := F.now_not
theorem opt_not {a : E} {O : Kc2 (Option Int) Env} : @PO call X (.not a) ρ O = @PE call X (.not a) ρ ⟨fun d ρ => @W1 _ d.toInt ⟨fun i => O.k (some i) ρ⟩ X⟩ := F.opt_not
theorem see_and {a b : E} : @PV call X (.and a b) ρ K = @PE call X (.and a b) ρ K := F.see_and
theorem now_and {a b : E} {x : D} {G : Kc D} : @PN X (.and a b) x ρ G = G.k x := F.now_and
theorem opt_and {a b : E} {O : Kc2 (Option Int) Env} : @PO call X (.and a b) ρ O = @PE call X (.and a b) ρ ⟨fun d ρ => @W1 _ d.toInt ⟨fun i => O.k (some i) ρ⟩ X⟩ := F.opt_and
theorem see_or {a b : E} : @PV call X (.or a b) ρ K = @PE call X (.or a b) ρ K := F.see_or
theorem now_or {a b : E} {x : D} {G : Kc D} : @PN X (.or a b) x ρ G = G.k x := F.now_or
theorem opt_or {a b : E} {O : Kc2 (Option Int) Env} : @PO call X (.or a b) ρ O = @PE call X (.or a b) ρ ⟨fun d ρ => @W1 _ d.toInt ⟨fun i => O.k (some i) ρ⟩ X⟩ := F.opt_or
theorem see_ite {t : T} {a b : E} : @PV call X (.ite t a b) ρ K = @PE call X (.ite t a b) ρ K := F.see_ite
theorem now_ite {t : T} {a b : E} {x : D} {G : Kc D} : @PN X (.ite t a b) x ρ G = G.k x := F.now_ite
theorem opt_ite {t : T} {a b : E} {O : Kc2 (Option Int) Env} : @PO call X (.ite t a b) ρ O = @PE call X (.ite t a b) ρ ⟨fun d ρ => @W1 _ d.toInt ⟨fun i => O.k (some i) ρ⟩ X⟩ := F.opt_ite
theorem see_idx {a i : E} : @PV call X (.idx a i) ρ K = @PE call X (.idx a i) ρ K := F.see_idx
theorem now_idx {a i : E} {x : D} {G : Kc D} : @PN X (.idx a i) x ρ G = G.k x := F.now_idx
theorem opt_idx {a i : E} {O : Kc2 (Option Int) Env} : @PO call X (.idx a i) ρ O = @PE call X (.idx a i) ρ ⟨fun d ρ => @W1 _ d.toInt ⟨fun i => O.k (some i) ρ⟩ X⟩ := F.opt_idx
theorem see_idxd {a i : E} : @PV call X (.idxd a i) ρ K = @PE call X (.idxd a i) ρ K := F.see_idxd
theorem now_idxd {a i : E} {x : D} {G : Kc D} : @PN X (.idxd a i) x ρ G = G.k x := F.now_idxd
theorem opt_idxd {a i : E} {O : Kc2 (Option Int) Env} : @PO call X (.idxd a i) ρ O = @PE call X (.idxd a i) ρ ⟨fun d ρ => @W1 _ d.toInt ⟨fun i => O.k (some i) ρ⟩ X⟩ := F.opt_idxd
theorem see_ind {n : Bool} {a d : E} : @PV call X (.ind n a d) ρ K = @PE call X (.ind n a d) ρ K := F.see_ind
theorem now_ind {n : Bool} {a d : E} {x : D} {G : Kc D} : @PN X (.ind n a d) x ρ G = G.k x := F.now_ind
theorem opt_ind {n : Bool} {a d : E} {O : Kc2 (Option Int) Env} : @PO call X (.ind n a d) ρ O = @PE call X (.ind n a d) ρ ⟨fun d ρ => @W1 _ d.toInt ⟨fun i => O.k (some i) ρ⟩ X⟩ := F.opt_ind
theorem see_idx2 {n : Nat} {a b : E} : @PV call X (.idx2 n a b) ρ K = @PE call X (.idx2 n a b) ρ K := F.see_idx2
theorem now_idx2 {n : Nat} {a b : E} {x : D} {G : Kc D} : @PN X (.idx2 n a b) x ρ G = G.k x := F.now_idx2
theorem opt_idx2 {n : Nat} {a b : E} {O : Kc2 (Option Int) Env} : @PO call X (.idx2 n a b) ρ O = @PE call X (.idx2 n a b) ρ ⟨fun d ρ => @W1 _ d.toInt ⟨fun i => O.k (some i) ρ⟩ X⟩ := F.opt_idx2
theorem see_any2 {n : Nat} : @PV call X (.any2 n) ρ K = @PE call X (.any2 n) ρ K := F.see_any2
theorem now_any2 {n : Nat} {x : D} {G : Kc D} : @PN X (.any2 n) x ρ G = G.k x := F.now_any2
theorem opt_any2 {n : Nat} {O : Kc2 (Option Int) Env} : @PO call X (.any2 n) ρ O = @PE call X (.any2 n) ρ ⟨fun d ρ => @W1 _ d.toInt ⟨fun i => O.k (some i) ρ⟩ X⟩ := F.opt_any2
theorem see_slice {a l h : E} : @PV call X (.slice a l h) ρ K = @PE call X (.slice a l h) ρ K := F.see_slice
theorem now_slice {a l h : E} {x : D} {G : Kc D} : @PN X (.slice a l h) x ρ G = G.k x := F.now_slice
theorem opt_slice {a l h : E} {O : Kc2 (Option Int) Env} : @PO call X (.slice a l h) ρ O = @PE call X (.slice a l h) ρ ⟨fun d ρ => @W1 _ d.toInt ⟨fun i => O.k (some i) ρ⟩ X⟩ := F.opt_slice
theorem see_call {f : Nat} {as : Es} : @PV call X (.call f as) ρ K = @PE call X (.call f as) ρ K := F.see_call
theorem now_call {f : Nat} {as : Es} {x : D} {G : Kc D} : @PN X (.call f as) x ρ G = G.k x := F.now_call
theorem opt_call {f : Nat} {as : Es} {O : Kc2 (Option Int) Env} : @PO call X (.call f as) ρ O = @PE call X (.call f as) ρ ⟨fun d ρ => @W1 _ d.toInt ⟨fun i => O.k (some i) ρ⟩ X⟩ := F.opt_call
theorem see_b1 {o : B1} {a : E} : @PV call X (.b1 o a) ρ K = @PE call X (.b1 o a) ρ K := F.see_b1
theorem now_b1 {o : B1} {a : E} {x : D} {G : Kc D} : @PN X (.b1 o a) x ρ G = G.k x := F.now_b1
theorem opt_b1 {o : B1} {a : E} {O : Kc2 (Option Int) Env} : @PO call X (.b1 o a) ρ O = @PE call X (.b1 o a) ρ ⟨fun d ρ => @W1 _ d.toInt ⟨fun i => O.k (some i) ρ⟩ X⟩ := F.opt_b1
theorem see_b2 {o : B2} {a b : E} : @PV call X (.b2 o a b) ρ K = @PE call X (.b2 o a b) ρ K := F.see_b2
theorem now_b2 {o : B2} {a b : E} {x : D} {G : Kc D} : @PN X (.b2 o a b) x ρ G = G.k x := F.now_b2
theorem opt_b2 {o : B2} {a b : E} {O : Kc2 (Option Int) Env} : @PO call X (.b2 o a b) ρ O = @PE call X (.b2 o a b) ρ ⟨fun d ρ => @W1 _ d.toInt ⟨fun i => O.k (some i) ρ⟩ X⟩ := F.opt_b2
theorem see_b3 {o : B2} {a b c : E} : @PV call X (.b3 o a b c) ρ K = @PE call X (.b3 o a b c) ρ K := F.see_b3
theorem now_b3 {o : B2} {a b c : E} {x : D} {G : Kc D} : @PN X (.b3 o a b c) x ρ G = G.k x := F.now_b3
theorem opt_b3 {o : B2} {a b c : E} {O : Kc2 (Option Int) Env} : @PO call X (.b3 o a b c) ρ O = @PE call X (.b3 o a b c) ρ ⟨fun d ρ => @W1 _ d.toInt ⟨fun i => O.k (some i) ρ⟩ X⟩ := F.opt_b3
theorem see_get {d k z : E} : @PV call X (.get d k z) ρ K = @PE call X (.get d k z) ρ K := F.see_get
theorem now_get {d k z : E} {x : D} {G : Kc D} : @PN X (.get d k z) x ρ G = G.k x := F.now_get
theorem opt_get {d k z : E} {O : Kc2 (Option Int) Env} : @PO call X (.get d k z) ρ O = @PE call X (.get d k z) ρ ⟨fun d ρ => @W1 _ d.toInt ⟨fun i => O.k (some i) ρ⟩ X⟩ := F.opt_get
theorem see_count {a x : E} : @PV call X (.count a x) ρ K = @PE call X (.count a x) ρ K := F.see_count
theorem now_count {a b : E} {x : D} {G : Kc D} : @PN X (.count a b) x ρ G = G.k x := F.now_count
theorem opt_count {a x : E} {O : Kc2 (Option Int) Env} : @PO call X (.count a x) ρ O = @PE call X (.count a x) ρ ⟨fun d ρ => @W1 _ d.toInt ⟨fun i => O.k (some i) ρ⟩ X⟩ := F.opt_count
theorem see_index {a x : E} : @PV call X (.index a x) ρ K = @PE call X (.index a x) ρ K := F.see_index
theorem now_index {a b : E} {x : D} {G : Kc D} : @PN X (.index a b) x ρ G = G.k x := F.now_index
theorem opt_index {a x : E} {O : Kc2 (Option Int) Env} : @PO call X (.index a x) ρ O = @PE call X (.index a x) ρ ⟨fun d ρ => @W1 _ d.toInt ⟨fun i => O.k (some i) ρ⟩ X⟩ := F.opt_index
theorem see_isa {t : TY} {a : E} : @PV call X (.isa t a) ρ K = @PE call X (.isa t a) ρ K := F.see_isa
theorem now_isa {t : TY} {a : E} {x : D} {G : Kc D} : @PN X (.isa t a) x ρ G = G.k x := F.now_isa
theorem opt_isa {t : TY} {a : E} {O : Kc2 (Option Int) Env} : @PO call X (.isa t a) ρ O = @PE call X (.isa t a) ρ ⟨fun d ρ => @W1 _ d.toInt ⟨fun i => O.k (some i) ρ⟩ X⟩ := F.opt_isa
theorem see_isExc {c : Nat} {a : E} : @PV call X (.isExc c a) ρ K = @PE call X (.isExc c a) ρ K := F.see_isExc
theorem now_isExc {c : Nat} {a : E} {x : D} {G : Kc D} : @PN X (.isExc c a) x ρ G = G.k x := F.now_isExc
theorem opt_isExc {c : Nat} {a : E} {O : Kc2 (Option Int) Env} : @PO call X (.isExc c a) ρ O = @PE call X (.isExc c a) ρ ⟨fun d ρ => @W1 _ d.toInt ⟨fun i => O.k (some i) ρ⟩ X⟩ := F.opt_isExc
theorem see_mkExc {c : Nat} : @PV call X (.mkExc c) ρ K = @PE call X (.mkExc c) ρ K := F.see_mkExc
theorem now_mkExc {c : Nat} {x : D} {G : Kc D} : @PN X (.mkExc c) x ρ G = G.k x := F.now_mkExc
theorem opt_mkExc {c : Nat} {O : Kc2 (Option Int) Env} : @PO call X (.mkExc c) ρ O = @PE call X (.mkExc c) ρ ⟨fun d ρ => @W1 _ d.toInt ⟨fun i => O.k (some i) ρ⟩ X⟩ := F.opt_mkExc
theorem see_lc {t : Tg} {it : It} {c : T} {e : E} : @PV call X (.lc t it c e) ρ K = @PE call X (.lc t it c e) ρ K := F.see_lc
theorem now_lc {t : Tg} {it : It} {c : T} {e : E} {x : D} {G : Kc D} : @PN X (.lc t it c e) x ρ G = G.k x := F.now_lc
theorem opt_lc {t : Tg} {it : It} {c : T} {e : E} {O : Kc2 (Option Int) Env} : @PO call X (.lc t it c e) ρ O = @PE call X (.lc t it c e) ρ ⟨fun d ρ => @W1 _ d.toInt ⟨fun i => O.k (some i) ρ⟩ X⟩ := F.opt_lc
theorem see_lc2 {t : Tg} {it : It} {t2 : Tg} {it2 : It} {c : T} {e : E} : @PV call X (.lc2 t it t2 it2 c e) ρ K = @PE call X (.lc2 t it t2 it2 c e) ρ K := F.see_lc2
theorem now_lc2 {t : Tg} {it : It} {t2 : Tg} {it2 : It} {c : T} {e : E} {x : D} {G : Kc D} : @PN X (.lc2 t it t2 it2 c e) x ρ G = G.k x := F.now_lc2
theorem opt_lc2 {t : Tg} {it : It} {t2 : Tg} {it2 : It} {c : T} {e : E} {O : Kc2 (Option Int) Env} : @PO call X (.lc2 t it t2 it2 c e) ρ O = @PE call X (.lc2 t it t2 it2 c e) ρ ⟨fun d ρ => @W1 _ d.toInt ⟨fun i => O.k (some i) ρ⟩ X⟩ := F.opt_lc2
theorem see_gsum {t : Tg} {it : It} {c : T} {e : E} : @PV call X (.gsum t it c e) ρ K = @PE call X (.gsum t it c e) ρ K := F.see_gsum
theorem now_gsum {t : Tg} {it : It} {c : T} {e : E} {x : D} {G : Kc D} : @PN X (.gsum t it c e) x ρ G = G.k x := F.now_gsum
theorem opt_gsum {t : Tg} {it : It} {c : T} {e : E} {O : Kc2 (Option Int) Env} : @PO call X (.gsum t it c e) ρ O = @PE call X (.gsum t it c e) ρ ⟨fun d ρ => @W1 _ d.toInt ⟨fun i => O.k (some i) ρ⟩ X⟩ := F.opt_gsum
theorem see_gall {t : Tg} {it : It} {e : E} : @PV call X (.gall t it e) ρ K = @PE call X (.gall t it e) ρ K := F.see_gall
theorem now_gall {t : Tg} {it : It} {e : E} {x : D} {G : Kc D} : @PN X (.gall t it e) x ρ G = G.k x := F.now_gall
theorem opt_gall {t : Tg} {it : It} {e : E} {O : Kc2 (Option Int) Env} : @PO call X (.gall t it e) ρ O = @PE call X (.gall t it e) ρ ⟨fun d ρ => @W1 _ d.toInt ⟨fun i => O.k (some i) ρ⟩ X⟩ := F.opt_gall
theorem see_gall2 {t : Tg} {it : It} {t2 : Tg} {it2 : It} {e : E} : @PV call X (.gall2 t it t2 it2 e) ρ K = @PE call X (.gall2 t it t2 it2 e) ρ K := F.see_gall2
theorem now_gall2 {t : Tg} {it : It} {t2 : Tg} {it2 : It} {e : E} {x : D} {G : Kc D} : @PN X (.gall2 t it t2 it2 e) x ρ G = G.k x := F.now_gall2
theorem opt_gall2 {t : Tg} {it : It} {t2 : Tg} {it2 : It} {e : E} {O : Kc2 (Option Int) Env} : @PO call X (.gall2 t it t2 it2 e) ρ O = @PE call X (.gall2 t it t2 it2 e) ρ ⟨fun d ρ => @W1 _ d.toInt ⟨fun i => O.k (some i) ρ⟩ X⟩ := F.opt_gall2
theorem see_grid {n m : E} : @PV call X (.grid n m) ρ K = @PE call X (.grid n m) ρ K := F.see_grid
theorem now_grid {n m : E} {x : D} {G : Kc D} : @PN X (.grid n m) x ρ G = G.k x := F.now_grid
theorem opt_grid {n m : E} {O : Kc2 (Option Int) Env} : @PO call X (.grid n m) ρ O = @PE call X (.grid n m) ρ ⟨fun d ρ => @W1 _ d.toInt ⟨fun i => O.k (some i) ρ⟩ X⟩ := F.opt_grid
theorem see_empties {a : E} : @PV call X (.empties a) ρ K = @PE call X (.empties a) ρ K := F.see_empties
theorem now_empties {a : E} {x : D} {G : Kc D} : @PN X (.empties a) x ρ G = G.k x := F.now_empties
theorem opt_empties {a : E} {O : Kc2 (Option Int) Env} : @PO call X (.empties a) ρ O = @PE call X (.empties a) ρ ⟨fun d ρ => @W1 _ d.toInt ⟨fun i => O.k (some i) ρ⟩ X⟩ := F.opt_empties
theorem e_k {d : D} : @PE call X (.k d) ρ K = K.k d ρ := F.e_k
theorem e_v {i : Nat} : @PE call X (.v i) ρ K = @W1 _ (valS ρ i) ⟨fun d => K.k d ρ⟩ X := F.e_v
theorem e_tup {es : Es} : @PE call X (.tup es) ρ K = @PEs call X es ρ ⟨fun ds ρ => @W1 _ (mkTup ds) ⟨fun d => K.k d ρ⟩ X⟩ := F.e_tup
theorem e_lst {es : Es} : @PE call X (.lst es) ρ K = @PEs call X es ρ ⟨fun ds ρ => @W1 _ (mkLst ds) ⟨fun d => K.k d ρ⟩ X⟩ := F.e_lst
theorem e_dict {a b : Es} : @PE call X (.dict a b) ρ K = @PEs call X a ρ ⟨fun ks ρ => @PEs call X b ρ ⟨fun vs ρ => @W1 _ (dictE ks vs []) ⟨fun d => K.k (.dct d) ρ⟩ X⟩⟩ := F.e_dict
theorem e_bin {o : BO} {a b : E} : @PE call X (.bin o a b) ρ K = @PV call X a ρ ⟨fun x ρ => @PV call X b ρ ⟨fun y ρ => @PN X a x ρ ⟨fun x => @PN X b y ρ ⟨fun y => @W1 _ (binR o x y) ⟨fun d => K.k d ρ⟩ X⟩⟩⟩⟩ := F.e_bin
theorem e_cmp {o : CO} {a b : E} : @PE call X (.cmp o a b) ρ K = @PV call X a ρ ⟨fun x ρ => @PV call X b ρ ⟨fun y ρ => @PN X a x ρ ⟨fun x => @PN X b y ρ ⟨fun y => @W1 _ (cmpR o x y) ⟨fun d => K.k (.bool d) ρ⟩ X⟩⟩⟩⟩ := F.e_cmp
theorem e_chain {o p : CO} {a b c : E} : @PE call X (.chain o p a b c) ρ K = @PE call X a ρ ⟨fun x ρ => @PE call X b ρ ⟨fun y ρ => @W1 _ (cmpR o x y) ⟨fun t => if t = true then @PE call X c ρ ⟨fun z ρ => @W1 _ (cmpR p y z) ⟨fun u => K.k (.bool u) ρ⟩ X⟩ else K.k (.bool false) ρ⟩ X⟩⟩ := F.e_chain
theorem e_not {a : E} : @PE call X (.not a) ρ K = @PV call X a ρ ⟨fun d ρ => @W1 _ d.truth ⟨fun b => K.k (.bool (!b)) ρ⟩ X⟩ := F.e_not
theorem pbool {b : Bool} {G : Kc Bool} : @PBool (.bool b) G = G.k b := F.pbool
theorem e_and {a b : E} : @PE call X (.and a b) ρ K = @PE call X a ρ ⟨fun x ρ => @PBool x ⟨fun t => if t = true then @PE call X b ρ K else K.k (.bool false) ρ⟩⟩ := F.e_and
theorem e_or {a b : E} : @PE call X (.or a b) ρ K = @PE call X a ρ ⟨fun x ρ => @PBool x ⟨fun t => if t = true then K.k (.bool true) ρ else @PE call X b ρ K⟩⟩ := F.e_or
theorem e_ite {t : T} {a b : E} : @PE call X (.ite t a b) ρ K = @PT call X t ρ ⟨fun c ρ => if c = true then @PE call X a ρ K else @PE call X b ρ K⟩ := F.e_ite
theorem e_idx {a i : E} : @PE call X (.idx a i) ρ K = @PV call X a ρ ⟨fun x ρ => @PV call X i ρ ⟨fun y ρ => @PN X a x ρ ⟨fun x => @PN X i y ρ ⟨fun y => @W1 _ (idxR x y) ⟨fun d => K.k d ρ⟩ X⟩⟩⟩⟩ := F.e_idx
theorem e_idxd {a i : E} : @PE call X (.idxd a i) ρ K = @PV call X a ρ ⟨fun x ρ => @PE call X i ρ ⟨fun y ρ => @PN X a x ρ ⟨fun x => @W1 _ (idxDR x y) ⟨fun d => K.k d ρ⟩ X⟩⟩⟩ := F.e_idxd
theorem e_ind {n : Bool} {a b : E} : @PE call X (.ind n a b) ρ K = @PE call X a ρ ⟨fun x ρ => @PV call X b ρ ⟨fun y ρ => @W1 _ (inDR n x y) ⟨fun d => K.k d ρ⟩ X⟩⟩ := F.e_ind
theorem e_any2 {n : Nat} : @PE call X (.any2 n) ρ K = @W1 _ (own2S ρ n) ⟨fun xs => @W1 _ (anyR xs) ⟨fun b => K.k (.bool b) ρ⟩ X⟩ X := F.e_any2
theorem plst {b : List D} {G : Kc (List D)} : @PLst (.lst b) G = G.k b := F.plst
theorem e_idx2 {n : Nat} {a b : E} : @PE call X (.idx2 n a b) ρ K = @PE call X a ρ ⟨fun x ρ => @PE call X b ρ ⟨fun y ρ => @W1 _ (own2S ρ n) ⟨fun xs => @W1 _ x.toInt ⟨fun i => @W1 _ (nthR xs i) ⟨fun r => @PLst r ⟨fun r => @W1 _ y.toInt ⟨fun j => @W1 _ (nthR r j) ⟨fun d => K.k d ρ⟩ X⟩ X⟩⟩ X⟩ X⟩ X⟩⟩ := F.e_idx2
theorem e_slice {a l h : E} : @PE call X (.slice a l h) ρ K = @PV call X a ρ ⟨fun x ρ => @PO call X l ρ ⟨fun lo ρ => @PO call X h ρ ⟨fun hi ρ => @PN X a x ρ ⟨fun x => @W1 _ (sliceR x lo hi) ⟨fun d => K.k d ρ⟩ X⟩⟩⟩⟩ := F.e_slice
theorem e_call {f : Nat} {as : Es} : @PE call X (.call f as) ρ K = @PAs call X as ρ ⟨fun ds ρ => @W2 _ _ (call f ds) ⟨fun d outs => @Now _ (outsS as outs ρ) ⟨fun ρ => K.k d ρ⟩⟩ X⟩ := F.e_call
theorem e_b1 {o : B1} {a : E} : @PE call X (.b1 o a) ρ K = @PV call X a ρ ⟨fun x ρ => @W1 _ (b1R o x) ⟨fun d => K.k d ρ⟩ X⟩ := F.e_b1
theorem e_b2 {o : B2} {a b : E} : @PE call X (.b2 o a b) ρ K = @PE call X a ρ ⟨fun x ρ => @PE call X b ρ ⟨fun y ρ => @W1 _ (b2R o x y) ⟨fun d => K.k d ρ⟩ X⟩⟩ := F.e_b2
theorem e_b3 {o : B2} {a b c : E} : @PE call X (.b3 o a b c) ρ K = @PE call X a ρ ⟨fun x ρ => @PE call X b ρ ⟨fun y ρ => @PE call X c ρ ⟨fun z ρ => @W1 _ (b3R o x y z) ⟨fun d => K.k d ρ⟩ X⟩⟩⟩ := F.e_b3
theorem e_get {a b c : E} : @PE call X (.get a b c) ρ K = @PV call X a ρ ⟨fun x ρ => @PE call X b ρ ⟨fun y ρ => @PE call X c ρ ⟨fun z ρ => @PN X a x ρ ⟨fun x => @W1 _ (getR x y z) ⟨fun d => K.k d ρ⟩ X⟩⟩⟩⟩ := F.e_get
theorem e_count {a x : E} : @PE call X (.count a x) ρ K = @PV call X a ρ ⟨fun l ρ => @W1 _ (isLstR l) ⟨fun _ => @PE call X x ρ ⟨fun d ρ => @PN X a l ρ ⟨fun l => @W1 _ (countR l d) ⟨fun d => K.k d ρ⟩ X⟩⟩⟩ X⟩ := F.e_count
theorem e_index {a x : E} : @PE call X (.index a x) ρ K = @PV call X a ρ ⟨fun l ρ => @W1 _ (isLstR l) ⟨fun _ => @PE call X x ρ ⟨fun d ρ => @PN X a l ρ ⟨fun l => @W1 _ (indexR l d) ⟨fun d => K.k d ρ⟩ X⟩⟩⟩ X⟩ := F.e_index
theorem e_isa {t : TY} {a : E} : @PE call X (.isa t a) ρ K = @PE call X a ρ ⟨fun x ρ => @W1 _ (isTy t x) ⟨fun b => K.k (.bool b) ρ⟩ X⟩ := F.e_isa
theorem e_isExc {c : Nat} {a : E} : @PE call X (.isExc c a) ρ K = @PE call X a ρ ⟨fun x ρ => @W1 _ (isExcR c x) ⟨fun b => K.k (.bool b) ρ⟩ X⟩ := F.e_isExc
theorem e_mkExc {c : Nat} : @PE call X (.mkExc c) ρ K = if c < 5 then K.k (.exc c) ρ else False := F.e_mkExc
theorem t_not {a : T} : @PT call X (.not a) ρ B = @PT call X a ρ ⟨fun b ρ => B.k (!b) ρ⟩ := F.t_not
theorem t_and {a b : T} : @PT call X (.and a b) ρ B = @PT call X a ρ ⟨fun x ρ => if x = true then @PT call X b ρ B else B.k false ρ⟩ := F.t_and
theorem t_or {a b : T} : @PT call X (.or a b) ρ B = @PT call X a ρ ⟨fun x ρ => if x = true then B.k true ρ else @PT call X b ρ B⟩ := F.t_or
theorem t_of {e : E} : @PT call X (.of e) ρ B = @PV call X e ρ ⟨fun d ρ => @W1 _ d.truth ⟨fun b => B.k b ρ⟩ X⟩ := F.t_of
theorem es_nil : @PEs call X .nil ρ L = L.k [] ρ := F.es_nil
theorem es_cons {e : E} {es : Es} : @PEs call X (.cons e es) ρ L = @PE call X e ρ ⟨fun d ρ => @PEs call X es ρ ⟨fun ds ρ => L.k (d :: ds) ρ⟩⟩ := F.es_cons
theorem as_nil : @PAs call X .nil ρ L = L.k [] ρ := F.as_nil
theorem as_io {i : Nat} {es : Es} : @PAs call X (.cons (.io i) es) ρ L = @W1 _ (ownS ρ i) ⟨fun _ => @PAs call X es ρ ⟨fun ds ρ => @W1 _ (ownS ρ i) ⟨fun d => L.k (d :: ds) ρ⟩ X⟩⟩ X := F.as_io
theorem as_tmp {e : E} {es : Es} : @PAs call X (.cons (.tmp e) es) ρ L = @PE call X e ρ ⟨fun d ρ => @PAs call X es ρ ⟨fun ds ρ => L.k (d :: ds) ρ⟩⟩ := F.as_tmp
theorem i_val {e : E} : @PI call X (.val e) ρ L = @PV call X e ρ ⟨fun d ρ => @W1 _ (itemsR d) ⟨fun l => L.k l ρ⟩ X⟩ := F.i_val
theorem pint {b : Int} {G : Kc Int} : @PInt (.int b) G = G.k b := F.pint
theorem i_range {e : E} : @PI call X (.range e) ρ L = @PE call X e ρ ⟨fun d ρ => @PInt d ⟨fun n => if smallI n = true then L.k (rangeL 0 n) ρ else False⟩⟩ := F.i_range
theorem i_range2 {a b : E} : @PI call X (.range2 a b) ρ L = @PE call X a ρ ⟨fun x ρ => @PE call X b ρ ⟨fun y ρ => @PInt x ⟨fun i => @PInt y ⟨fun j => if (smallI i && smallI j) = true then L.k (rangeL i j) ρ else False⟩⟩⟩⟩ := F.i_range2
theorem i_zip2 {a b : E} : @PI call X (.zip2 a b) ρ L = @PE call X a ρ ⟨fun x ρ => @PE call X b ρ ⟨fun y ρ => @W1 _ (itemsR x) ⟨fun xs => @W1 _ (itemsR y) ⟨fun ys => L.k (zip2 xs ys) ρ⟩ X⟩ X⟩⟩ := F.i_zip2
theorem i_zip3 {a b c : E} : @PI call X (.zip3 a b c) ρ L = @PE call X a ρ ⟨fun x ρ => @PE call X b ρ ⟨fun y ρ => @PE call X c ρ ⟨fun z ρ => @W1 _ (itemsR x) ⟨fun xs => @W1 _ (itemsR y) ⟨fun ys => @W1 _ (itemsR z) ⟨fun zs => L.k (zip3 xs ys zs) ρ⟩ X⟩ X⟩ X⟩⟩⟩ := F.i_zip3
theorem i_enum {i : It} : @PI call X (.enum i) ρ L = @PI call X i ρ ⟨fun l ρ => L.k (enumL 0 l) ρ⟩ := F.i_enum
theorem i_rev {e : E} : @PI call X (.rev e) ρ L = @PE call X e ρ ⟨fun d ρ => @PLst d ⟨fun l => L.k l.reverse ρ⟩⟩ := F.i_rev
theorem s_set {l : List Nat} {i g : Nat} {e : E} : @PS call w X (.set l i g e) ρ C = @Now _ (letGo ρ l) ⟨fun ρ => @PE call X e ρ ⟨fun d ρ => @PB X ρ i d g ⟨fun ρ => C.k .next ρ⟩⟩⟩ := F.s_set
theorem s_ret {l : List Nat} {e : E} : @PS call w X (.ret l e) ρ C = @Now _ (letGo ρ l) ⟨fun ρ => @PE call X e ρ ⟨fun d ρ => C.k (.ret d) ρ⟩⟩ := F.s_ret
theorem s_retv {i : Nat} : @PS call w X (.retv i) ρ C = @W1 _ (getS ρ i) ⟨fun p => if p.2 = 1 ∨ p.2 = 2 then C.k (.ret p.1) (ρ.set i none) else False⟩ X := F.s_retv
theorem s_retN : @PS call w X .retN ρ C = C.k (.ret .non) ρ := F.s_retN
theorem s_raise {c : Nat} : @PS call w X (.raise c) ρ C = X c := F.s_raise
theorem s_brk : @PS call w X .brk ρ C = C.k .brk ρ := F.s_brk
theorem s_cont : @PS call w X .cont ρ C = C.k .cont ρ := F.s_cont
theorem s_pass : @PS call w X .pass ρ C = C.k .next ρ := F.s_pass
theorem s_ex {e : E} : @PS call w X (.ex e) ρ C = @PE call X e ρ ⟨fun _ ρ => C.k .next ρ⟩ := F.s_ex
theorem s_ifs {t : T} {a b : Ss} : @PS call w X (.ifs t a b) ρ C = @PT call X t ρ ⟨fun c ρ => if c = true then @PSs call w X a ρ C else @PSs call w X b ρ C⟩ := F.s_ifs
theorem s_app {l : List Nat} {i : Nat} {e : E} : @PS call w X (.app l i e) ρ C = @Now _ (letGo ρ l) ⟨fun ρ => @PE call X e ρ ⟨fun d ρ => @W1 _ (listOwn ρ i) ⟨fun xs => if xs.length < maxLen then @Now _ (putS ρ i (.lst (xs ++ [d]))) ⟨fun ρ => C.k .next ρ⟩ else False⟩ X⟩⟩ := F.s_app
theorem s_ext {l : List Nat} {i : Nat} {e : E} : @PS call w X (.ext l i e) ρ C = @Now _ (letGo ρ l) ⟨fun ρ => @PV call X e ρ ⟨fun d ρ => @W1 _ (listOwn ρ i) ⟨fun xs => @W1 _ (itemsR d) ⟨fun ys => if xs.length + ys.length ≤ maxLen then @Now _ (putS ρ i (.lst (xs ++ ys))) ⟨fun ρ => C.k .next ρ⟩ else False⟩ X⟩ X⟩⟩ := F.s_ext
theorem s_put {l : List Nat} {i : Nat} {a e : E} : @PS call w X (.put l i a e) ρ C = @Now _ (letGo ρ l) ⟨fun ρ => @PE call X e ρ ⟨fun d ρ => @W1 _ (ownS ρ i) ⟨fun _ => @PE call X a ρ ⟨fun j ρ => @W1 _ (ownS ρ i) ⟨fun x => @PLst x ⟨fun l => @W1 _ j.toInt ⟨fun j => @W1 _ (setNth l j d) ⟨fun l => @Now _ (putS ρ i (.lst l)) ⟨fun ρ => C.k .next ρ⟩⟩ X⟩ X⟩⟩ X⟩⟩ X⟩⟩ := F.s_put
theorem s_unpack {l : List Nat} {t : Tg} {e : E} : @PS call w X (.unpack l t e) ρ C = @Now _ (letGo ρ l) ⟨fun ρ => @PE call X e ρ ⟨fun d ρ => @W1 _ (bindT ρ t d) ⟨fun ρ => C.k .next ρ⟩ X⟩⟩ := F.s_unpack
theorem s_par {l : List Nat} {is : List (Nat × Nat)} {es : Es} : @PS call w X (.par l is es) ρ C = @Now _ (letGo ρ l) ⟨fun ρ => @PEs call X es ρ ⟨fun ds ρ => @W1 _ (bindPar ρ is ds) ⟨fun ρ => C.k .next ρ⟩ X⟩⟩ := F.s_par
theorem s_aug {i : Nat} {o : BO} {e : E} : @PS call w X (.aug i o e) ρ C = @W1 _ (valS ρ i) ⟨fun x => @PE call X e ρ ⟨fun d ρ => @PInt x ⟨fun _ => @W1 _ (binR o x d) ⟨fun v => @PB X ρ i v 0 ⟨fun ρ => C.k .next ρ⟩⟩ X⟩⟩⟩ X := F.s_aug
theorem af_next {ss : Ss} : @After call w X ss .next ρ C = @PSs call w X ss ρ C := F.af_next
theorem af_ret {ss : Ss} {d : D} : @After call w X ss (.ret d) ρ C = C.k (.ret d) ρ := F.af_ret
theorem af_brk {ss : Ss} : @After call w X ss .brk ρ C = C.k .brk ρ := F.af_brk
theorem af_cont {ss : Ss} : @After call w X ss .cont ρ C = C.k .cont ρ := F.af_cont
theorem ss_nil : @PSs call w X .nil ρ C = C.k .next ρ := F.ss_nil
theorem ss_cons {s : S} {ss : Ss} : @PSs call w X (.cons s ss) ρ C = @PS call w X s ρ ⟨fun c ρ => @After call w X ss c ρ C⟩ := F.ss_cons
theorem b_n {a : Slot} {n : Nat} {d : D} {g : Nat} {G : Kc Env} : @PB X (a :: ρ) (n + 1) d g G = @PB X ρ n d g ⟨fun ρ => G.k (a :: ρ)⟩ := F.b_n
theorem b_0n {d : D} {g : Nat} {G : Kc Env} : @PB X (none :: ρ) 0 d g G = G.k (some (d, g) :: ρ) := F.b_0n
theorem b_00 {d e : D} {g : Nat} {G : Kc Env} : @PB X (some (e, 0) :: ρ) 0 d g G = G.k (some (d, g) :: ρ) := F.b_00
theorem b_01 {d e : D} {g : Nat} {G : Kc Env} : @PB X (some (e, 1) :: ρ) 0 d g G = G.k (some (d, g) :: ρ) := F.b_01
theorem b_02 {d e : D} {g : Nat} {G : Kc Env} : @PB X (some (e, 2) :: ρ) 0 d g G = G.k (some (d, g) :: ρ) := F.b_02
theorem bt_nm {i : Nat} {d : D} {G : Kc Env} : @W1 _ (bindT ρ (.nm i) d) G X = @PB X ρ i d 0 G := F.bt_nm
theorem bt_tup {ts : Tgs} {l : List D} {G : Kc Env} : @W1 _ (bindT ρ (.tup ts) (.tup l)) G X = @W1 _ (bindTs ρ ts l) G X := F.bt_tup
theorem bts_nil {G : Kc Env} : @W1 _ (bindTs ρ .nil []) G X = G.k ρ := F.bts_nil
theorem bts_cons {t : Tg} {ts : Tgs} {d : D} {ds : List D} {G : Kc Env} : @W1 _ (bindTs ρ (.cons t ts) (d :: ds)) G X = @W1 _ (bindT ρ t d) ⟨fun ρ => @W1 _ (bindTs ρ ts ds) G X⟩ X := F.bts_cons
theorem bp_nil {G : Kc Env} : @W1 _ (bindPar ρ [] []) G X = G.k ρ := F.bp_nil
theorem bp_cons {i g : Nat} {is : List (Nat × Nat)} {d : D} {ds : List D} {G : Kc Env} : @W1 _ (bindPar ρ ((i, g) :: is) (d :: ds)) G X = @PB X ρ i d g ⟨fun ρ => @W1 _ (bindPar ρ is ds) G X⟩ := F.bp_cons
theorem as_k {d : D} {es : Es} : @PAs call X (.cons (.k d) es) ρ L = @PE call X (.k d) ρ ⟨fun d ρ => @PAs call X es ρ ⟨fun ds ρ => L.k (d :: ds) ρ⟩⟩ := F.as_k
theorem as_v {i : Nat} {es : Es} : @PAs call X (.cons (.v i) es) ρ L = @PE call X (.v i) ρ ⟨fun d ρ => @PAs call X es ρ ⟨fun ds ρ => L.k (d :: ds) ρ⟩⟩ := F.as_v
theorem as_tup {es0 es : Es} : @PAs call X (.cons (.tup es0) es) ρ L = @PE call X (.tup es0) ρ ⟨fun d ρ => @PAs call X es ρ ⟨fun ds ρ => L.k (d :: ds) ρ⟩⟩ := F.as_tup
theorem as_lst {es0 es : Es} : @PAs call X (.cons (.lst es0) es) ρ L = @PE call X (.lst es0) ρ ⟨fun d ρ => @PAs call X es ρ ⟨fun ds ρ => L.k (d :: ds) ρ⟩⟩ := F.as_lst
theorem as_dict {a b : Es} {es : Es} : @PAs call X (.cons (.dict a b) es) ρ L = @PE call X (.dict a b) ρ ⟨fun d ρ => @PAs call X es ρ ⟨fun ds ρ => L.k (d :: ds) ρ⟩⟩ := F.as_dict
theorem as_bin {o : BO} {a b : E} {es : Es} : @PAs call X (.cons (.bin o a b) es) ρ L = @PE call X (.bin o a b) ρ ⟨fun d ρ => @PAs call X es ρ ⟨fun ds ρ => L.k (d :: ds) ρ⟩⟩ := F.as_bin
theorem as_cmp {o : CO} {a b : E} {es : Es} : @PAs call X (.cons (.cmp o a b) es) ρ L = @PE call X (.cmp o a b) ρ ⟨fun d ρ => @PAs call X es ρ ⟨fun ds ρ => L.k (d :: ds) ρ⟩⟩ := F.as_cmp
theorem as_chain {o p : CO} {a b c : E} {es : Es} : @PAs call X (.cons (.chain o p a b c) es) ρ L = @PE call X (.chain o p a b c) ρ ⟨fun d ρ => @PAs call X es ρ ⟨fun ds ρ => L.k (d :: ds) ρ⟩⟩ := F.as_chain
theorem as_not {a : E} {es : Es} : @PAs call X (.cons (.not a) es) ρ L = @PE call X (.not a) ρ ⟨fun d ρ => @PAs call X es ρ ⟨fun ds ρ => L.k (d :: ds) ρ⟩⟩ := F.as_not
theorem as_and {a b : E} {es : Es} : @PAs call X (.cons (.and a b) es) ρ L = @PE call X (.and a b) ρ ⟨fun d ρ => @PAs call X es ρ ⟨fun ds ρ => L.k (d :: ds) ρ⟩⟩ := F.as_and
theorem as_or {a b : E} {es : Es} : @PAs call X (.cons (.or a b) es) ρ L = @PE call X (.or a b) ρ ⟨fun d ρ => @PAs call X es ρ ⟨fun ds ρ => L.k (d :: ds) ρ⟩⟩ := F.as_or
theorem as_ite {t : T} {a b : E} {es : Es} : @PAs call X (.cons (.ite t a b) es) ρ L = @PE call X (.ite t a b) ρ ⟨fun d ρ => @PAs call X es ρ ⟨fun ds ρ => L.k (d :: ds) ρ⟩⟩ := F.as_ite
theorem as_idx {a i : E} {es : Es} : @PAs call X (.cons (.idx a i) es) ρ L = @PE call X (.idx a i) ρ ⟨fun d ρ => @PAs call X es ρ ⟨fun ds ρ => L.k (d :: ds) ρ⟩⟩ := F.as_idx
theorem as_idxd {a i : E} {es : Es} : @PAs call X (.cons (.idxd a i) es) ρ L = @PE call X (.idxd a i) ρ ⟨fun d ρ => @PAs call X es ρ ⟨fun ds ρ => L.k (d :: ds) ρ⟩⟩ := F.as_idxd
theorem as_ind {n : Bool} {a d : E} {es : Es} : @PAs call X (.cons (.ind n a d) es) ρ L = @PE call X (.ind n a d) ρ ⟨fun d ρ => @PAs call X es ρ ⟨fun ds ρ => L.k (d :: ds) ρ⟩⟩ := F.as_ind
theorem as_idx2 {n : Nat} {a b : E} {es : Es} : @PAs call X (.cons (.idx2 n a b) es) ρ L = @PE call X (.idx2 n a b) ρ ⟨fun d ρ => @PAs call X es ρ ⟨fun ds ρ => L.k (d :: ds) ρ⟩⟩ := F.as_idx2
theorem as_any2 {n : Nat} {es : Es} : @PAs call X (.cons (.any2 n) es) ρ L = @PE call X (.any2 n) ρ ⟨fun d ρ => @PAs call X es ρ ⟨fun ds ρ => L.k (d :: ds) ρ⟩⟩ := F.as_any2
theorem as_slice {a l h : E} {es : Es} : @PAs call X (.cons (.slice a l h) es) ρ L = @PE call X (.slice a l h) ρ ⟨fun d ρ => @PAs call X es ρ ⟨fun ds ρ => L.k (d :: ds) ρ⟩⟩ := F.as_slice
theorem as_call {f : Nat} {as1 : Es} {es : Es} : @PAs call X (.cons (.call f as1) es) ρ L = @PE call X (.call f as1) ρ ⟨fun d ρ => @PAs call X es ρ ⟨fun ds ρ => L.k (d :: ds) ρ⟩⟩ := F.as_call
theorem as_b1 {o : B1} {a : E} {es : Es} : @PAs call X (.cons (.b1 o a) es) ρ L = @PE call X (.b1 o a) ρ ⟨fun d ρ => @PAs call X es ρ ⟨fun ds ρ => L.k (d :: ds) ρ⟩⟩ := F.as_b1
theorem as_b2 {o : B2} {a b : E} {es : Es} : @PAs call X (.cons (.b2 o a b) es) ρ L = @PE call X (.b2 o a b) ρ ⟨fun d ρ => @PAs call X es ρ ⟨fun ds ρ => L.k (d :: ds) ρ⟩⟩ := F.as_b2
theorem as_b3 {o : B2} {a b c : E} {es : Es} : @PAs call X (.cons (.b3 o a b c) es) ρ L = @PE call X (.b3 o a b c) ρ ⟨fun d ρ => @PAs call X es ρ ⟨fun ds ρ => L.k (d :: ds) ρ⟩⟩ := F.as_b3
theorem as_get {d k z : E} {es : Es} : @PAs call X (.cons (.get d k z) es) ρ L = @PE call X (.get d k z) ρ ⟨fun d ρ => @PAs call X es ρ ⟨fun ds ρ => L.k (d :: ds) ρ⟩⟩ := F.as_get
theorem as_count {a x : E} {es : Es} : @PAs call X (.cons (.count a x) es) ρ L = @PE call X (.count a x) ρ ⟨fun d ρ => @PAs call X es ρ ⟨fun ds ρ => L.k (d :: ds) ρ⟩⟩ := F.as_count
theorem as_index {a x : E} {es : Es} : @PAs call X (.cons (.index a x) es) ρ L = @PE call X (.index a x) ρ ⟨fun d ρ => @PAs call X es ρ ⟨fun ds ρ => L.k (d :: ds) ρ⟩⟩ := F.as_index
theorem as_isa {t : TY} {a : E} {es : Es} : @PAs call X (.cons (.isa t a) es) ρ L = @PE call X (.isa t a) ρ ⟨fun d ρ => @PAs call X es ρ ⟨fun ds ρ => L.k (d :: ds) ρ⟩⟩ := F.as_isa
theorem as_isExc {c : Nat} {a : E} {es : Es} : @PAs call X (.cons (.isExc c a) es) ρ L = @PE call X (.isExc c a) ρ ⟨fun d ρ => @PAs call X es ρ ⟨fun ds ρ => L.k (d :: ds) ρ⟩⟩ := F.as_isExc
theorem as_mkExc {c : Nat} {es : Es} : @PAs call X (.cons (.mkExc c) es) ρ L = @PE call X (.mkExc c) ρ ⟨fun d ρ => @PAs call X es ρ ⟨fun ds ρ => L.k (d :: ds) ρ⟩⟩ := F.as_mkExc
theorem as_lc {t : Tg} {it : It} {c : T} {e : E} {es : Es} : @PAs call X (.cons (.lc t it c e) es) ρ L = @PE call X (.lc t it c e) ρ ⟨fun d ρ => @PAs call X es ρ ⟨fun ds ρ => L.k (d :: ds) ρ⟩⟩ := F.as_lc
theorem as_lc2 {t : Tg} {it : It} {t2 : Tg} {it2 : It} {c : T} {e : E} {es : Es} : @PAs call X (.cons (.lc2 t it t2 it2 c e) es) ρ L = @PE call X (.lc2 t it t2 it2 c e) ρ ⟨fun d ρ => @PAs call X es ρ ⟨fun ds ρ => L.k (d :: ds) ρ⟩⟩ := F.as_lc2
theorem as_gsum {t : Tg} {it : It} {c : T} {e : E} {es : Es} : @PAs call X (.cons (.gsum t it c e) es) ρ L = @PE call X (.gsum t it c e) ρ ⟨fun d ρ => @PAs call X es ρ ⟨fun ds ρ => L.k (d :: ds) ρ⟩⟩ := F.as_gsum
theorem as_gall {t : Tg} {it : It} {e : E} {es : Es} : @PAs call X (.cons (.gall t it e) es) ρ L = @PE call X (.gall t it e) ρ ⟨fun d ρ => @PAs call X es ρ ⟨fun ds ρ => L.k (d :: ds) ρ⟩⟩ := F.as_gall
theorem as_gall2 {t : Tg} {it : It} {t2 : Tg} {it2 : It} {e : E} {es : Es} : @PAs call X (.cons (.gall2 t it t2 it2 e) es) ρ L = @PE call X (.gall2 t it t2 it2 e) ρ ⟨fun d ρ => @PAs call X es ρ ⟨fun ds ρ => L.k (d :: ds) ρ⟩⟩ := F.as_gall2
theorem as_grid {n m : E} {es : Es} : @PAs call X (.cons (.grid n m) es) ρ L = @PE call X (.grid n m) ρ ⟨fun d ρ => @PAs call X es ρ ⟨fun ds ρ => L.k (d :: ds) ρ⟩⟩ := F.as_grid
theorem as_empties {a : E} {es : Es} : @PAs call X (.cons (.empties a) es) ρ L = @PE call X (.empties a) ρ ⟨fun d ρ => @PAs call X es ρ ⟨fun ds ρ => L.k (d :: ds) ρ⟩⟩ := F.as_empties
theorem fin_next {ps : List Bool} {Q : Kc2 D (List D)} : (Fin ps Q).k .next ρ = if AM (outsOf ps ρ) = true then Q.k .non (outsOf ps ρ) else False := rfl
theorem fin_ret {ps : List Bool} {Q : Kc2 D (List D)} {d : D} : (Fin ps Q).k (.ret d) ρ = if AM (outsOf ps ρ) = true then Q.k d (outsOf ps ρ) else False := rfl
theorem pc_ {ns : List Nat} {t : Tg} {c : T} {e : E} {x : D} {O : Kc2 (Option D) Env} : @PC call X ns t c e x ρ O = @W1 _ (bindT (wipeS ρ ns) t x) ⟨fun ρ => @PT call X c ρ ⟨fun b ρ => if b = true then @PE call X e ρ ⟨fun d ρ => O.k (some d) ρ⟩ else O.k none ρ⟩⟩ X := rfl
theorem pg_ {ns : List Nat} {t : Tg} {e : E} {x : D} {O : Kc2 Bool Env} : @PG call X ns t e x ρ O = @W1 _ (bindT (wipeS ρ ns) t x) ⟨fun ρ => @PE call X e ρ ⟨fun d ρ => @W1 _ d.toBool ⟨fun b => O.k b ρ⟩ X⟩⟩ X := rfl
theorem pl_ {t : Tg} {b : Ss} {x : D} : @PL call w X t b x ρ C = @W1 _ (bindT ρ t x) ⟨fun ρ => @PSs call w X b ρ C⟩ X := rfl
theorem fu_nil {t : Tg} {b : Ss} : @ForU call w X t b [] ρ C = C.k .next ρ := rfl
def TurnC (call : CallF) (w : Nat) (X : Nat → Prop) (t : Tg) (b : Ss) (xs : List D) (C : Kc2 Ctl Env) : Kc2 Ctl Env := ⟨fun c ρ => match c with
    | .next => @ForU call w X t b xs ρ C
    | .cont => @ForU call w X t b xs ρ C
    | .brk => C.k .next ρ
    | .ret d => C.k (.ret d) ρ⟩
theorem fu_cons {t : Tg} {b : Ss} {x : D} {xs : List D} : @ForU call w X t b (x :: xs) ρ C = @PL call w X t b x ρ (TurnC call w X t b xs C) := rfl
/-- what a turn must leave, by what holds with the rest still to be walked -/
def TurnJ (J : List D → Env → Prop) (xs : List D) (C : Kc2 Ctl Env) : Kc2 Ctl Env := ⟨fun c ρ => match c with
    | .next => J xs ρ
    | .cont => J xs ρ
    | .brk => C.k .next ρ
    | .ret d => C.k (.ret d) ρ⟩
theorem tj_next {J : List D → Env → Prop} {xs : List D} : (TurnJ J xs C).k .next ρ = J xs ρ := rfl
theorem tj_cont {J : List D → Env → Prop} {xs : List D} : (TurnJ J xs C).k .cont ρ = J xs ρ := rfl
theorem tj_brk {J : List D → Env → Prop} {xs : List D} : (TurnJ J xs C).k .brk ρ = C.k .next ρ := rfl
theorem tj_ret {J : List D → Env → Prop} {xs : List D} {d : D} : (TurnJ J xs C).k (.ret d) ρ = C.k (.ret d) ρ := rfl
theorem pl_mono {t : Tg} {b : Ss} {x : D} {C1 C2 : Kc2 Ctl Env} (h : @PL call w X t b x ρ C1) (q : ∀ c ρ', C1.k c ρ' → C2.k c ρ') : @PL call w X t b x ρ C2 := by
  have h : F.W1 (bindT ρ t x) (fun ρ => F.PSs call w X b ρ C1.k) X := h
  show F.W1 (bindT ρ t x) (fun ρ => F.PSs call w X b ρ C2.k) X
  rw [← F.lb_def] at h ⊢
  exact F.w2_mono h q fun _ z => z
theorem forU_ind (J : List D → Env → Prop) {t : Tg} {b : Ss} {xs : List D} (j : J xs ρ) (h : ∀ x xs ρ, J (x :: xs) ρ → @PL call w X t b x ρ (TurnJ J xs C)) (k : ∀ ρ, J [] ρ → C.k .next ρ) : @ForU call w X t b xs ρ C := by
  induction xs generalizing ρ with
  | nil => exact k ρ j
  | cons x xs ih =>
    rw [fu_cons]
    refine pl_mono (h x xs ρ j) fun c ρ' z => ?_
    cases c with
    | next => exact ih z
    | cont => exact ih z
    | brk => exact z
    | ret d => exact z
theorem tc_next {t : Tg} {b : Ss} {xs : List D} : (TurnC call w X t b xs C).k .next ρ = @ForU call w X t b xs ρ C := rfl
theorem tc_cont {t : Tg} {b : Ss} {xs : List D} : (TurnC call w X t b xs C).k .cont ρ = @ForU call w X t b xs ρ C := rfl
theorem tc_brk {t : Tg} {b : Ss} {xs : List D} : (TurnC call w X t b xs C).k .brk ρ = C.k .next ρ := rfl
theorem tc_ret {t : Tg} {b : Ss} {xs : List D} {d : D} : (TurnC call w X t b xs C).k (.ret d) ρ = C.k (.ret d) ρ := rfl
theorem pe_lc (g : D → Option D) {t : Tg} {it : It} {c : T} {e : E} (hs : itSlots it = []) (h : @PI call X it ρ ⟨fun xs ρ => @LcF call g t c e xs ρ K⟩) : @PE call X (.lc t it c e) ρ K := F.pe_lc g hs h
theorem pe_map (g : D → D) {t : Tg} {it : It} {e : E} (hs : itSlots it = []) (h : @PI call X it ρ ⟨fun xs ρ => @MapF call g t e xs ρ K⟩) : @PE call X (.lc t it (.of (.k (.bool true))) e) ρ K := by
  refine F.pe_lc (fun x => some (g x)) hs (F.w2_mono h (fun xs ρ ⟨a, b, c, d⟩ => ?_) fun _ z => z)
  have e : xs.filterMap (fun x => some (g x)) = xs.map g := by
    rw [List.filterMap_eq_map']
  exact ⟨a, b, by rw [e, List.length_map]; exact c, by rw [e]; exact d⟩
theorem pe_gsum (f : D → Option Int) {t : Tg} {it : It} {c : T} {e : E} (hs : itSlots it = []) (h : @PI call X it ρ ⟨fun xs ρ => @SumF call f t c e xs ρ K⟩) : @PE call X (.gsum t it c e) ρ K := F.pe_gsum f hs h
theorem pe_gall (g : D → Bool) {t : Tg} {it : It} {e : E} (hs : itSlots it = []) (h : @PI call X it ρ ⟨fun xs ρ => @AllF call g t e xs ρ K⟩) : @PE call X (.gall t it e) ρ K := F.pe_gall g hs h
theorem pe_lcI (J : Env → Prop) (P : D → Prop) {t : Tg} {it : It} {c : T} {e : E} (hs : itSlots it = []) (h : @PI call X it ρ ⟨fun xs ρ => @LcI call J P t c e xs ρ K⟩) : @PE call X (.lc t it c e) ρ K := F.pe_lcI J P hs h
theorem ps_forI (J : Env → Prop) {l : List Nat} {t : Tg} {it : It} {b : Ss} (h : @Now _ (letGo ρ l) ⟨fun ρ => @PI call X it ρ ⟨fun xs ρ => @ForI call w X J t b xs ρ C⟩⟩) : @PS call w X (.for_ l t it b) ρ C := F.ps_forI J h
theorem ps_forU {l : List Nat} {t : Tg} {it : It} {b : Ss} (h : @Now _ (letGo ρ l) ⟨fun ρ => @PI call X it ρ ⟨fun xs ρ => @ForU call w X t b xs ρ C⟩⟩) : @PS call w X (.for_ l t it b) ρ C := F.ps_forU h
section
variable {g : D → Option D} {h : D → D} {u : D → Bool} {f : D → Option Int} {J : Env → Prop} {P : D → Prop} {t : Tg} {it : It} {c : T} {e : E} {xs ys : List D} {ρ' : Env} {b : Ss}
theorem lc_mk (p : plainS ρ (namesT t) = true) (b : ∀ x, x ∈ xs → @PC call (fun _ => False) (namesT t) t c e x ρ ⟨fun o ρ' => o = g x ∧ wipeS ρ' (namesT t) = wipeS ρ (namesT t)⟩) (l : (xs.filterMap g).length ≤ maxLen) (k : K.k (.lst (xs.filterMap g)) ρ) : @LcF call g t c e xs ρ K := ⟨p, b, l, k⟩
theorem map_mk (p : plainS ρ (namesT t) = true) (b : ∀ x, x ∈ xs → @PC call (fun _ => False) (namesT t) t (.of (.k (.bool true))) e x ρ ⟨fun o ρ' => o = some (h x) ∧ wipeS ρ' (namesT t) = wipeS ρ (namesT t)⟩) (l : xs.length ≤ maxLen) (k : K.k (.lst (xs.map h)) ρ) : @MapF call h t e xs ρ K := ⟨p, b, l, k⟩
theorem sum_mk (p : plainS ρ (namesT t) = true) (b : ∀ x, x ∈ xs → @PC call (fun _ => False) (namesT t) t c e x ρ ⟨fun o ρ' => o = (f x).map D.int ∧ wipeS ρ' (namesT t) = wipeS ρ (namesT t)⟩) (k : K.k (.int (xs.filterMap f).sum) ρ) : @SumF call f t c e xs ρ K := ⟨p, b, k⟩
theorem all_mk (p : plainS ρ (namesT t) = true) (b : ∀ x, x ∈ xs → @PG call (fun _ => False) (namesT t) t e x ρ ⟨fun o ρ' => o = u x ∧ wipeS ρ' (namesT t) = wipeS ρ (namesT t)⟩) (k : K.k (.bool (xs.all u)) ρ) : @AllF call u t e xs ρ K := ⟨p, b, k⟩
theorem lci_mk (p : plainS ρ (namesT t) = true) (j : J ρ) (b : ∀ x, x ∈ xs → ∀ ρ, J ρ → @PC call (fun _ => False) (namesT t) t c e x ρ ⟨fun o ρ' => J ρ' ∧ ∃ a, o = some a ∧ P a⟩) (l : xs.length ≤ maxLen) (k : ∀ l ρ', J ρ' → l.length = xs.length → (∀ a, a ∈ l → P a) → K.k (.lst l) (backS ρ' ρ (namesT t))) : @LcI call J P t c e xs ρ K := ⟨p, j, b, l, k⟩
theorem fori_mk (j : J ρ) (h : ∀ x, x ∈ xs → ∀ ρ, J ρ → @PL call w X t b x ρ ⟨fun c ρ' => (c = .next ∨ c = .cont) ∧ J ρ'⟩) (k : ∀ ρ', J ρ' → C.k .next ρ') : @ForI call w X J t b xs ρ C := ⟨j, h, k⟩
end
/-- an error caught by a def that is handed it -/
theorem ps_try {b : Ss} {f : Nat} (hw : Nat → W) (h : @PSs call w (fun c => c < 5 ∧ call f [.exc c] = .ok (.str (hw c), []) ∧ C.k (.ret (.str (hw c))) []) b ρ ⟨fun c ρ => match c with | .ret d => C.k (.ret d) ρ | .next => C.k .next ρ | _ => False⟩) : @PS call w X (.try_ b 0 f) ρ C := by
  show F.PS call w X (.try_ b 0 f) ρ C.k
  rw [F.s_try]
  refine F.w2_mono h (fun c ρ h => h) fun c h => ?_
  obtain ⟨h1, h2, h3⟩ := h
  show if c < 5 then _ else _
  rw [if_pos h1, if_neg (by decide), h2]
  exact h3
end
end Cg
set_option linter.all false
set_option autoImplicit false
set_option maxRecDepth 100000
namespace Cg
open F
theorem weq (a b : W) : (a == b) = decide (a = b) := rfl
theorem intlit_beq (a b : Int) : (a == b) = decide (a = b) := rfl
theorem nth0 {a : D} {l : List D} : nthR (a :: l) 0 = .ok a := by
  unfold nthR place
  simp
theorem nthR_nat {l : List D} {k : Nat} (h : k < l.length) : nthR l (k : Int) = .ok l[k] := by
  unfold nthR place
  simp [h]
theorem nth1 {a b : D} {l : List D} : nthR (a :: b :: l) 1 = .ok b := nthR_nat (l := a :: b :: l) (k := 1) (by simp)
theorem nth2 {a b c : D} {l : List D} : nthR (a :: b :: c :: l) 2 = .ok c := nthR_nat (l := a :: b :: c :: l) (k := 2) (by simp)
theorem nth3 {a b c d : D} {l : List D} : nthR (a :: b :: c :: d :: l) 3 = .ok d := nthR_nat (l := a :: b :: c :: d :: l) (k := 3) (by simp)
theorem slice1 {a : D} {l : List D} : sliceL (a :: l) (some 1) none = l := by
  unfold sliceL bnd
  simp
theorem mkt0  : mkTup [] = .ok (.tup []) := rfl
theorem mkl0  : mkLst [] = .ok (.lst []) := rfl
theorem mkt1 {a0 : D} : mkTup [a0] = .ok (.tup [a0]) := rfl
theorem mkl1 {a0 : D} : mkLst [a0] = .ok (.lst [a0]) := rfl
theorem mkt2 {a0 a1 : D} : mkTup [a0, a1] = .ok (.tup [a0, a1]) := rfl
theorem mkl2 {a0 a1 : D} : mkLst [a0, a1] = .ok (.lst [a0, a1]) := rfl
theorem mkt3 {a0 a1 a2 : D} : mkTup [a0, a1, a2] = .ok (.tup [a0, a1, a2]) := rfl
theorem mkl3 {a0 a1 a2 : D} : mkLst [a0, a1, a2] = .ok (.lst [a0, a1, a2]) := rfl
theorem mkt4 {a0 a1 a2 a3 : D} : mkTup [a0, a1, a2, a3] = .ok (.tup [a0, a1, a2, a3]) := rfl
theorem mkl4 {a0 a1 a2 a3 : D} : mkLst [a0, a1, a2, a3] = .ok (.lst [a0, a1, a2, a3]) := rfl
theorem mkt5 {a0 a1 a2 a3 a4 : D} : mkTup [a0, a1, a2, a3, a4] = .ok (.tup [a0, a1, a2, a3, a4]) := rfl
theorem mkl5 {a0 a1 a2 a3 a4 : D} : mkLst [a0, a1, a2, a3, a4] = .ok (.lst [a0, a1, a2, a3, a4]) := rfl
theorem mkt6 {a0 a1 a2 a3 a4 a5 : D} : mkTup [a0, a1, a2, a3, a4, a5] = .ok (.tup [a0, a1, a2, a3, a4, a5]) := rfl
theorem mkl6 {a0 a1 a2 a3 a4 a5 : D} : mkLst [a0, a1, a2, a3, a4, a5] = .ok (.lst [a0, a1, a2, a3, a4, a5]) := rfl
theorem mkt7 {a0 a1 a2 a3 a4 a5 a6 : D} : mkTup [a0, a1, a2, a3, a4, a5, a6] = .ok (.tup [a0, a1, a2, a3, a4, a5, a6]) := rfl
theorem mkl7 {a0 a1 a2 a3 a4 a5 a6 : D} : mkLst [a0, a1, a2, a3, a4, a5, a6] = .ok (.lst [a0, a1, a2, a3, a4, a5, a6]) := rfl
theorem mkt8 {a0 a1 a2 a3 a4 a5 a6 a7 : D} : mkTup [a0, a1, a2, a3, a4, a5, a6, a7] = .ok (.tup [a0, a1, a2, a3, a4, a5, a6, a7]) := rfl
theorem mkl8 {a0 a1 a2 a3 a4 a5 a6 a7 : D} : mkLst [a0, a1, a2, a3, a4, a5, a6, a7] = .ok (.lst [a0, a1, a2, a3, a4, a5, a6, a7]) := rfl
theorem mkt9 {a0 a1 a2 a3 a4 a5 a6 a7 a8 : D} : mkTup [a0, a1, a2, a3, a4, a5, a6, a7, a8] = .ok (.tup [a0, a1, a2, a3, a4, a5, a6, a7, a8]) := rfl
theorem mkl9 {a0 a1 a2 a3 a4 a5 a6 a7 a8 : D} : mkLst [a0, a1, a2, a3, a4, a5, a6, a7, a8] = .ok (.lst [a0, a1, a2, a3, a4, a5, a6, a7, a8]) := rfl
theorem mkt10 {a0 a1 a2 a3 a4 a5 a6 a7 a8 a9 : D} : mkTup [a0, a1, a2, a3, a4, a5, a6, a7, a8, a9] = .ok (.tup [a0, a1, a2, a3, a4, a5, a6, a7, a8, a9]) := rfl
theorem mkl10 {a0 a1 a2 a3 a4 a5 a6 a7 a8 a9 : D} : mkLst [a0, a1, a2, a3, a4, a5, a6, a7, a8, a9] = .ok (.lst [a0, a1, a2, a3, a4, a5, a6, a7, a8, a9]) := rfl
theorem mkt11 {a0 a1 a2 a3 a4 a5 a6 a7 a8 a9 a10 : D} : mkTup [a0, a1, a2, a3, a4, a5, a6, a7, a8, a9, a10] = .ok (.tup [a0, a1, a2, a3, a4, a5, a6, a7, a8, a9, a10]) := rfl
theorem mkl11 {a0 a1 a2 a3 a4 a5 a6 a7 a8 a9 a10 : D} : mkLst [a0, a1, a2, a3, a4, a5, a6, a7, a8, a9, a10] = .ok (.lst [a0, a1, a2, a3, a4, a5, a6, a7, a8, a9, a10]) := rfl
theorem mkt12 {a0 a1 a2 a3 a4 a5 a6 a7 a8 a9 a10 a11 : D} : mkTup [a0, a1, a2, a3, a4, a5, a6, a7, a8, a9, a10, a11] = .ok (.tup [a0, a1, a2, a3, a4, a5, a6, a7, a8, a9, a10, a11]) := rfl
theorem mkl12 {a0 a1 a2 a3 a4 a5 a6 a7 a8 a9 a10 a11 : D} : mkLst [a0, a1, a2, a3, a4, a5, a6, a7, a8, a9, a10, a11] = .ok (.lst [a0, a1, a2, a3, a4, a5, a6, a7, a8, a9, a10, a11]) := rfl
theorem mkt13 {a0 a1 a2 a3 a4 a5 a6 a7 a8 a9 a10 a11 a12 : D} : mkTup [a0, a1, a2, a3, a4, a5, a6, a7, a8, a9, a10, a11, a12] = .ok (.tup [a0, a1, a2, a3, a4, a5, a6, a7, a8, a9, a10, a11, a12]) := rfl
theorem mkl13 {a0 a1 a2 a3 a4 a5 a6 a7 a8 a9 a10 a11 a12 : D} : mkLst [a0, a1, a2, a3, a4, a5, a6, a7, a8, a9, a10, a11, a12] = .ok (.lst [a0, a1, a2, a3, a4, a5, a6, a7, a8, a9, a10, a11, a12]) := rfl
theorem mkt14 {a0 a1 a2 a3 a4 a5 a6 a7 a8 a9 a10 a11 a12 a13 : D} : mkTup [a0, a1, a2, a3, a4, a5, a6, a7, a8, a9, a10, a11, a12, a13] = .ok (.tup [a0, a1, a2, a3, a4, a5, a6, a7, a8, a9, a10, a11, a12, a13]) := rfl
theorem mkl14 {a0 a1 a2 a3 a4 a5 a6 a7 a8 a9 a10 a11 a12 a13 : D} : mkLst [a0, a1, a2, a3, a4, a5, a6, a7, a8, a9, a10, a11, a12, a13] = .ok (.lst [a0, a1, a2, a3, a4, a5, a6, a7, a8, a9, a10, a11, a12, a13]) := rfl
theorem mkt15 {a0 a1 a2 a3 a4 a5 a6 a7 a8 a9 a10 a11 a12 a13 a14 : D} : mkTup [a0, a1, a2, a3, a4, a5, a6, a7, a8, a9, a10, a11, a12, a13, a14] = .ok (.tup [a0, a1, a2, a3, a4, a5, a6, a7, a8, a9, a10, a11, a12, a13, a14]) := rfl
theorem mkl15 {a0 a1 a2 a3 a4 a5 a6 a7 a8 a9 a10 a11 a12 a13 a14 : D} : mkLst [a0, a1, a2, a3, a4, a5, a6, a7, a8, a9, a10, a11, a12, a13, a14] = .ok (.lst [a0, a1, a2, a3, a4, a5, a6, a7, a8, a9, a10, a11, a12, a13, a14]) := rfl
theorem mkt16 {a0 a1 a2 a3 a4 a5 a6 a7 a8 a9 a10 a11 a12 a13 a14 a15 : D} : mkTup [a0, a1, a2, a3, a4, a5, a6, a7, a8, a9, a10, a11, a12, a13, a14, a15] = .ok (.tup [a0, a1, a2, a3, a4, a5, a6, a7, a8, a9, a10, a11, a12, a13, a14, a15]) := rfl
theorem mkl16 {a0 a1 a2 a3 a4 a5 a6 a7 a8 a9 a10 a11 a12 a13 a14 a15 : D} : mkLst [a0, a1, a2, a3, a4, a5, a6, a7, a8, a9, a10, a11, a12, a13, a14, a15] = .ok (.lst [a0, a1, a2, a3, a4, a5, a6, a7, a8, a9, a10, a11, a12, a13, a14, a15]) := rfl
theorem mkt17 {a0 a1 a2 a3 a4 a5 a6 a7 a8 a9 a10 a11 a12 a13 a14 a15 a16 : D} : mkTup [a0, a1, a2, a3, a4, a5, a6, a7, a8, a9, a10, a11, a12, a13, a14, a15, a16] = .ok (.tup [a0, a1, a2, a3, a4, a5, a6, a7, a8, a9, a10, a11, a12, a13, a14, a15, a16]) := rfl
theorem mkl17 {a0 a1 a2 a3 a4 a5 a6 a7 a8 a9 a10 a11 a12 a13 a14 a15 a16 : D} : mkLst [a0, a1, a2, a3, a4, a5, a6, a7, a8, a9, a10, a11, a12, a13, a14, a15, a16] = .ok (.lst [a0, a1, a2, a3, a4, a5, a6, a7, a8, a9, a10, a11, a12, a13, a14, a15, a16]) := rfl
theorem mkt18 {a0 a1 a2 a3 a4 a5 a6 a7 a8 a9 a10 a11 a12 a13 a14 a15 a16 a17 : D} : mkTup [a0, a1, a2, a3, a4, a5, a6, a7, a8, a9, a10, a11, a12, a13, a14, a15, a16, a17] = .ok (.tup [a0, a1, a2, a3, a4, a5, a6, a7, a8, a9, a10, a11, a12, a13, a14, a15, a16, a17]) := rfl
theorem mkl18 {a0 a1 a2 a3 a4 a5 a6 a7 a8 a9 a10 a11 a12 a13 a14 a15 a16 a17 : D} : mkLst [a0, a1, a2, a3, a4, a5, a6, a7, a8, a9, a10, a11, a12, a13, a14, a15, a16, a17] = .ok (.lst [a0, a1, a2, a3, a4, a5, a6, a7, a8, a9, a10, a11, a12, a13, a14, a15, a16, a17]) := rfl
theorem mkt19 {a0 a1 a2 a3 a4 a5 a6 a7 a8 a9 a10 a11 a12 a13 a14 a15 a16 a17 a18 : D} : mkTup [a0, a1, a2, a3, a4, a5, a6, a7, a8, a9, a10, a11, a12, a13, a14, a15, a16, a17, a18] = .ok (.tup [a0, a1, a2, a3, a4, a5, a6, a7, a8, a9, a10, a11, a12, a13, a14, a15, a16, a17, a18]) := rfl
theorem mkl19 {a0 a1 a2 a3 a4 a5 a6 a7 a8 a9 a10 a11 a12 a13 a14 a15 a16 a17 a18 : D} : mkLst [a0, a1, a2, a3, a4, a5, a6, a7, a8, a9, a10, a11, a12, a13, a14, a15, a16, a17, a18] = .ok (.lst [a0, a1, a2, a3, a4, a5, a6, a7, a8, a9, a10, a11, a12, a13, a14, a15, a16, a17, a18]) := rfl
/-- it is the text -/
def isS (x : D) (a : W) : Bool := match x with
  | .str s => decide (s = a)
  | _ => false
theorem isS_s {s a : W} : isS (.str s) a = decide (s = a) := rfl
theorem eqv_str {x : D} {a : W} : D.eqv (.str a) x = isS x a := by
  cases x <;> try rfl
  exact decide_eq_decide.mpr ⟨Eq.symm, Eq.symm⟩
theorem eqv_str' {x : D} {a : W} : D.eqv x (.str a) = isS x a := by
  cases x <;> rfl
mutual
/-- what does not change -/
def D.still : D → Bool
  | .tup l => D.stills l
  | .non => true
  | .bool _ => true
  | .int _ => true
  | .str _ => true
  | _ => false
def D.stills : List D → Bool
  | [] => true
  | a :: l => D.still a && D.stills l
end
mutual
theorem plain_of : ∀ {x : D}, x.still = true → x.plain = true
  | .tup l, h => by rw [D.plain]; rw [D.still] at h; exact plains_of h
  | .non, _ => rfl
  | .bool _, _ => rfl
  | .int _, _ => rfl
  | .str _, _ => rfl
theorem plains_of : ∀ {l : List D}, D.stills l = true → D.plains l = true
  | [], _ => rfl
  | a :: l, h => by
    simp only [D.stills, Bool.and_eq_true] at h
    rw [D.plains, plain_of h.1, plains_of h.2]; rfl
end
theorem stills_mem {l : List D} : D.stills l = true ↔ ∀ x, x ∈ l → x.still = true := by
  induction l with
  | nil => simp [D.stills]
  | cons a l ih => simp [D.stills, ih]
theorem eq_xs {x : D} {a : W} (h : x.still = true) : eqR x (.str a) = .ok (isS x a) := by
  have e : eqR x (.str a) = if x.plain && D.plain (.str a) && decide (min x.depth (D.depth (.str a)) ≤ 60) then .ok (x.eqv (.str a)) else .bad := by
    cases x with
    | rep => simp [D.still] at h
    | _ => rfl
  rw [e, plain_of h, eqv_str']
  have : D.depth (.str a) = 0 := rfl
  rw [this, Nat.min_zero]
  rfl
theorem in1s {x : D} {a0 : W} (h : x.still = true) : inR x [.str a0] = .ok (isS x a0) := by
  unfold inR; rw [plain_of h]; simp only [D.plains, D.plain, D.depths, D.depth, List.any_cons, List.any_nil, eqv_str]; simp [Bool.or_assoc]
theorem in1w {s : W} {a0 : W} : inR (.str s) [.str a0] = .ok (decide (s = a0)) := in1s rfl
theorem in2s {x : D} {a0 a1 : W} (h : x.still = true) : inR x [.str a0, .str a1] = .ok (isS x a0 || isS x a1) := by
  unfold inR; rw [plain_of h]; simp only [D.plains, D.plain, D.depths, D.depth, List.any_cons, List.any_nil, eqv_str]; simp [Bool.or_assoc]
theorem in2w {s : W} {a0 a1 : W} : inR (.str s) [.str a0, .str a1] = .ok (decide (s = a0) || decide (s = a1)) := in2s rfl
theorem in3s {x : D} {a0 a1 a2 : W} (h : x.still = true) : inR x [.str a0, .str a1, .str a2] = .ok (isS x a0 || isS x a1 || isS x a2) := by
  unfold inR; rw [plain_of h]; simp only [D.plains, D.plain, D.depths, D.depth, List.any_cons, List.any_nil, eqv_str]; simp [Bool.or_assoc]
theorem in3w {s : W} {a0 a1 a2 : W} : inR (.str s) [.str a0, .str a1, .str a2] = .ok (decide (s = a0) || decide (s = a1) || decide (s = a2)) := in3s rfl
theorem in4s {x : D} {a0 a1 a2 a3 : W} (h : x.still = true) : inR x [.str a0, .str a1, .str a2, .str a3] = .ok (isS x a0 || isS x a1 || isS x a2 || isS x a3) := by
  unfold inR; rw [plain_of h]; simp only [D.plains, D.plain, D.depths, D.depth, List.any_cons, List.any_nil, eqv_str]; simp [Bool.or_assoc]
theorem in4w {s : W} {a0 a1 a2 a3 : W} : inR (.str s) [.str a0, .str a1, .str a2, .str a3] = .ok (decide (s = a0) || decide (s = a1) || decide (s = a2) || decide (s = a3)) := in4s rfl
theorem in5s {x : D} {a0 a1 a2 a3 a4 : W} (h : x.still = true) : inR x [.str a0, .str a1, .str a2, .str a3, .str a4] = .ok (isS x a0 || isS x a1 || isS x a2 || isS x a3 || isS x a4) := by
  unfold inR; rw [plain_of h]; simp only [D.plains, D.plain, D.depths, D.depth, List.any_cons, List.any_nil, eqv_str]; simp [Bool.or_assoc]
theorem in5w {s : W} {a0 a1 a2 a3 a4 : W} : inR (.str s) [.str a0, .str a1, .str a2, .str a3, .str a4] = .ok (decide (s = a0) || decide (s = a1) || decide (s = a2) || decide (s = a3) || decide (s = a4)) := in5s rfl
theorem in6s {x : D} {a0 a1 a2 a3 a4 a5 : W} (h : x.still = true) : inR x [.str a0, .str a1, .str a2, .str a3, .str a4, .str a5] = .ok (isS x a0 || isS x a1 || isS x a2 || isS x a3 || isS x a4 || isS x a5) := by
  unfold inR; rw [plain_of h]; simp only [D.plains, D.plain, D.depths, D.depth, List.any_cons, List.any_nil, eqv_str]; simp [Bool.or_assoc]
theorem in6w {s : W} {a0 a1 a2 a3 a4 a5 : W} : inR (.str s) [.str a0, .str a1, .str a2, .str a3, .str a4, .str a5] = .ok (decide (s = a0) || decide (s = a1) || decide (s = a2) || decide (s = a3) || decide (s = a4) || decide (s = a5)) := in6s rfl
theorem in7s {x : D} {a0 a1 a2 a3 a4 a5 a6 : W} (h : x.still = true) : inR x [.str a0, .str a1, .str a2, .str a3, .str a4, .str a5, .str a6] = .ok (isS x a0 || isS x a1 || isS x a2 || isS x a3 || isS x a4 || isS x a5 || isS x a6) := by
  unfold inR; rw [plain_of h]; simp only [D.plains, D.plain, D.depths, D.depth, List.any_cons, List.any_nil, eqv_str]; simp [Bool.or_assoc]
theorem in7w {s : W} {a0 a1 a2 a3 a4 a5 a6 : W} : inR (.str s) [.str a0, .str a1, .str a2, .str a3, .str a4, .str a5, .str a6] = .ok (decide (s = a0) || decide (s = a1) || decide (s = a2) || decide (s = a3) || decide (s = a4) || decide (s = a5) || decide (s = a6)) := in7s rfl
theorem in8s {x : D} {a0 a1 a2 a3 a4 a5 a6 a7 : W} (h : x.still = true) : inR x [.str a0, .str a1, .str a2, .str a3, .str a4, .str a5, .str a6, .str a7] = .ok (isS x a0 || isS x a1 || isS x a2 || isS x a3 || isS x a4 || isS x a5 || isS x a6 || isS x a7) := by
  unfold inR; rw [plain_of h]; simp only [D.plains, D.plain, D.depths, D.depth, List.any_cons, List.any_nil, eqv_str]; simp [Bool.or_assoc]
theorem in8w {s : W} {a0 a1 a2 a3 a4 a5 a6 a7 : W} : inR (.str s) [.str a0, .str a1, .str a2, .str a3, .str a4, .str a5, .str a6, .str a7] = .ok (decide (s = a0) || decide (s = a1) || decide (s = a2) || decide (s = a3) || decide (s = a4) || decide (s = a5) || decide (s = a6) || decide (s = a7)) := in8s rfl
def isTv : TY → D → Bool
  | .int, .int _ => true
  | .int, .bool _ => true
  | .bool, .bool _ => true
  | .tuple, .tup _ => true
  | .str, .str _ => true
  | _, _ => false
theorem isT_eq {x : D} {t : TY} (h : x.still = true) : isTy t x = .ok (isTv t x) := by
  cases t <;> cases x <;> first | rfl | (exfalso; simp [D.still] at h)
theorem isT_of {x : D} {K : Kc Bool} {X : Nat → Prop} {t : TY} (h : x.still = true) : @W1 _ (isTy t x) K X = K.k (isTv t x) := by rw [isT_eq h]; rfl
theorem isTv_t {x : D} : (isTv .tuple x = true) = ∃ l, x = .tup l := by cases x <;> simp [isTv]
/-- whole numbers from .. to .. -/
def isW : D → Int → Int → Bool
  | .int i, lo, hi => decide (lo ≤ i) && decide (i ≤ hi)
  | _, _, _ => false
def optT : Option (List D) → D
  | none => .non
  | some l => .tup l
theorem call_at {w n i : Nat} {T : Nat → Option Fn} {f : Fn} (h : T i = some f) {ds : List D} : callN T w (n + 1) i ds = runF (callN T w n) w f ds := by
  show (match T i with | some fn => runF (callN T w n) w fn ds | none => .bad) = _
  rw [h]

theorem intsR_map {α : Type} {l : List α} {f : α → Int} : intsR (l.map fun x => .int (f x)) = .ok (l.map f) := by
  induction l with
  | nil => rfl
  | cons a l ih => rw [List.map_cons, intsR, ih]; rfl
theorem inR_ints {α : Type} {l : List α} {f : α → Int} {i : Int} : inR (.int i) (l.map fun x => .int (f x)) = .ok (decide (i ∈ l.map f)) := by
  have p : D.plains (l.map fun x => .int (f x)) = true := by
    induction l with
    | nil => rfl
    | cons a l ih => rw [List.map_cons, D.plains, ih]; rfl
  unfold inR
  rw [p]
  show R.ok _ = _
  congr 1
  rw [Bool.eq_iff_iff, List.any_eq_true, decide_eq_true_iff]
  simp only [List.mem_map]
  constructor
  · rintro ⟨_, ⟨a, ha, rfl⟩, e⟩
    exact ⟨a, ha, by simpa [D.eqv] using e⟩
  · rintro ⟨a, ha, rfl⟩
    exact ⟨_, ⟨a, ha, rfl⟩, by simp [D.eqv]⟩
theorem le_cast (k n : Nat) : ((k : Int) ≤ (n : Int)) = (k ≤ n) := propext (by omega)
theorem cast_le (k n : Nat) : ((n : Int) ≤ (k : Int)) = (n ≤ k) := propext (by omega)
theorem le_cast1 {n : Nat} : (1 ≤ (n : Int)) = (1 ≤ n) := propext (by omega)
theorem le_cast2 {n : Nat} : (2 ≤ (n : Int)) = (2 ≤ n) := propext (by omega)
theorem le_cast4 {n : Nat} : ((n : Int) ≤ 4) = (n ≤ 4) := propext (by omega)

theorem nbool_in {l : List D} {f : D → Bool} : inR (.bool false) (l.map fun x => .bool (f x)) = .ok (!l.all f) := by
  have p : D.plains (l.map fun x => .bool (f x)) = true := by
    induction l with
    | nil => rfl
    | cons a l ih => rw [List.map_cons, D.plains, ih]; rfl
  unfold inR
  rw [p]
  show R.ok _ = _
  congr 1
  rw [Bool.eq_iff_iff, List.any_eq_true]
  simp only [List.mem_map, Bool.not_eq_true', List.all_eq_false]
  constructor
  · rintro ⟨_, ⟨a, ha, rfl⟩, e⟩
    exact ⟨a, ha, by simpa [D.eqv] using e⟩
  · rintro ⟨a, ha, e⟩
    exact ⟨_, ⟨a, ha, rfl⟩, by simpa [D.eqv] using e⟩

theorem go {T : Nat → Option Fn} {w m i nn : Nat} {ps : List Bool} {fr : Bool} {body : Ss} {ds : List D} {Q : Kc2 D (List D)} {X : Nat → Prop} (h : T i = some ⟨nn, ps, fr, body⟩) (hl : ds.length = ps.length) (h2 : @Now _ ((List.zipWith (fun d b => some (d, if b = true then 3 else 0)) ds ps) ++ List.replicate (nn - ps.length) none) ⟨fun ρ => @PSs (callN T w m) w X body ρ (Fin ps Q)⟩) : @W2 _ _ (callN T w (m + 1) i ds) Q X := by
  show F.W2 _ _ _
  rw [call_at h, F.run_def, F.st_def hl]
  exact h2
theorem ite_w {c A B : Prop} [Decidable c] (h1 : c → A) (h2 : ¬ c → B) : if c then A else B := by
  by_cases h : c
  · rw [if_pos h]; exact h1 h
  · rw [if_neg h]; exact h2 h

/-- a name that may be bound -/
def Fr (s : Slot) : Prop := freeS [s] 0 = true
theorem fr_none : Fr none := rfl
theorem fr_some {d : D} : Fr (some (d, 0)) := rfl
theorem b_fr {s : Slot} (h : Fr s) {X : Nat → Prop} {ρ : Env} {d : D} {g : Nat} {G : Kc Env} : @PB X (s :: ρ) 0 d g G = G.k (some (d, g) :: ρ) := by
  show F.PB _ _ _ _ _ _ = _
  unfold F.PB bindS
  have : freeS (s :: ρ) 0 = true := by
    cases s with
    | none => rfl
    | some p => exact h
  rw [this]; rfl
theorem out_e {b : List Bool} : outsOf b [] = [] := by unfold outsOf; simp
end Cg
set_option linter.all false
set_option maxRecDepth 100000
namespace Cg
open F
local macro_rules
  | `(tactic| simp_arith [$ls,*]) => `(tactic| try simp (config := { implicitDefEqProofs := false, maxSteps := 2000000 }) only [↓k_mk, ↓k_mk2, ↓w1_bind, ↓w2_bind, ↓w1_ite, ↓w2_ite, ↓w1_ok, ↓w1_exc, ↓w1_bad, ↓w2_ok, ↓w2_exc, ↓w2_bad, ↓see_b, ↓now_b, ↓opt_omit, ↓opt_k, ↓see_k, ↓now_k, ↓see_v, ↓now_v, ↓opt_v, ↓see_tup, ↓now_tup, ↓opt_tup, ↓see_lst, ↓now_lst, ↓opt_lst, ↓see_dict, ↓now_dict, ↓opt_dict, ↓see_bin, ↓now_bin, ↓opt_bin, ↓see_cmp, ↓now_cmp, ↓opt_cmp, ↓see_chain, ↓now_chain, ↓opt_chain, ↓see_not, ↓now_not, ↓opt_not, ↓see_and, ↓now_and, ↓opt_and, ↓see_or, ↓now_or, ↓opt_or, ↓see_ite, ↓now_ite, ↓opt_ite, ↓see_idx, ↓now_idx, ↓opt_idx, ↓see_idxd, ↓now_idxd, ↓opt_idxd, ↓see_ind, ↓now_ind, ↓opt_ind, ↓see_idx2, ↓now_idx2, ↓opt_idx2, ↓see_any2, ↓now_any2, ↓opt_any2, ↓see_slice, ↓now_slice, ↓opt_slice, ↓see_call, ↓now_call, ↓opt_call, ↓see_b1, ↓now_b1, ↓opt_b1, ↓see_b2, ↓now_b2, ↓opt_b2, ↓see_b3, ↓now_b3, ↓opt_b3, ↓see_get, ↓now_get, ↓opt_get, ↓see_count, ↓now_count, ↓opt_count, ↓see_index, ↓now_index, ↓opt_index, ↓see_isa, ↓now_isa, ↓opt_isa, ↓see_isExc, ↓now_isExc, ↓opt_isExc, ↓see_mkExc, ↓now_mkExc, ↓opt_mkExc, ↓see_lc, ↓now_lc, ↓opt_lc, ↓see_lc2, ↓now_lc2, ↓opt_lc2, ↓see_gsum, ↓now_gsum, ↓opt_gsum, ↓see_gall, ↓now_gall, ↓opt_gall, ↓see_gall2, ↓now_gall2, ↓opt_gall2, ↓see_grid, ↓now_grid, ↓opt_grid, ↓see_empties, ↓now_empties, ↓opt_empties, ↓e_k, ↓e_v, ↓e_tup, ↓e_lst, ↓e_dict, ↓e_bin, ↓e_cmp, ↓e_chain, ↓e_not, ↓pbool, ↓e_and, ↓e_or, ↓e_ite, ↓e_idx, ↓e_idxd, ↓e_ind, ↓e_any2, ↓plst, ↓e_idx2, ↓e_slice, ↓e_call, ↓e_b1, ↓e_b2, ↓e_b3, ↓e_get, ↓e_count, ↓e_index, ↓e_isa, ↓e_isExc, ↓e_mkExc, ↓t_not, ↓t_and, ↓t_or, ↓t_of, ↓es_nil, ↓es_cons, ↓as_nil, ↓as_io, ↓as_tmp, ↓i_val, ↓pint, ↓i_range, ↓i_range2, ↓i_zip2, ↓i_zip3, ↓i_enum, ↓i_rev, ↓s_set, ↓s_ret, ↓s_retv, ↓s_retN, ↓s_raise, ↓s_brk, ↓s_cont, ↓s_pass, ↓s_ex, ↓s_ifs, ↓s_app, ↓s_ext, ↓s_put, ↓s_unpack, ↓s_par, ↓s_aug, ↓af_next, ↓af_ret, ↓af_brk, ↓af_cont, ↓ss_nil, ↓ss_cons, ↓b_n, ↓b_0n, ↓b_00, ↓b_01, ↓b_02, ↓bt_nm, ↓bt_tup, ↓bts_nil, ↓bts_cons, ↓bp_nil, ↓bp_cons, ↓as_k, ↓as_v, ↓as_tup, ↓as_lst, ↓as_dict, ↓as_bin, ↓as_cmp, ↓as_chain, ↓as_not, ↓as_and, ↓as_or, ↓as_ite, ↓as_idx, ↓as_idxd, ↓as_ind, ↓as_idx2, ↓as_any2, ↓as_slice, ↓as_call, ↓as_b1, ↓as_b2, ↓as_b3, ↓as_get, ↓as_count, ↓as_index, ↓as_isa, ↓as_isExc, ↓as_mkExc, ↓as_lc, ↓as_lc2, ↓as_gsum, ↓as_gall, ↓as_gall2, ↓as_grid, ↓as_empties, ↓fin_next, ↓fin_ret, ↓pc_, ↓pg_, ↓pl_, ↓fu_nil, ↓fu_cons, ↓tj_next, ↓tj_cont, ↓tj_brk, ↓tj_ret, ↓tc_next, ↓tc_cont, ↓tc_brk, ↓tc_ret, getS_0, getS_1, getS_2, getS_n, valS_0, valS_n, seeS_0, seeS_01, seeS_03, seeS_04, seeS_n, ownS_01l, ownS_03l, ownS_01d, ownS_03d, ownS_n, own2S_0, own2S_n, listOwn_01, listOwn_03, listOwn_n, putS_0, putS_n, letGo_nil, letGo_cons, lg1_n, lg1_0n, lg1_00, lg1_01, lg1_02, lg1_03, lg1_04, wipe_nil, wipe_cons, back_nil, back_cons, pl_nil, nt_nm, nt_tup, nts_nil, nts_cons, am_nil, am_lst, am_dct, out_nil, out_f, out_t, os_nil, os_io, os_tmp, os_k, os_v, os_tup, os_lst, os_dict, os_bin, os_cmp, os_chain, os_not, os_and, os_or, os_ite, os_idx, os_idxd, os_ind, os_idx2, os_any2, os_slice, os_call, os_b1, os_b2, os_b3, os_get, os_count, os_index, os_isa, os_isExc, os_mkExc, os_lc, os_lc2, os_gsum, os_gall, os_gall2, os_grid, os_empties, ty_int_non, ty_int_bool, ty_int_int, ty_int_str, ty_int_tup, ty_int_lst, ty_bool_non, ty_bool_bool, ty_bool_int, ty_bool_str, ty_bool_tup, ty_bool_lst, ty_tuple_non, ty_tuple_bool, ty_tuple_int, ty_tuple_str, ty_tuple_tup, ty_tuple_lst, ty_str_non, ty_str_bool, ty_str_int, ty_str_str, ty_str_tup, ty_str_lst, tb_bool, tr_non, tr_bool, tr_int, tr_str, tr_tup, tr_lst, toInt_int, bin_addi, bin_addt, bin_addl, bin_sub, bin_mul, bin_mult, bin_mull, bin_fdiv, bin_mod, bin_pow, cmp_eq, cmp_ne, cmp_lt, cmp_le, cmp_gt, cmp_ge, cmp_is, cmp_isNot, cmp_int, cmp_inl, cmp_nint, cmp_ninl, eq_ii, eq_ss, eq_bb, lt_ii, is_non_n, is_bool_n, is_int_n, is_str_n, is_tup_n, is_lst_n, ix_t, ix_l, sl_t, sl_l, it_t, it_l, it_s, b1_lent, b1_lenl, b1_int, b1_abs, b1_neg, b1_sum, b1_min, b1_max, b1_anyl, b1_anyt, b1_tupl, b1_tupt, b1_lstl, b1_lstt, b1_sortl, b1_sortt, b1_sortk, b1_repr, b1_strExc, b2_min, b2_max, ise_, out_e, now_, List.zipWith, List.replicate, List.cons_append, List.nil_append, List.append_nil, List.getElem?_cons_zero, List.getElem?_cons_succ, List.set_cons_zero, List.set_cons_succ, List.all_cons, List.all_nil, Bool.and_true, Bool.true_and, Bool.false_and, Bool.and_false, Bool.or_true, Bool.true_or, Bool.or_false, Bool.false_or, Bool.not_true, Bool.not_false, ↓reduceIte, if_true, if_false, Bool.false_eq_true, D.isMut, Nat.sub_self, Nat.reduceSub, Nat.reduceAdd, decide_true, decide_false, beq_self_eq_true, List.length_cons, List.length_nil, weq, reduceCtorEq, decide_eq_true_eq, Int.reduceLT, Int.reduceLE, Int.reduceEq, Int.reduceAdd, Int.reduceSub, Int.reduceNeg, Nat.reduceLT, Nat.reduceLeDiff, Int.cast_ofNat_Int, Nat.zero_add, Int.reduceToNat, and_true, true_and, and_false, false_and, not_true_eq_false, not_false_eq_true, isS_s, Bool.or_eq_true, Bool.and_eq_true, Bool.not_eq_true', decide_eq_false_iff_not, Bool.not_not, nbool_in, plainS, namesT, namesTs, intsR_map, inR_ints, nth0, nth1, nth2, nth3, slice1, beq_iff_eq, bne_iff_ne, ne_eq, or_true, true_or, or_false, false_or, intlit_beq, mkt0, mkt1, mkt2, mkt3, mkt4, mkt5, mkt6, mkt7, mkt8, mkt9, mkt10, mkt11, mkt12, mkt13, mkt14, mkt15, mkt16, mkt17, mkt18, mkt19, mkl0, mkl1, mkl2, mkl3, mkl4, mkl5, mkl6, mkl7, mkl8, mkl9, mkl10, mkl11, mkl12, mkl13, mkl14, mkl15, mkl16, mkl17, mkl18, mkl19, in1w, in2w, in3w, in4w, in5w, in6w, in7w, in8w, $ls,*])
section
variable {w n : Nat}
theorem is_whole_ok {d : D} (lo hi : Int) (h : d.still = true) : callN tbl w (n + 1) 0 [d, .int lo, .int hi] = .ok (.bool (isW d lo hi), []) := by
  apply eq_of_w2
  refine go rfl rfl ?_
  cases d <;> simp only [D.still, Bool.false_eq_true] at h <;> simp_arith [isW]
  split <;> simp [*]
def innerK : D → Option (List D)
  | .tup [.str .number, x] => if isW x 2 1000 = true then some [] else none
  | .tup [.str .record, .tup l] => if 1 ≤ l.length ∧ l.length ≤ 4 then some l else none
  | .tup [.str .choice, .tup l] => if 2 ≤ l.length ∧ l.length ≤ 4 then some l else none
  | .tup [.str .row, x] => some [x]
  | .tup [.str .set, x] => some [x]
  | .tup [.str .bag, x] => some [x]
  | .tup [.str .table, x, y] => some [x, y]
  | _ => none
theorem innerK_other {s : W} {l : List D} (h1 : s ≠ .number) (h2 : s ≠ .record) (h3 : s ≠ .choice) (h4 : s ≠ .row) (h5 : s ≠ .set) (h6 : s ≠ .bag) (h7 : s ≠ .table) : innerK (.tup (.str s :: l)) = none := by
  cases s <;> first | rfl | contradiction
theorem inner_kinds_ok {d : D} (h : d.still = true) : callN tbl w (n + 2) 1 [d] = .ok (optT (innerK d), []) := by
  apply eq_of_w2
  refine go rfl rfl ?_
  cases d with
  | tup l =>
    match l, h with
    | [], h => simp_arith [innerK, optT]
    | [a], h => simp_arith [innerK, optT]
    | a :: b :: l, h =>
      have big : ¬ ((l.length + 1 + 1 : Nat) : Int) < 2 := by omega
      have b2 : (((l.length + 1 + 1 : Nat) : Int) = 2) = (l = []) := by cases l <;> simp <;> omega
      simp only [D.still, D.stills, Bool.and_eq_true] at h
      cases a with
      | str s =>
        have iw := is_whole_ok (w := w) (n := n) 2 1000 h.2.1
        simp_arith [big, iw, b2, isT_of h.2.1]
        split
        · subst s; cases l <;> simp [innerK, optT]; split <;> rfl
        split
        · rename_i h1 h2
          rcases h2 with rfl | rfl
          · cases l with
            | nil => cases b <;> simp [innerK, optT, isTv]; rename_i l2; simp_arith [le_cast1, le_cast2, le_cast4]; by_cases g1 : 1 ≤ l2.length <;> by_cases g2 : l2.length ≤ 4 <;> by_cases g3 : 2 ≤ l2.length <;> simp [g1, g2, g3, innerK, optT]
            | cons => simp [innerK, optT]
          · cases l with
            | nil => cases b <;> simp [innerK, optT, isTv]; rename_i l2; simp_arith [le_cast1, le_cast2, le_cast4]; by_cases g1 : 1 ≤ l2.length <;> by_cases g2 : l2.length ≤ 4 <;> by_cases g3 : 2 ≤ l2.length <;> simp [g1, g2, g3, innerK, optT]
            | cons => simp [innerK, optT]
        split
        · rename_i h1 h2 h3
          rcases h3 with (rfl | rfl) | rfl <;> cases l <;> simp [innerK, optT]
        split
        · subst s
          match l with
          | [] => simp [innerK, optT]
          | [c] => simp [innerK, optT]
          | c :: c' :: l => simp [innerK, optT]; omega
        · rename_i h1 h2 h3 h4
          simp only [not_or] at h2 h3
          rw [innerK_other h1 h2.1 h2.2 h3.1.1 h3.1.2 h3.2 h4]
          rfl
      | _ => simp only [D.still, Bool.false_eq_true, false_and] at h <;> simp_arith [innerK, optT, big]
  | _ => simp only [D.still, Bool.false_eq_true] at h <;> simp_arith [innerK, optT]
/-- how many kinds, 0: none -/
def cntK : Nat → D → Int
  | 0, _ => 0
  | n + 1, d => match innerK d with
    | none => 0
    | some l => if (0 : Int) ∈ l.map (cntK n) then 0 else 1 + (l.map (cntK n)).sum
theorem innerK_len {d : D} {l : List D} (h : innerK d = some l) : l.length ≤ 4 := by
  unfold innerK at h
  split at h
  case h_1 => split at h <;> simp at h; subst h; simp
  case h_2 => split at h <;> simp at h; subst h; omega
  case h_3 => split at h <;> simp at h; subst h; omega
  all_goals simp at h
  all_goals subst h; simp
theorem innerK_still {d : D} {l : List D} (hd : d.still = true) (h : innerK d = some l) : D.stills l = true := by
  unfold innerK at h
  split at h
  case h_1 => split at h <;> simp at h; subst h; rfl
  case h_2 => split at h <;> simp at h; subst h; simpa [D.still, D.stills] using hd
  case h_3 => split at h <;> simp at h; subst h; simpa [D.still, D.stills] using hd
  all_goals simp at h
  all_goals subst h; simpa [D.still, D.stills] using hd
theorem kinds_in_ok : ∀ {k m : Nat} {d : D} (hm : k + 3 ≤ m) (h : d.still = true) , callN tbl w m 2 [d, .int k] = .ok (.int (cntK k d), [])
  | 0, m + 1, d, hm, h => by
    apply eq_of_w2
    refine go rfl rfl ?_
    simp_arith [cntK]
  | k + 1, m + 1, d, hm, h => by
    apply eq_of_w2
    refine go rfl rfl ?_
    have z : (0 : Int) < (k + 1 : Nat) := by omega
    obtain ⟨n, rfl⟩ : ∃ n, m = n + 2 := ⟨m - 2, by omega⟩
    have ik := inner_kinds_ok (w := w) (n := n) h
    cases hi : innerK d with
    | none =>
      rw [hi] at ik
      simp_arith [z, w2_eq ik, optT, cntK, hi]
    | some l =>
      rw [hi] at ik
      simp_arith [z, w2_eq ik, optT, cntK, hi]
      refine pe_map (fun x => .int (cntK k x)) rfl ?_
      simp_arith []
      refine map_mk rfl (fun x hx => ?_) ?_ ?_
      · have e : ((k + 1 : Nat) : Int) - 1 = (k : Nat) := by omega
        have ih := kinds_in_ok (k := k) (m := n + 2) (by omega) (stills_mem.mp (innerK_still h hi) x hx)
        simp_arith [e, w2_eq ih]
      · have := innerK_len hi
        unfold maxLen; omega
      · simp_arith []
        split <;> simp [cntK, hi, *]
theorem is_kind_ok {m : Nat} {d : D} (hm : 9 ≤ m) (h : d.still = true) : callN tbl w m 3 [d] = .ok (.bool (decide (1 ≤ cntK 5 d) && decide (cntK 5 d ≤ 20)), []) := by
  obtain ⟨m, rfl⟩ : ∃ n, m = n + 1 := ⟨m - 1, by omega⟩
  apply eq_of_w2
  refine go rfl rfl ?_
  have k : callN tbl w m 2 [d, .int 5] = _ := kinds_in_ok (w := w) (k := 5) (m := m) (by omega) h
  simp_arith [w2_eq k]
  split <;> simp [*]
/-- it is a kind -/
def kindOk (d : D) : Bool := decide (1 ≤ cntK 5 d) && decide (cntK 5 d ≤ 20)
theorem check_kind_ok {m : Nat} {d : D} (hm : 10 ≤ m) (h : d.still = true) (hk : kindOk d = true) : callN tbl w m 4 [d] = .ok (.non, []) := by
  obtain ⟨m, rfl⟩ : ∃ n, m = n + 1 := ⟨m - 1, by omega⟩
  apply eq_of_w2
  refine go rfl rfl ?_
  have k := is_kind_ok (w := w) (m := m) (by omega) h
  rw [show (decide (1 ≤ cntK 5 d) && decide (cntK 5 d ≤ 20)) = true from hk] at k
  simp_arith [w2_eq k]
theorem check_kind_bad {m : Nat} {d : D} (hm : 10 ≤ m) (h : d.still = true) (hk : kindOk d = false) : callN tbl w m 4 [d] = .exc 1 := by
  obtain ⟨m, rfl⟩ : ∃ n, m = n + 1 := ⟨m - 1, by omega⟩
  apply exc_of_w2
  refine go rfl rfl ?_
  have k := is_kind_ok (w := w) (m := m) (by omega) h
  rw [show (decide (1 ≤ cntK 5 d) && decide (cntK 5 d ≤ 20)) = false from hk] at k
  simp_arith [w2_eq k]
/-! the law's own -/
theorem lnumber_ok {m : Nat} {d : D} {lo hi : Int} (hm : 1 ≤ m) (h : d.still = true) : callN tbl w m 13 [d, .int lo, .int hi] = .ok (.bool (isW d lo hi), []) := by
  obtain ⟨m, rfl⟩ : ∃ n, m = n + 1 := ⟨m - 1, by omega⟩
  apply eq_of_w2
  refine go rfl rfl ?_
  cases d <;> simp only [D.still, Bool.false_eq_true] at h <;> simp_arith [isW]
  split <;> simp [*]
def isK : Nat → D → Bool
  | 0, _ => false
  | n + 1, d => match innerK d with
    | none => false
    | some l => l.all (isK n)
def manyK : Nat → D → Int
  | 0, _ => 0
  | n + 1, d => match innerK d with
    | none => 0
    | some l => 1 + (l.map (manyK n)).sum
theorem sum_pos {l : List D} {f : D → Int} (h : ∀ x, x ∈ l → 1 ≤ f x) : 0 ≤ (l.map f).sum := by
  induction l with
  | nil => simp
  | cons a l ih =>
    have := h a List.mem_cons_self
    have := ih fun x hx => h x (List.mem_cons_of_mem _ hx)
    simp only [List.map_cons, List.sum_cons]; omega
theorem cnt_kind : ∀ {k : Nat} {d : D}, isK k d = true → cntK k d = manyK k d ∧ 1 ≤ manyK k d
  | 0, d, h => by simp [isK] at h
  | k + 1, d, h => by
    unfold isK at h
    unfold cntK manyK
    cases hi : innerK d with
    | none => rw [hi] at h; simp at h
    | some l =>
      rw [hi] at h
      have hl : ∀ x, x ∈ l → isK k x = true := by simpa using h
      have e : l.map (cntK k) = l.map (manyK k) := List.map_congr_left fun x hx => (cnt_kind (hl x hx)).1
      have p := sum_pos fun x hx => (cnt_kind (hl x hx)).2
      have z : (0 : Int) ∉ l.map (manyK k) := by
        intro m
        obtain ⟨x, hx, e⟩ := List.mem_map.mp m
        have := (cnt_kind (hl x hx)).2
        omega
      simp only [e]
      rw [if_neg z]
      exact ⟨rfl, by omega⟩
theorem cnt_none : ∀ {k : Nat} {d : D}, isK k d = false → cntK k d = 0
  | 0, d, h => rfl
  | k + 1, d, h => by
    unfold isK at h
    unfold cntK
    cases hi : innerK d with
    | none => rfl
    | some l =>
      rw [hi] at h
      obtain ⟨x, hx, e⟩ : ∃ x, x ∈ l ∧ isK k x = false := by simpa using h
      show (if _ then _ else _) = (0 : Int)
      rw [if_pos (List.mem_map.mpr ⟨x, hx, cnt_none e⟩)]
theorem kindOk_eq {d : D} : kindOk d = (isK 5 d && decide (manyK 5 d ≤ 20)) := by
  unfold kindOk
  cases h : isK 5 d with
  | true => obtain ⟨a, b⟩ := cnt_kind h; rw [a]; simp [b]
  | false => rw [cnt_none h]; simp
end
end Cg
set_option linter.all false
set_option maxRecDepth 100000
namespace Cg
open F
local macro_rules
  | `(tactic| simp_arith [$ls,*]) => `(tactic| try simp (config := { implicitDefEqProofs := false, maxSteps := 2000000 }) only [↓k_mk, ↓k_mk2, ↓w1_bind, ↓w2_bind, ↓w1_ite, ↓w2_ite, ↓w1_ok, ↓w1_exc, ↓w1_bad, ↓w2_ok, ↓w2_exc, ↓w2_bad, ↓see_b, ↓now_b, ↓opt_omit, ↓opt_k, ↓see_k, ↓now_k, ↓see_v, ↓now_v, ↓opt_v, ↓see_tup, ↓now_tup, ↓opt_tup, ↓see_lst, ↓now_lst, ↓opt_lst, ↓see_dict, ↓now_dict, ↓opt_dict, ↓see_bin, ↓now_bin, ↓opt_bin, ↓see_cmp, ↓now_cmp, ↓opt_cmp, ↓see_chain, ↓now_chain, ↓opt_chain, ↓see_not, ↓now_not, ↓opt_not, ↓see_and, ↓now_and, ↓opt_and, ↓see_or, ↓now_or, ↓opt_or, ↓see_ite, ↓now_ite, ↓opt_ite, ↓see_idx, ↓now_idx, ↓opt_idx, ↓see_idxd, ↓now_idxd, ↓opt_idxd, ↓see_ind, ↓now_ind, ↓opt_ind, ↓see_idx2, ↓now_idx2, ↓opt_idx2, ↓see_any2, ↓now_any2, ↓opt_any2, ↓see_slice, ↓now_slice, ↓opt_slice, ↓see_call, ↓now_call, ↓opt_call, ↓see_b1, ↓now_b1, ↓opt_b1, ↓see_b2, ↓now_b2, ↓opt_b2, ↓see_b3, ↓now_b3, ↓opt_b3, ↓see_get, ↓now_get, ↓opt_get, ↓see_count, ↓now_count, ↓opt_count, ↓see_index, ↓now_index, ↓opt_index, ↓see_isa, ↓now_isa, ↓opt_isa, ↓see_isExc, ↓now_isExc, ↓opt_isExc, ↓see_mkExc, ↓now_mkExc, ↓opt_mkExc, ↓see_lc, ↓now_lc, ↓opt_lc, ↓see_lc2, ↓now_lc2, ↓opt_lc2, ↓see_gsum, ↓now_gsum, ↓opt_gsum, ↓see_gall, ↓now_gall, ↓opt_gall, ↓see_gall2, ↓now_gall2, ↓opt_gall2, ↓see_grid, ↓now_grid, ↓opt_grid, ↓see_empties, ↓now_empties, ↓opt_empties, ↓e_k, ↓e_v, ↓e_tup, ↓e_lst, ↓e_dict, ↓e_bin, ↓e_cmp, ↓e_chain, ↓e_not, ↓pbool, ↓e_and, ↓e_or, ↓e_ite, ↓e_idx, ↓e_idxd, ↓e_ind, ↓e_any2, ↓plst, ↓e_idx2, ↓e_slice, ↓e_call, ↓e_b1, ↓e_b2, ↓e_b3, ↓e_get, ↓e_count, ↓e_index, ↓e_isa, ↓e_isExc, ↓e_mkExc, ↓t_not, ↓t_and, ↓t_or, ↓t_of, ↓es_nil, ↓es_cons, ↓as_nil, ↓as_io, ↓as_tmp, ↓i_val, ↓pint, ↓i_range, ↓i_range2, ↓i_zip2, ↓i_zip3, ↓i_enum, ↓i_rev, ↓s_set, ↓s_ret, ↓s_retv, ↓s_retN, ↓s_raise, ↓s_brk, ↓s_cont, ↓s_pass, ↓s_ex, ↓s_ifs, ↓s_app, ↓s_ext, ↓s_put, ↓s_unpack, ↓s_par, ↓s_aug, ↓af_next, ↓af_ret, ↓af_brk, ↓af_cont, ↓ss_nil, ↓ss_cons, ↓b_n, ↓b_0n, ↓b_00, ↓b_01, ↓b_02, ↓bt_nm, ↓bt_tup, ↓bts_nil, ↓bts_cons, ↓bp_nil, ↓bp_cons, ↓as_k, ↓as_v, ↓as_tup, ↓as_lst, ↓as_dict, ↓as_bin, ↓as_cmp, ↓as_chain, ↓as_not, ↓as_and, ↓as_or, ↓as_ite, ↓as_idx, ↓as_idxd, ↓as_ind, ↓as_idx2, ↓as_any2, ↓as_slice, ↓as_call, ↓as_b1, ↓as_b2, ↓as_b3, ↓as_get, ↓as_count, ↓as_index, ↓as_isa, ↓as_isExc, ↓as_mkExc, ↓as_lc, ↓as_lc2, ↓as_gsum, ↓as_gall, ↓as_gall2, ↓as_grid, ↓as_empties, ↓fin_next, ↓fin_ret, ↓pc_, ↓pg_, ↓pl_, ↓fu_nil, ↓fu_cons, ↓tj_next, ↓tj_cont, ↓tj_brk, ↓tj_ret, ↓tc_next, ↓tc_cont, ↓tc_brk, ↓tc_ret, getS_0, getS_1, getS_2, getS_n, valS_0, valS_n, seeS_0, seeS_01, seeS_03, seeS_04, seeS_n, ownS_01l, ownS_03l, ownS_01d, ownS_03d, ownS_n, own2S_0, own2S_n, listOwn_01, listOwn_03, listOwn_n, putS_0, putS_n, letGo_nil, letGo_cons, lg1_n, lg1_0n, lg1_00, lg1_01, lg1_02, lg1_03, lg1_04, wipe_nil, wipe_cons, back_nil, back_cons, pl_nil, nt_nm, nt_tup, nts_nil, nts_cons, am_nil, am_lst, am_dct, out_nil, out_f, out_t, os_nil, os_io, os_tmp, os_k, os_v, os_tup, os_lst, os_dict, os_bin, os_cmp, os_chain, os_not, os_and, os_or, os_ite, os_idx, os_idxd, os_ind, os_idx2, os_any2, os_slice, os_call, os_b1, os_b2, os_b3, os_get, os_count, os_index, os_isa, os_isExc, os_mkExc, os_lc, os_lc2, os_gsum, os_gall, os_gall2, os_grid, os_empties, ty_int_non, ty_int_bool, ty_int_int, ty_int_str, ty_int_tup, ty_int_lst, ty_bool_non, ty_bool_bool, ty_bool_int, ty_bool_str, ty_bool_tup, ty_bool_lst, ty_tuple_non, ty_tuple_bool, ty_tuple_int, ty_tuple_str, ty_tuple_tup, ty_tuple_lst, ty_str_non, ty_str_bool, ty_str_int, ty_str_str, ty_str_tup, ty_str_lst, tb_bool, tr_non, tr_bool, tr_int, tr_str, tr_tup, tr_lst, toInt_int, bin_addi, bin_addt, bin_addl, bin_sub, bin_mul, bin_mult, bin_mull, bin_fdiv, bin_mod, bin_pow, cmp_eq, cmp_ne, cmp_lt, cmp_le, cmp_gt, cmp_ge, cmp_is, cmp_isNot, cmp_int, cmp_inl, cmp_nint, cmp_ninl, eq_ii, eq_ss, eq_bb, lt_ii, is_non_n, is_bool_n, is_int_n, is_str_n, is_tup_n, is_lst_n, ix_t, ix_l, sl_t, sl_l, it_t, it_l, it_s, b1_lent, b1_lenl, b1_int, b1_abs, b1_neg, b1_sum, b1_min, b1_max, b1_anyl, b1_anyt, b1_tupl, b1_tupt, b1_lstl, b1_lstt, b1_sortl, b1_sortt, b1_sortk, b1_repr, b1_strExc, b2_min, b2_max, ise_, out_e, now_, List.zipWith, List.replicate, List.cons_append, List.nil_append, List.append_nil, List.getElem?_cons_zero, List.getElem?_cons_succ, List.set_cons_zero, List.set_cons_succ, List.all_cons, List.all_nil, Bool.and_true, Bool.true_and, Bool.false_and, Bool.and_false, Bool.or_true, Bool.true_or, Bool.or_false, Bool.false_or, Bool.not_true, Bool.not_false, ↓reduceIte, if_true, if_false, Bool.false_eq_true, D.isMut, Nat.sub_self, Nat.reduceSub, Nat.reduceAdd, decide_true, decide_false, beq_self_eq_true, List.length_cons, List.length_nil, weq, reduceCtorEq, decide_eq_true_eq, Int.reduceLT, Int.reduceLE, Int.reduceEq, Int.reduceAdd, Int.reduceSub, Int.reduceNeg, Nat.reduceLT, Nat.reduceLeDiff, Int.cast_ofNat_Int, Nat.zero_add, Int.reduceToNat, and_true, true_and, and_false, false_and, not_true_eq_false, not_false_eq_true, isS_s, Bool.or_eq_true, Bool.and_eq_true, Bool.not_eq_true', decide_eq_false_iff_not, Bool.not_not, nbool_in, plainS, namesT, namesTs, intsR_map, inR_ints, nth0, nth1, nth2, nth3, slice1, beq_iff_eq, bne_iff_ne, ne_eq, or_true, true_or, or_false, false_or, intlit_beq, mkt0, mkt1, mkt2, mkt3, mkt4, mkt5, mkt6, mkt7, mkt8, mkt9, mkt10, mkt11, mkt12, mkt13, mkt14, mkt15, mkt16, mkt17, mkt18, mkt19, mkl0, mkl1, mkl2, mkl3, mkl4, mkl5, mkl6, mkl7, mkl8, mkl9, mkl10, mkl11, mkl12, mkl13, mkl14, mkl15, mkl16, mkl17, mkl18, mkl19, in1w, in2w, in3w, in4w, in5w, in6w, in7w, in8w, $ls,*])
section
variable {w : Nat}
theorem lis_kind_ok : ∀ {k m : Nat} {d : D} (hm : k + 2 ≤ m) (hk : k ≤ 5) (h : d.still = true), callN tbl w m 14 [d, .int (6 - k)] = .ok (.bool (isK k d), [])
  | 0, m + 1, d, hm, hk, h => by
    apply eq_of_w2
    refine go rfl rfl ?_
    simp_arith [isK, show (6 : Int) - (0 : Nat) = 6 from rfl]
  | k + 1, m + 1, d, hm, hk, h => by
    apply eq_of_w2
    refine go rfl rfl ?_
    have z : ¬ (5 : Int) < 6 - (k + 1 : Nat) := by omega
    obtain ⟨n, rfl⟩ : ∃ n, m = n + 1 := ⟨m - 1, by omega⟩
    cases d with
    | tup l =>
      match l, h with
      | [], h => simp_arith [z, isK, innerK]
      | [a], h => simp_arith [z, isK, innerK]
      | a :: b :: l, h =>
        have big : ¬ ((l.length + 1 + 1 : Nat) : Int) < 2 := by omega
        have b2 : (((l.length + 1 + 1 : Nat) : Int) = 2) = (l = []) := by cases l <;> simp <;> omega
        simp only [D.still, D.stills, Bool.and_eq_true] at h
        cases a with
        | str s =>
          have iw := lnumber_ok (w := w) (m := n + 1) (lo := 2) (hi := 1000) (by omega) h.2.1
          have e6 : (6 : Int) - (k + 1 : Nat) + 1 = 6 - (k : Nat) := by omega
          have ih : ∀ x, x.still = true → callN tbl w (n + 1) 14 [x, .int (6 - k)] = .ok (.bool (isK k x), []) := fun x hx => lis_kind_ok (by omega) (by omega) hx
          have hall : ∀ l2, D.stills l2 = true → l2.length ≤ 4 → ∀ {K : Kc2 D Env} {b : D} {it : E}, @PI (callN tbl w (n + 1)) (fun _ => False) (.val it) [some (b, 0), some (.int (6 - (k + 1 : Nat)), 0), none] ⟨fun xs ρ => xs = l2 ∧ ρ = [some (b, 0), some (.int (6 - (k + 1 : Nat)), 0), none]⟩ → itSlots (.val it) = [] → K.k (.lst (l2.map fun x => .bool (isK k x))) [some (b, 0), some (.int (6 - (k + 1 : Nat)), 0), none] → @PE (callN tbl w (n + 1)) (fun _ => False) (.lc (.nm 2) (.val it) (.of (.k (.bool true))) (.call 14 (.cons (.v 2) (.cons (.bin .add (.v 1) (.k (.int 1))) .nil)))) [some (b, 0), some (.int (6 - (k + 1 : Nat)), 0), none] K := by
            intro l2 hs hl K b it hi hi2 hK
            refine pe_map (fun x => .bool (isK k x)) hi2 (F.w2_mono hi (fun xs ρ ⟨a, c⟩ => ?_) (fun _ z => z))
            subst a c
            refine map_mk rfl (fun x hx => ?_) (by unfold maxLen; omega) hK
            simp_arith [e6, w2_eq (ih x (stills_mem.mp hs x hx))]
          simp_arith [z, big, w2_eq iw, b2, isT_of h.2.1, e6, w2_eq (ih b h.2.1)]
          refine ite_w (fun h1 => ?_) (fun h1 => ?_)
          · subst s; cases l <;> simp [isK, innerK]; cases isW b 2 1000 <;> simp
          refine ite_w (fun h2 => ?_) (fun h2 => ?_)
          · rcases h2 with rfl | rfl
            · cases l with
              | cons => simp [innerK, isK]
              | nil =>
                cases b <;> simp [innerK, isTv, isK]
                rename_i l2
                simp_arith [le_cast1, le_cast4]
                by_cases g1 : 1 ≤ l2.length <;> by_cases g2 : l2.length ≤ 4 <;> simp [g1, g2, isK, innerK]
                refine hall l2 h.2.1 g2 ?_ rfl ?_
                · simp_arith []
                · simp_arith []
                  simp [isK, innerK, g1, g2]
            · cases l with
              | cons => simp [innerK, isK]
              | nil =>
                cases b <;> simp [innerK, isTv, isK]
                rename_i l2
                simp_arith [le_cast2, le_cast4]
                by_cases g1 : 2 ≤ l2.length <;> by_cases g2 : l2.length ≤ 4 <;> simp [g1, g2, isK, innerK]
                refine hall l2 h.2.1 g2 ?_ rfl ?_
                · simp_arith []
                · simp_arith []
                  simp [isK, innerK, g1, g2]
          refine ite_w (fun h3 => ?_) (fun h3 => ?_)
          · subst s
            match l, h with
            | [], h => simp [innerK, isK]
            | [c], h =>
              simp only [D.stills, Bool.and_eq_true] at h
              simp_arith [e6, w2_eq (ih c h.2.2.1)]
              simp [isK, innerK]
              split <;> simp [*]
            | c :: c' :: l, h => simp [innerK, isK]; omega
          refine ite_w (fun h4 => ?_) (fun h4 => ?_)
          · rcases h4 with (rfl | rfl) | rfl <;> cases l <;> simp [innerK, isK]
          · simp only [not_or] at h2 h4
            simp only [isK]
            rw [innerK_other h1 h2.1 h2.2 h4.1.1 h4.1.2 h4.2 h3]
        | _ => simp only [D.still, Bool.false_eq_true, false_and] at h <;> simp_arith [z, isK, innerK, big]
    | _ => simp only [D.still, Bool.false_eq_true] at h <;> simp_arith [z, isK, innerK]
end
end Cg
set_option linter.all false
set_option maxRecDepth 100000
namespace Cg
open F
local macro_rules
  | `(tactic| simp_arith [$ls,*]) => `(tactic| try simp (config := { implicitDefEqProofs := false, maxSteps := 2000000 }) only [↓k_mk, ↓k_mk2, ↓w1_bind, ↓w2_bind, ↓w1_ite, ↓w2_ite, ↓w1_ok, ↓w1_exc, ↓w1_bad, ↓w2_ok, ↓w2_exc, ↓w2_bad, ↓see_b, ↓now_b, ↓opt_omit, ↓opt_k, ↓see_k, ↓now_k, ↓see_v, ↓now_v, ↓opt_v, ↓see_tup, ↓now_tup, ↓opt_tup, ↓see_lst, ↓now_lst, ↓opt_lst, ↓see_dict, ↓now_dict, ↓opt_dict, ↓see_bin, ↓now_bin, ↓opt_bin, ↓see_cmp, ↓now_cmp, ↓opt_cmp, ↓see_chain, ↓now_chain, ↓opt_chain, ↓see_not, ↓now_not, ↓opt_not, ↓see_and, ↓now_and, ↓opt_and, ↓see_or, ↓now_or, ↓opt_or, ↓see_ite, ↓now_ite, ↓opt_ite, ↓see_idx, ↓now_idx, ↓opt_idx, ↓see_idxd, ↓now_idxd, ↓opt_idxd, ↓see_ind, ↓now_ind, ↓opt_ind, ↓see_idx2, ↓now_idx2, ↓opt_idx2, ↓see_any2, ↓now_any2, ↓opt_any2, ↓see_slice, ↓now_slice, ↓opt_slice, ↓see_call, ↓now_call, ↓opt_call, ↓see_b1, ↓now_b1, ↓opt_b1, ↓see_b2, ↓now_b2, ↓opt_b2, ↓see_b3, ↓now_b3, ↓opt_b3, ↓see_get, ↓now_get, ↓opt_get, ↓see_count, ↓now_count, ↓opt_count, ↓see_index, ↓now_index, ↓opt_index, ↓see_isa, ↓now_isa, ↓opt_isa, ↓see_isExc, ↓now_isExc, ↓opt_isExc, ↓see_mkExc, ↓now_mkExc, ↓opt_mkExc, ↓see_lc, ↓now_lc, ↓opt_lc, ↓see_lc2, ↓now_lc2, ↓opt_lc2, ↓see_gsum, ↓now_gsum, ↓opt_gsum, ↓see_gall, ↓now_gall, ↓opt_gall, ↓see_gall2, ↓now_gall2, ↓opt_gall2, ↓see_grid, ↓now_grid, ↓opt_grid, ↓see_empties, ↓now_empties, ↓opt_empties, ↓e_k, ↓e_v, ↓e_tup, ↓e_lst, ↓e_dict, ↓e_bin, ↓e_cmp, ↓e_chain, ↓e_not, ↓pbool, ↓e_and, ↓e_or, ↓e_ite, ↓e_idx, ↓e_idxd, ↓e_ind, ↓e_any2, ↓plst, ↓e_idx2, ↓e_slice, ↓e_call, ↓e_b1, ↓e_b2, ↓e_b3, ↓e_get, ↓e_count, ↓e_index, ↓e_isa, ↓e_isExc, ↓e_mkExc, ↓t_not, ↓t_and, ↓t_or, ↓t_of, ↓es_nil, ↓es_cons, ↓as_nil, ↓as_io, ↓as_tmp, ↓i_val, ↓pint, ↓i_range, ↓i_range2, ↓i_zip2, ↓i_zip3, ↓i_enum, ↓i_rev, ↓s_set, ↓s_ret, ↓s_retv, ↓s_retN, ↓s_raise, ↓s_brk, ↓s_cont, ↓s_pass, ↓s_ex, ↓s_ifs, ↓s_app, ↓s_ext, ↓s_put, ↓s_unpack, ↓s_par, ↓s_aug, ↓af_next, ↓af_ret, ↓af_brk, ↓af_cont, ↓ss_nil, ↓ss_cons, ↓b_n, ↓b_0n, ↓b_00, ↓b_01, ↓b_02, ↓bt_nm, ↓bt_tup, ↓bts_nil, ↓bts_cons, ↓bp_nil, ↓bp_cons, ↓as_k, ↓as_v, ↓as_tup, ↓as_lst, ↓as_dict, ↓as_bin, ↓as_cmp, ↓as_chain, ↓as_not, ↓as_and, ↓as_or, ↓as_ite, ↓as_idx, ↓as_idxd, ↓as_ind, ↓as_idx2, ↓as_any2, ↓as_slice, ↓as_call, ↓as_b1, ↓as_b2, ↓as_b3, ↓as_get, ↓as_count, ↓as_index, ↓as_isa, ↓as_isExc, ↓as_mkExc, ↓as_lc, ↓as_lc2, ↓as_gsum, ↓as_gall, ↓as_gall2, ↓as_grid, ↓as_empties, ↓fin_next, ↓fin_ret, ↓pc_, ↓pg_, ↓pl_, ↓fu_nil, ↓fu_cons, ↓tj_next, ↓tj_cont, ↓tj_brk, ↓tj_ret, ↓tc_next, ↓tc_cont, ↓tc_brk, ↓tc_ret, getS_0, getS_1, getS_2, getS_n, valS_0, valS_n, seeS_0, seeS_01, seeS_03, seeS_04, seeS_n, ownS_01l, ownS_03l, ownS_01d, ownS_03d, ownS_n, own2S_0, own2S_n, listOwn_01, listOwn_03, listOwn_n, putS_0, putS_n, letGo_nil, letGo_cons, lg1_n, lg1_0n, lg1_00, lg1_01, lg1_02, lg1_03, lg1_04, wipe_nil, wipe_cons, back_nil, back_cons, pl_nil, nt_nm, nt_tup, nts_nil, nts_cons, am_nil, am_lst, am_dct, out_nil, out_f, out_t, os_nil, os_io, os_tmp, os_k, os_v, os_tup, os_lst, os_dict, os_bin, os_cmp, os_chain, os_not, os_and, os_or, os_ite, os_idx, os_idxd, os_ind, os_idx2, os_any2, os_slice, os_call, os_b1, os_b2, os_b3, os_get, os_count, os_index, os_isa, os_isExc, os_mkExc, os_lc, os_lc2, os_gsum, os_gall, os_gall2, os_grid, os_empties, ty_int_non, ty_int_bool, ty_int_int, ty_int_str, ty_int_tup, ty_int_lst, ty_bool_non, ty_bool_bool, ty_bool_int, ty_bool_str, ty_bool_tup, ty_bool_lst, ty_tuple_non, ty_tuple_bool, ty_tuple_int, ty_tuple_str, ty_tuple_tup, ty_tuple_lst, ty_str_non, ty_str_bool, ty_str_int, ty_str_str, ty_str_tup, ty_str_lst, tb_bool, tr_non, tr_bool, tr_int, tr_str, tr_tup, tr_lst, toInt_int, bin_addi, bin_addt, bin_addl, bin_sub, bin_mul, bin_mult, bin_mull, bin_fdiv, bin_mod, bin_pow, cmp_eq, cmp_ne, cmp_lt, cmp_le, cmp_gt, cmp_ge, cmp_is, cmp_isNot, cmp_int, cmp_inl, cmp_nint, cmp_ninl, eq_ii, eq_ss, eq_bb, lt_ii, is_non_n, is_bool_n, is_int_n, is_str_n, is_tup_n, is_lst_n, ix_t, ix_l, sl_t, sl_l, it_t, it_l, it_s, b1_lent, b1_lenl, b1_int, b1_abs, b1_neg, b1_sum, b1_min, b1_max, b1_anyl, b1_anyt, b1_tupl, b1_tupt, b1_lstl, b1_lstt, b1_sortl, b1_sortt, b1_sortk, b1_repr, b1_strExc, b2_min, b2_max, ise_, out_e, now_, List.zipWith, List.replicate, List.cons_append, List.nil_append, List.append_nil, List.getElem?_cons_zero, List.getElem?_cons_succ, List.set_cons_zero, List.set_cons_succ, List.all_cons, List.all_nil, Bool.and_true, Bool.true_and, Bool.false_and, Bool.and_false, Bool.or_true, Bool.true_or, Bool.or_false, Bool.false_or, Bool.not_true, Bool.not_false, ↓reduceIte, if_true, if_false, Bool.false_eq_true, D.isMut, Nat.sub_self, Nat.reduceSub, Nat.reduceAdd, decide_true, decide_false, beq_self_eq_true, List.length_cons, List.length_nil, weq, reduceCtorEq, decide_eq_true_eq, Int.reduceLT, Int.reduceLE, Int.reduceEq, Int.reduceAdd, Int.reduceSub, Int.reduceNeg, Nat.reduceLT, Nat.reduceLeDiff, Int.cast_ofNat_Int, Nat.zero_add, Int.reduceToNat, and_true, true_and, and_false, false_and, not_true_eq_false, not_false_eq_true, isS_s, Bool.or_eq_true, Bool.and_eq_true, Bool.not_eq_true', decide_eq_false_iff_not, Bool.not_not, nbool_in, plainS, namesT, namesTs, intsR_map, inR_ints, nth0, nth1, nth2, nth3, slice1, beq_iff_eq, bne_iff_ne, ne_eq, or_true, true_or, or_false, false_or, intlit_beq, mkt0, mkt1, mkt2, mkt3, mkt4, mkt5, mkt6, mkt7, mkt8, mkt9, mkt10, mkt11, mkt12, mkt13, mkt14, mkt15, mkt16, mkt17, mkt18, mkt19, mkl0, mkl1, mkl2, mkl3, mkl4, mkl5, mkl6, mkl7, mkl8, mkl9, mkl10, mkl11, mkl12, mkl13, mkl14, mkl15, mkl16, mkl17, mkl18, mkl19, in1w, in2w, in3w, in4w, in5w, in6w, in7w, in8w, $ls,*])
section
variable {w : Nat}
theorem innerK_cases {d : D} {l : List D} (h : innerK d = some l) : (∃ x, d = .tup [.str .number, x] ∧ isW x 2 1000 = true ∧ l = []) ∨ (d = .tup [.str .record, .tup l] ∧ 1 ≤ l.length ∧ l.length ≤ 4) ∨ (d = .tup [.str .choice, .tup l] ∧ 2 ≤ l.length ∧ l.length ≤ 4) ∨ (∃ x, d = .tup [.str .row, x] ∧ l = [x]) ∨ (∃ x, d = .tup [.str .set, x] ∧ l = [x]) ∨ (∃ x, d = .tup [.str .bag, x] ∧ l = [x]) ∨ (∃ x y, d = .tup [.str .table, x, y] ∧ l = [x, y]) := by
  unfold innerK at h
  split at h
  case h_1 => split at h <;> simp at h; subst h; simp [*]
  case h_2 => split at h <;> simp at h; subst h; simp [*]
  case h_3 => split at h <;> simp at h; subst h; simp [*]
  all_goals simp at h
  all_goals subst h; simp
theorem linner_ok {m : Nat} {d : D} {l : List D} (hm : 1 ≤ m) (h : innerK d = some l) : callN tbl w m 9 [d] = .ok (.lst l, []) := by
  obtain ⟨m, rfl⟩ : ∃ n, m = n + 1 := ⟨m - 1, by omega⟩
  apply eq_of_w2
  refine go rfl rfl ?_
  rcases innerK_cases h with ⟨x, rfl, _, rfl⟩ | ⟨rfl, _⟩ | ⟨rfl, _⟩ | ⟨x, rfl, rfl⟩ | ⟨x, rfl, rfl⟩ | ⟨x, rfl, rfl⟩ | ⟨x, y, rfl, rfl⟩ <;> simp_arith [eq_ss]
theorem lmany_ok : ∀ {k m : Nat} {d : D} (hm : k + 1 ≤ m) (h : isK k d = true), callN tbl w m 10 [d] = .ok (.int (manyK k d), [])
  | 0, m, d, hm, h => by simp [isK] at h
  | k + 1, 0, d, hm, h => by omega
  | k + 1, m + 1, d, hm, h => by
    apply eq_of_w2
    refine go rfl rfl ?_
    unfold isK at h
    cases hi : innerK d with
    | none => rw [hi] at h; simp at h
    | some l =>
      rw [hi] at h
      have hl : ∀ x, x ∈ l → isK k x = true := by simpa using h
      simp_arith []
      refine pe_map (fun x => .int (manyK k x)) rfl ?_
      simp_arith [w2_eq (linner_ok (w := w) (m := m) (by omega) hi)]
      refine map_mk rfl (fun x hx => ?_) ?_ ?_
      · simp_arith [w2_eq (lmany_ok (k := k) (m := m) (by omega) (hl x hx))]
      · have := innerK_len hi
        unfold maxLen; omega
      · simp_arith []
        simp [manyK, hi]
theorem lis_right_ok {m : Nat} {d : D} (hm : 8 ≤ m) (h : d.still = true) : callN tbl w m 17 [d] = .ok (.bool (kindOk d), []) := by
  obtain ⟨m, rfl⟩ : ∃ n, m = n + 1 := ⟨m - 1, by omega⟩
  apply eq_of_w2
  refine go rfl rfl ?_
  have a : callN tbl w m 14 [d, .int 1] = _ := lis_kind_ok (w := w) (k := 5) (m := m) (by omega) (by omega) h
  rw [kindOk_eq]
  cases hk : isK 5 d with
  | false => rw [hk] at a; simp_arith [w2_eq a]
  | true =>
    rw [hk] at a
    simp_arith [w2_eq a, w2_eq (lmany_ok (w := w) (m := m) (by omega) hk)]
def clW : Nat → W
  | 1 => .kind
  | 2 => .value
  | 3 => .patch
  | _ => .unfit
theorem lclass_ok {m c : Nat} (hm : 1 ≤ m) (h1 : 1 ≤ c) (h2 : c ≤ 4) : callN tbl w m 12 [.exc c] = .ok (.str (clW c), []) := by
  obtain ⟨m, rfl⟩ : ∃ n, m = n + 1 := ⟨m - 1, by omega⟩
  match c, h1, h2 with
  | 1, _, _ => rfl
  | 2, _, _ => rfl
  | 3, _, _ => rfl
  | 4, _, _ => rfl
theorem ltold_ok {m : Nat} {d : D} (hm : 11 ≤ m) (h : d.still = true) : callN tbl w m 16 [d] = .ok (.str (if kindOk d = true then .let_ else .kind), []) := by
  obtain ⟨m, rfl⟩ : ∃ n, m = n + 1 := ⟨m - 1, by omega⟩
  apply eq_of_w2
  refine go rfl rfl ?_
  simp_arith []
  refine ps_try clW ?_
  cases hk : kindOk d with
  | true =>
    simp_arith [w2_eq (check_kind_ok (w := w) (m := m) (by omega) h hk)]
  | false =>
    simp_arith [w2_eqx (check_kind_bad (w := w) (m := m) (by omega) h hk), lclass_ok (w := w) (m := m) (c := 1) (by omega) (by omega) (by omega), clW]
end
end Cg
set_option linter.all false
set_option maxRecDepth 100000
namespace Cg
open F
local macro_rules
  | `(tactic| simp_arith [$ls,*]) => `(tactic| try simp (config := { implicitDefEqProofs := false, maxSteps := 2000000 }) only [↓k_mk, ↓k_mk2, ↓w1_bind, ↓w2_bind, ↓w1_ite, ↓w2_ite, ↓w1_ok, ↓w1_exc, ↓w1_bad, ↓w2_ok, ↓w2_exc, ↓w2_bad, ↓see_b, ↓now_b, ↓opt_omit, ↓opt_k, ↓see_k, ↓now_k, ↓see_v, ↓now_v, ↓opt_v, ↓see_tup, ↓now_tup, ↓opt_tup, ↓see_lst, ↓now_lst, ↓opt_lst, ↓see_dict, ↓now_dict, ↓opt_dict, ↓see_bin, ↓now_bin, ↓opt_bin, ↓see_cmp, ↓now_cmp, ↓opt_cmp, ↓see_chain, ↓now_chain, ↓opt_chain, ↓see_not, ↓now_not, ↓opt_not, ↓see_and, ↓now_and, ↓opt_and, ↓see_or, ↓now_or, ↓opt_or, ↓see_ite, ↓now_ite, ↓opt_ite, ↓see_idx, ↓now_idx, ↓opt_idx, ↓see_idxd, ↓now_idxd, ↓opt_idxd, ↓see_ind, ↓now_ind, ↓opt_ind, ↓see_idx2, ↓now_idx2, ↓opt_idx2, ↓see_any2, ↓now_any2, ↓opt_any2, ↓see_slice, ↓now_slice, ↓opt_slice, ↓see_call, ↓now_call, ↓opt_call, ↓see_b1, ↓now_b1, ↓opt_b1, ↓see_b2, ↓now_b2, ↓opt_b2, ↓see_b3, ↓now_b3, ↓opt_b3, ↓see_get, ↓now_get, ↓opt_get, ↓see_count, ↓now_count, ↓opt_count, ↓see_index, ↓now_index, ↓opt_index, ↓see_isa, ↓now_isa, ↓opt_isa, ↓see_isExc, ↓now_isExc, ↓opt_isExc, ↓see_mkExc, ↓now_mkExc, ↓opt_mkExc, ↓see_lc, ↓now_lc, ↓opt_lc, ↓see_lc2, ↓now_lc2, ↓opt_lc2, ↓see_gsum, ↓now_gsum, ↓opt_gsum, ↓see_gall, ↓now_gall, ↓opt_gall, ↓see_gall2, ↓now_gall2, ↓opt_gall2, ↓see_grid, ↓now_grid, ↓opt_grid, ↓see_empties, ↓now_empties, ↓opt_empties, ↓e_k, ↓e_v, ↓e_tup, ↓e_lst, ↓e_dict, ↓e_bin, ↓e_cmp, ↓e_chain, ↓e_not, ↓pbool, ↓e_and, ↓e_or, ↓e_ite, ↓e_idx, ↓e_idxd, ↓e_ind, ↓e_any2, ↓plst, ↓e_idx2, ↓e_slice, ↓e_call, ↓e_b1, ↓e_b2, ↓e_b3, ↓e_get, ↓e_count, ↓e_index, ↓e_isa, ↓e_isExc, ↓e_mkExc, ↓t_not, ↓t_and, ↓t_or, ↓t_of, ↓es_nil, ↓es_cons, ↓as_nil, ↓as_io, ↓as_tmp, ↓i_val, ↓pint, ↓i_range, ↓i_range2, ↓i_zip2, ↓i_zip3, ↓i_enum, ↓i_rev, ↓s_set, ↓s_ret, ↓s_retv, ↓s_retN, ↓s_raise, ↓s_brk, ↓s_cont, ↓s_pass, ↓s_ex, ↓s_ifs, ↓s_app, ↓s_ext, ↓s_put, ↓s_unpack, ↓s_par, ↓s_aug, ↓af_next, ↓af_ret, ↓af_brk, ↓af_cont, ↓ss_nil, ↓ss_cons, ↓b_n, ↓b_0n, ↓b_00, ↓b_01, ↓b_02, ↓bt_nm, ↓bt_tup, ↓bts_nil, ↓bts_cons, ↓bp_nil, ↓bp_cons, ↓as_k, ↓as_v, ↓as_tup, ↓as_lst, ↓as_dict, ↓as_bin, ↓as_cmp, ↓as_chain, ↓as_not, ↓as_and, ↓as_or, ↓as_ite, ↓as_idx, ↓as_idxd, ↓as_ind, ↓as_idx2, ↓as_any2, ↓as_slice, ↓as_call, ↓as_b1, ↓as_b2, ↓as_b3, ↓as_get, ↓as_count, ↓as_index, ↓as_isa, ↓as_isExc, ↓as_mkExc, ↓as_lc, ↓as_lc2, ↓as_gsum, ↓as_gall, ↓as_gall2, ↓as_grid, ↓as_empties, ↓fin_next, ↓fin_ret, ↓pc_, ↓pg_, ↓pl_, ↓fu_nil, ↓fu_cons, ↓tj_next, ↓tj_cont, ↓tj_brk, ↓tj_ret, ↓tc_next, ↓tc_cont, ↓tc_brk, ↓tc_ret, getS_0, getS_1, getS_2, getS_n, valS_0, valS_n, seeS_0, seeS_01, seeS_03, seeS_04, seeS_n, ownS_01l, ownS_03l, ownS_01d, ownS_03d, ownS_n, own2S_0, own2S_n, listOwn_01, listOwn_03, listOwn_n, putS_0, putS_n, letGo_nil, letGo_cons, lg1_n, lg1_0n, lg1_00, lg1_01, lg1_02, lg1_03, lg1_04, wipe_nil, wipe_cons, back_nil, back_cons, pl_nil, nt_nm, nt_tup, nts_nil, nts_cons, am_nil, am_lst, am_dct, out_nil, out_f, out_t, os_nil, os_io, os_tmp, os_k, os_v, os_tup, os_lst, os_dict, os_bin, os_cmp, os_chain, os_not, os_and, os_or, os_ite, os_idx, os_idxd, os_ind, os_idx2, os_any2, os_slice, os_call, os_b1, os_b2, os_b3, os_get, os_count, os_index, os_isa, os_isExc, os_mkExc, os_lc, os_lc2, os_gsum, os_gall, os_gall2, os_grid, os_empties, ty_int_non, ty_int_bool, ty_int_int, ty_int_str, ty_int_tup, ty_int_lst, ty_bool_non, ty_bool_bool, ty_bool_int, ty_bool_str, ty_bool_tup, ty_bool_lst, ty_tuple_non, ty_tuple_bool, ty_tuple_int, ty_tuple_str, ty_tuple_tup, ty_tuple_lst, ty_str_non, ty_str_bool, ty_str_int, ty_str_str, ty_str_tup, ty_str_lst, tb_bool, tr_non, tr_bool, tr_int, tr_str, tr_tup, tr_lst, toInt_int, bin_addi, bin_addt, bin_addl, bin_sub, bin_mul, bin_mult, bin_mull, bin_fdiv, bin_mod, bin_pow, cmp_eq, cmp_ne, cmp_lt, cmp_le, cmp_gt, cmp_ge, cmp_is, cmp_isNot, cmp_int, cmp_inl, cmp_nint, cmp_ninl, eq_ii, eq_ss, eq_bb, lt_ii, is_non_n, is_bool_n, is_int_n, is_str_n, is_tup_n, is_lst_n, ix_t, ix_l, sl_t, sl_l, it_t, it_l, it_s, b1_lent, b1_lenl, b1_int, b1_abs, b1_neg, b1_sum, b1_min, b1_max, b1_anyl, b1_anyt, b1_tupl, b1_tupt, b1_lstl, b1_lstt, b1_sortl, b1_sortt, b1_sortk, b1_repr, b1_strExc, b2_min, b2_max, ise_, out_e, now_, List.zipWith, List.replicate, List.cons_append, List.nil_append, List.append_nil, List.getElem?_cons_zero, List.getElem?_cons_succ, List.set_cons_zero, List.set_cons_succ, List.all_cons, List.all_nil, Bool.and_true, Bool.true_and, Bool.false_and, Bool.and_false, Bool.or_true, Bool.true_or, Bool.or_false, Bool.false_or, Bool.not_true, Bool.not_false, ↓reduceIte, if_true, if_false, Bool.false_eq_true, D.isMut, Nat.sub_self, Nat.reduceSub, Nat.reduceAdd, decide_true, decide_false, beq_self_eq_true, List.length_cons, List.length_nil, weq, reduceCtorEq, decide_eq_true_eq, Int.reduceLT, Int.reduceLE, Int.reduceEq, Int.reduceAdd, Int.reduceSub, Int.reduceNeg, Nat.reduceLT, Nat.reduceLeDiff, Int.cast_ofNat_Int, Nat.zero_add, Int.reduceToNat, and_true, true_and, and_false, false_and, not_true_eq_false, not_false_eq_true, isS_s, Bool.or_eq_true, Bool.and_eq_true, Bool.not_eq_true', decide_eq_false_iff_not, Bool.not_not, nbool_in, plainS, namesT, namesTs, intsR_map, inR_ints, nth0, nth1, nth2, nth3, slice1, beq_iff_eq, bne_iff_ne, ne_eq, or_true, true_or, or_false, false_or, intlit_beq, mkt0, mkt1, mkt2, mkt3, mkt4, mkt5, mkt6, mkt7, mkt8, mkt9, mkt10, mkt11, mkt12, mkt13, mkt14, mkt15, mkt16, mkt17, mkt18, mkt19, mkl0, mkl1, mkl2, mkl3, mkl4, mkl5, mkl6, mkl7, mkl8, mkl9, mkl10, mkl11, mkl12, mkl13, mkl14, mkl15, mkl16, mkl17, mkl18, mkl19, in1w, in2w, in3w, in4w, in5w, in6w, in7w, in8w, $ls,*])
section
variable {w : Nat} {X : Nat → Prop}
/-- where a script is read -/
def IsBox (b : D) : Prop := ∃ (a s c : Int) (l : List Int), b = .lst [.int a, .int s, .int c, .lst (l.map .int)] ∧ 0 ≤ c
theorem p1018 : binR .pow (.int 10) (.int 18) = .ok (.int 1000000000000000000) := rfl
theorem sm1 {a : Int} : smallMul a 48271 = true := by unfold smallMul; rw [Bool.or_eq_true]; right; rfl
theorem sm2 {a : Int} : smallMul 69621 a = true := by unfold smallMul; rw [Bool.or_eq_true]; left; rfl
theorem nth_ints {l : List Int} {c : Int} (h0 : 0 ≤ c) (h : c < l.length) : ∃ v, nthR (l.map .int) c = .ok (.int v) := by
  obtain ⟨k, rfl⟩ := Int.eq_ofNat_of_zero_le h0
  have hk : k < l.length := by omega
  refine ⟨l[k], ?_⟩
  rw [nthR_nat (by rw [List.length_map]; exact hk)]
  simp
theorem set0 {a b : D} {l : List D} : setNth (a :: l) 0 b = .ok (b :: l) := by
  have : place (a :: l).length 0 = some 0 := by unfold place; simp
  unfold setNth; rw [this]; rfl
theorem set1 {a a1 b : D} {l : List D} : setNth (a :: a1 :: l) 1 b = .ok (a :: b :: l) := by
  have : place (a :: a1 :: l).length 1 = some 1 := by unfold place; simp; omega
  unfold setNth; rw [this]; rfl
theorem set2 {a a1 a2 b : D} {l : List D} : setNth (a :: a1 :: a2 :: l) 2 b = .ok (a :: a1 :: b :: l) := by
  have : place (a :: a1 :: a2 :: l).length 2 = some 2 := by unfold place; simp; omega
  unfold setNth; rw [this]; rfl
theorem lbox_ok {m : Nat} {ns : List Int} (hm : 1 ≤ m) (hl : ns.length ≤ 63) : @W2 _ _ (callN tbl w m 5 [.scr ns]) ⟨fun d o => IsBox d ∧ o = []⟩ X := by
  obtain ⟨m, rfl⟩ : ∃ n, m = n + 1 := ⟨m - 1, by omega⟩
  refine go rfl rfl ?_
  simp_arith []
  refine pe_map (fun x => match x with | .int i => .int (if i < 0 then -i else i) | d => d) rfl ?_
  simp_arith []
  refine map_mk rfl (fun x hx => ?_) ?_ ?_
  · obtain ⟨i, _, rfl⟩ := List.mem_map.mp hx
    simp_arith []
  · rw [List.length_map]; unfold maxLen; omega
  · simp_arith []
    refine ⟨0, 0, 0, ns.map fun i => if i < 0 then -i else i, ?_, by omega⟩
    simp [Function.comp_def]
theorem x18_ : (10 : Int) ^ 18 = 1000000000000000000 := by decide
theorem nx_ : Int.natAbs 10 < 2 ^ 64 := by decide
theorem take_ok {m : Nat} {b : D} {k : Int} (hm : 1 ≤ m) (hb : IsBox b) (h0 : 0 < k) (h1 : k < 1073741824) : @W2 _ _ (callN tbl w m 6 [b, .int k]) ⟨fun d o => ∃ r b', d = .int r ∧ o = [b'] ∧ 0 ≤ r ∧ r < k ∧ IsBox b'⟩ X := by
  obtain ⟨m, rfl⟩ : ∃ n, m = n + 1 := ⟨m - 1, by omega⟩
  obtain ⟨a, s, c, l, rfl, hc⟩ := hb
  refine go rfl rfl ?_
  have fin : ∀ {e a s c : Int}, 0 ≤ c → ∃ r b', D.int (e % k) = .int r ∧ [D.lst [.int a, .int s, .int c, .lst (l.map .int)]] = [b'] ∧ 0 ≤ r ∧ r < k ∧ IsBox b' := fun {e a s c} hc => ⟨_, _, rfl, rfl, Int.emod_nonneg _ (by omega), Int.emod_lt_of_pos _ h0, _, _, _, _, rfl, hc⟩
  have cc : 0 ≤ c + 1 := by omega
  by_cases hs : s = 0
  · subst hs
    by_cases hcl : c < l.length
    · obtain ⟨v, hv⟩ := nth_ints hc hcl
      simp_arith [sm1, sm2, set0, set1, set2, x18_, nx_, hv, List.length_map, hcl, h0, h1]
      repeat' split
      all_goals first | exact fin cc | skip
    · simp_arith [sm1, sm2, set0, set1, set2, List.length_map, hcl, h0, h1]
      exact ⟨_, _, rfl, rfl, by omega, h0, _, _, _, _, rfl, cc⟩
  · simp_arith [sm1, sm2, set0, set1, set2, hs, h0, h1]
    repeat' split
    all_goals first | exact fin hc | skip
end
end Cg
set_option linter.all false
set_option maxRecDepth 100000
namespace Cg
open F
local macro_rules
  | `(tactic| simp_arith [$ls,*]) => `(tactic| try simp (config := { implicitDefEqProofs := false, maxSteps := 2000000 }) only [↓k_mk, ↓k_mk2, ↓w1_bind, ↓w2_bind, ↓w1_ite, ↓w2_ite, ↓w1_ok, ↓w1_exc, ↓w1_bad, ↓w2_ok, ↓w2_exc, ↓w2_bad, ↓see_b, ↓now_b, ↓opt_omit, ↓opt_k, ↓see_k, ↓now_k, ↓see_v, ↓now_v, ↓opt_v, ↓see_tup, ↓now_tup, ↓opt_tup, ↓see_lst, ↓now_lst, ↓opt_lst, ↓see_dict, ↓now_dict, ↓opt_dict, ↓see_bin, ↓now_bin, ↓opt_bin, ↓see_cmp, ↓now_cmp, ↓opt_cmp, ↓see_chain, ↓now_chain, ↓opt_chain, ↓see_not, ↓now_not, ↓opt_not, ↓see_and, ↓now_and, ↓opt_and, ↓see_or, ↓now_or, ↓opt_or, ↓see_ite, ↓now_ite, ↓opt_ite, ↓see_idx, ↓now_idx, ↓opt_idx, ↓see_idxd, ↓now_idxd, ↓opt_idxd, ↓see_ind, ↓now_ind, ↓opt_ind, ↓see_idx2, ↓now_idx2, ↓opt_idx2, ↓see_any2, ↓now_any2, ↓opt_any2, ↓see_slice, ↓now_slice, ↓opt_slice, ↓see_call, ↓now_call, ↓opt_call, ↓see_b1, ↓now_b1, ↓opt_b1, ↓see_b2, ↓now_b2, ↓opt_b2, ↓see_b3, ↓now_b3, ↓opt_b3, ↓see_get, ↓now_get, ↓opt_get, ↓see_count, ↓now_count, ↓opt_count, ↓see_index, ↓now_index, ↓opt_index, ↓see_isa, ↓now_isa, ↓opt_isa, ↓see_isExc, ↓now_isExc, ↓opt_isExc, ↓see_mkExc, ↓now_mkExc, ↓opt_mkExc, ↓see_lc, ↓now_lc, ↓opt_lc, ↓see_lc2, ↓now_lc2, ↓opt_lc2, ↓see_gsum, ↓now_gsum, ↓opt_gsum, ↓see_gall, ↓now_gall, ↓opt_gall, ↓see_gall2, ↓now_gall2, ↓opt_gall2, ↓see_grid, ↓now_grid, ↓opt_grid, ↓see_empties, ↓now_empties, ↓opt_empties, ↓e_k, ↓e_v, ↓e_tup, ↓e_lst, ↓e_dict, ↓e_bin, ↓e_cmp, ↓e_chain, ↓e_not, ↓pbool, ↓e_and, ↓e_or, ↓e_ite, ↓e_idx, ↓e_idxd, ↓e_ind, ↓e_any2, ↓plst, ↓e_idx2, ↓e_slice, ↓e_call, ↓e_b1, ↓e_b2, ↓e_b3, ↓e_get, ↓e_count, ↓e_index, ↓e_isa, ↓e_isExc, ↓e_mkExc, ↓t_not, ↓t_and, ↓t_or, ↓t_of, ↓es_nil, ↓es_cons, ↓as_nil, ↓as_io, ↓as_tmp, ↓i_val, ↓pint, ↓i_range, ↓i_range2, ↓i_zip2, ↓i_zip3, ↓i_enum, ↓i_rev, ↓s_set, ↓s_ret, ↓s_retv, ↓s_retN, ↓s_raise, ↓s_brk, ↓s_cont, ↓s_pass, ↓s_ex, ↓s_ifs, ↓s_app, ↓s_ext, ↓s_put, ↓s_unpack, ↓s_par, ↓s_aug, ↓af_next, ↓af_ret, ↓af_brk, ↓af_cont, ↓ss_nil, ↓ss_cons, ↓b_n, ↓b_0n, ↓b_00, ↓b_01, ↓b_02, ↓bt_nm, ↓bt_tup, ↓bts_nil, ↓bts_cons, ↓bp_nil, ↓bp_cons, ↓as_k, ↓as_v, ↓as_tup, ↓as_lst, ↓as_dict, ↓as_bin, ↓as_cmp, ↓as_chain, ↓as_not, ↓as_and, ↓as_or, ↓as_ite, ↓as_idx, ↓as_idxd, ↓as_ind, ↓as_idx2, ↓as_any2, ↓as_slice, ↓as_call, ↓as_b1, ↓as_b2, ↓as_b3, ↓as_get, ↓as_count, ↓as_index, ↓as_isa, ↓as_isExc, ↓as_mkExc, ↓as_lc, ↓as_lc2, ↓as_gsum, ↓as_gall, ↓as_gall2, ↓as_grid, ↓as_empties, ↓fin_next, ↓fin_ret, ↓pc_, ↓pg_, ↓pl_, ↓fu_nil, ↓fu_cons, ↓tj_next, ↓tj_cont, ↓tj_brk, ↓tj_ret, ↓tc_next, ↓tc_cont, ↓tc_brk, ↓tc_ret, getS_0, getS_1, getS_2, getS_n, valS_0, valS_n, seeS_0, seeS_01, seeS_03, seeS_04, seeS_n, ownS_01l, ownS_03l, ownS_01d, ownS_03d, ownS_n, own2S_0, own2S_n, listOwn_01, listOwn_03, listOwn_n, putS_0, putS_n, letGo_nil, letGo_cons, lg1_n, lg1_0n, lg1_00, lg1_01, lg1_02, lg1_03, lg1_04, wipe_nil, wipe_cons, back_nil, back_cons, pl_nil, nt_nm, nt_tup, nts_nil, nts_cons, am_nil, am_lst, am_dct, out_nil, out_f, out_t, os_nil, os_io, os_tmp, os_k, os_v, os_tup, os_lst, os_dict, os_bin, os_cmp, os_chain, os_not, os_and, os_or, os_ite, os_idx, os_idxd, os_ind, os_idx2, os_any2, os_slice, os_call, os_b1, os_b2, os_b3, os_get, os_count, os_index, os_isa, os_isExc, os_mkExc, os_lc, os_lc2, os_gsum, os_gall, os_gall2, os_grid, os_empties, ty_int_non, ty_int_bool, ty_int_int, ty_int_str, ty_int_tup, ty_int_lst, ty_bool_non, ty_bool_bool, ty_bool_int, ty_bool_str, ty_bool_tup, ty_bool_lst, ty_tuple_non, ty_tuple_bool, ty_tuple_int, ty_tuple_str, ty_tuple_tup, ty_tuple_lst, ty_str_non, ty_str_bool, ty_str_int, ty_str_str, ty_str_tup, ty_str_lst, tb_bool, tr_non, tr_bool, tr_int, tr_str, tr_tup, tr_lst, toInt_int, bin_addi, bin_addt, bin_addl, bin_sub, bin_mul, bin_mult, bin_mull, bin_fdiv, bin_mod, bin_pow, cmp_eq, cmp_ne, cmp_lt, cmp_le, cmp_gt, cmp_ge, cmp_is, cmp_isNot, cmp_int, cmp_inl, cmp_nint, cmp_ninl, eq_ii, eq_ss, eq_bb, lt_ii, is_non_n, is_bool_n, is_int_n, is_str_n, is_tup_n, is_lst_n, ix_t, ix_l, sl_t, sl_l, it_t, it_l, it_s, b1_lent, b1_lenl, b1_int, b1_abs, b1_neg, b1_sum, b1_min, b1_max, b1_anyl, b1_anyt, b1_tupl, b1_tupt, b1_lstl, b1_lstt, b1_sortl, b1_sortt, b1_sortk, b1_repr, b1_strExc, b2_min, b2_max, ise_, out_e, now_, List.zipWith, List.replicate, List.cons_append, List.nil_append, List.append_nil, List.getElem?_cons_zero, List.getElem?_cons_succ, List.set_cons_zero, List.set_cons_succ, List.all_cons, List.all_nil, Bool.and_true, Bool.true_and, Bool.false_and, Bool.and_false, Bool.or_true, Bool.true_or, Bool.or_false, Bool.false_or, Bool.not_true, Bool.not_false, ↓reduceIte, if_true, if_false, Bool.false_eq_true, D.isMut, Nat.sub_self, Nat.reduceSub, Nat.reduceAdd, decide_true, decide_false, beq_self_eq_true, List.length_cons, List.length_nil, weq, reduceCtorEq, decide_eq_true_eq, Int.reduceLT, Int.reduceLE, Int.reduceEq, Int.reduceAdd, Int.reduceSub, Int.reduceNeg, Nat.reduceLT, Nat.reduceLeDiff, Int.cast_ofNat_Int, Nat.zero_add, Int.reduceToNat, and_true, true_and, and_false, false_and, not_true_eq_false, not_false_eq_true, isS_s, Bool.or_eq_true, Bool.and_eq_true, Bool.not_eq_true', decide_eq_false_iff_not, Bool.not_not, nbool_in, plainS, namesT, namesTs, intsR_map, inR_ints, nth0, nth1, nth2, nth3, slice1, beq_iff_eq, bne_iff_ne, ne_eq, or_true, true_or, or_false, false_or, intlit_beq, mkt0, mkt1, mkt2, mkt3, mkt4, mkt5, mkt6, mkt7, mkt8, mkt9, mkt10, mkt11, mkt12, mkt13, mkt14, mkt15, mkt16, mkt17, mkt18, mkt19, mkl0, mkl1, mkl2, mkl3, mkl4, mkl5, mkl6, mkl7, mkl8, mkl9, mkl10, mkl11, mkl12, mkl13, mkl14, mkl15, mkl16, mkl17, mkl18, mkl19, in1w, in2w, in3w, in4w, in5w, in6w, in7w, in8w, $ls,*])
section
variable {w : Nat} {X : Nat → Prop}
/-- what a draw hands back -/
def Drew (P : D → Prop) (d : D) (o : List D) : Prop := P d ∧ ∃ b', o = [b'] ∧ IsBox b'
theorem box_own {b : D} {ρ : Env} (hb : IsBox b) : ownS (some (b, 3) :: ρ) 0 = .ok b := by
  obtain ⟨a, s, c, l, rfl, hc⟩ := hb; rfl
theorem box_own1 {b : D} {ρ : Env} (hb : IsBox b) : ownS (some (b, 1) :: ρ) 0 = .ok b := by
  obtain ⟨a, s, c, l, rfl, hc⟩ := hb; rfl
theorem box_am {b : D} {r : List D} (hb : IsBox b) : AM (b :: r) = AM r := by
  obtain ⟨a, s, c, l, rfl, hc⟩ := hb; rfl
theorem pickl_ok {m : Nat} {b : D} {l : List D} (hm : 2 ≤ m) (hb : IsBox b) (h0 : 0 < l.length) (h1 : l.length < 1073741824) : @W2 _ _ (callN tbl w m 7 [b, .lst l]) ⟨Drew fun d => d ∈ l⟩ X := by
  obtain ⟨m, rfl⟩ : ∃ n, m = n + 1 := ⟨m - 1, by omega⟩
  refine go rfl rfl ?_
  simp_arith [box_own hb]
  refine w2_mono (take_ok (X := X) (w := w) (m := m) (k := l.length) (by omega) hb (by omega) (by omega)) ?_ (fun _ z => z)
  rintro _ _ ⟨r, b', rfl, rfl, z0, z1, hb'⟩
  obtain ⟨k, rfl⟩ := Int.eq_ofNat_of_zero_le z0
  have hk : k < l.length := by omega
  simp_arith [nthR_nat hk, box_am hb']
  exact ⟨List.getElem_mem hk, _, rfl, hb'⟩
theorem isK_still : ∀ {k : Nat} {d : D}, isK k d = true → d.still = true
  | 0, d, h => by simp [isK] at h
  | k + 1, d, h => by
    unfold isK at h
    cases hi : innerK d with
    | none => rw [hi] at h; simp at h
    | some l =>
      rw [hi] at h
      have hl : ∀ x, x ∈ l → x.still = true := fun x hx => isK_still (by simpa using (List.all_eq_true.mp h) x hx)
      rcases innerK_cases hi with ⟨x, rfl, hw, rfl⟩ | ⟨rfl, _⟩ | ⟨rfl, _⟩ | ⟨x, rfl, rfl⟩ | ⟨x, rfl, rfl⟩ | ⟨x, rfl, rfl⟩ | ⟨x, y, rfl, rfl⟩
      · cases x <;> simp [isW] at hw; rfl
      · have := stills_mem.mpr hl; simp [D.still, D.stills, this]
      · have := stills_mem.mpr hl; simp [D.still, D.stills, this]
      all_goals simp [D.still, D.stills, hl]
theorem isK_mono : ∀ {k j : Nat} {d : D}, k ≤ j → isK k d = true → isK j d = true
  | 0, j, d, hj, h => by simp [isK] at h
  | k + 1, 0, d, hj, h => by omega
  | k + 1, j + 1, d, hj, h => by
    unfold isK at h ⊢
    cases hi : innerK d with
    | none => rw [hi] at h; simp at h
    | some l =>
      rw [hi] at h
      refine List.all_eq_true.mpr fun x hx => isK_mono (by omega) ((List.all_eq_true.mp h) x hx)
theorem isK_row {n : Nat} {x : D} : isK (n + 1) (.tup [.str .row, x]) = isK n x := by
  show (List.all [x] (isK n)) = _
  simp
theorem isK_set {n : Nat} {x : D} : isK (n + 1) (.tup [.str .set, x]) = isK n x := by
  show (List.all [x] (isK n)) = _
  simp
theorem isK_bag {n : Nat} {x : D} : isK (n + 1) (.tup [.str .bag, x]) = isK n x := by
  show (List.all [x] (isK n)) = _
  simp
theorem isK_table {n : Nat} {x y : D} : isK (n + 1) (.tup [.str .table, x, y]) = (isK n x && isK n y) := by
  show (List.all [x, y] (isK n)) = _
  simp
theorem isK_record {n : Nat} {l : List D} (h : 1 ≤ l.length ∧ l.length ≤ 4) : isK (n + 1) (.tup [.str .record, .tup l]) = l.all (isK n) := by
  show (match (if 1 ≤ l.length ∧ l.length ≤ 4 then some l else none) with | none => false | some l => List.all l (isK n)) = _
  rw [if_pos h]
theorem isK_choice {n : Nat} {l : List D} (h : 2 ≤ l.length ∧ l.length ≤ 4) : isK (n + 1) (.tup [.str .choice, .tup l]) = l.all (isK n) := by
  show (match (if 2 ≤ l.length ∧ l.length ≤ 4 then some l else none) with | none => false | some l => List.all l (isK n)) = _
  rw [if_pos h]
theorem rangeL_len {n : Nat} : (rangeL 0 n).length = n := by
  unfold rangeL; simp
theorem kind_ok : ∀ {k m : Nat} {b : D} (hm : k + 3 ≤ m) (hb : IsBox b), @W2 _ _ (callN tbl w m 8 [b, .int k]) ⟨Drew fun d => isK (max k 1) d = true⟩ (fun _ => False)
  | k, 0, b, hm, hb => by omega
  | k, m + 1, b, hm, hb => by
    refine go rfl rfl ?_
    simp_arith [box_own hb]
    refine w2_mono (take_ok (w := w) (m := m) (by omega) hb (by omega) (by omega)) ?_ (fun _ z => z)
    rintro _ _ ⟨r, b', rfl, rfl, z0, z1, hb'⟩
    have num : ∀ {x r : Int} {l : List D}, 0 ≤ r → r < 999 → D.int x ∈ [D.int 2, .int 2, .int 3, .int 5, .int 10, .int 1000, .int (2 + r)] → isK (max k 1) (.tup [.str .number, .int x]) = true := by
      intro x r l h0 h1 hx
      refine isK_mono (k := 1) (by omega) ?_
      simp only [List.mem_cons, List.not_mem_nil, or_false, D.int.injEq] at hx
      have e : isW (.int x) 2 1000 = true := by simp only [isW, Bool.and_eq_true, decide_eq_true_eq]; omega
      show (match (if isW (.int x) 2 1000 = true then some [] else none) with | none => false | some l => List.all l (isK 0)) = true
      rw [if_pos e]
      rfl
    rcases (by omega : (k:Int) ≤ 1 ∨ (¬ (k:Int) ≤ 1 ∧ r < 2) ∨ (¬ (k:Int) ≤ 1 ∧ ¬ r < 2)) with hc | ⟨hc, hr⟩ | ⟨hc, hr⟩
    · simp_arith [box_own hb', hc]
      refine w2_mono (take_ok (w := w) (m := m) (by omega) hb' (by omega) (by omega)) ?_ (fun _ z => z)
      rintro _ _ ⟨r, b2, rfl, rfl, z0, z1, hb2⟩
      simp_arith [box_own hb2]
      refine w2_mono (pickl_ok (w := w) (m := m) (by omega) hb2 (by simp) (by simp)) ?_ (fun _ z => z)
      rintro x _ ⟨hx, b3, rfl, hb3⟩
      obtain ⟨x, rfl⟩ : ∃ i, x = .int i := by
        simp only [List.mem_cons, List.not_mem_nil, or_false] at hx
        rcases hx with rfl | rfl | rfl | rfl | rfl | rfl | rfl <;> exact ⟨_, rfl⟩
      simp_arith [box_own hb3, box_am hb3]
      exact ⟨num (l := []) z0 z1 hx, _, rfl, hb3⟩
    · simp_arith [box_own hb', hc, hr]
      refine w2_mono (take_ok (w := w) (m := m) (by omega) hb' (by omega) (by omega)) ?_ (fun _ z => z)
      rintro _ _ ⟨r, b2, rfl, rfl, z0, z1, hb2⟩
      simp_arith [box_own hb2]
      refine w2_mono (pickl_ok (w := w) (m := m) (by omega) hb2 (by simp) (by simp)) ?_ (fun _ z => z)
      rintro x _ ⟨hx, b3, rfl, hb3⟩
      obtain ⟨x, rfl⟩ : ∃ i, x = .int i := by
        simp only [List.mem_cons, List.not_mem_nil, or_false] at hx
        rcases hx with rfl | rfl | rfl | rfl | rfl | rfl | rfl <;> exact ⟨_, rfl⟩
      simp_arith [box_own hb3, box_am hb3]
      exact ⟨num (l := []) z0 z1 hx, _, rfl, hb3⟩
    · obtain ⟨k', rfl⟩ : ∃ k', k = k' + 2 := ⟨k - 2, by omega⟩
      have e1 : ((k' + 2 : Nat) : Int) - 1 = (k' + 1 : Nat) := by omega
      have e2 : ((k' + 2 : Nat) : Int) - 2 = (k' : Nat) := by omega
      have ih : ∀ {b}, IsBox b → @W2 _ _ (callN tbl w m 8 [b, .int (k' + 1 : Nat)]) ⟨Drew fun d => isK (max (k' + 1) 1) d = true⟩ (fun _ => False) := fun hb => kind_ok (by omega) hb
      have ih2 : ∀ {b}, IsBox b → @W2 _ _ (callN tbl w m 8 [b, .int k']) ⟨Drew fun d => isK (max k' 1) d = true⟩ (fun _ => False) := fun hb => kind_ok (by omega) hb
      by_cases hr4 : r < 4
      · simp_arith [box_own hb', hc, hr, hr4]
        refine pe_lcI (fun ρ => ∃ b s v, IsBox b ∧ ρ = [some (b, 3), some (.int (k' + 2 : Nat), 0), some (.int v, 0), s]) (fun d => isK (max (k' + 1) 1) d = true) rfl ?_
        simp_arith [box_own hb']
        refine w2_mono (pickl_ok (w := w) (m := m) (by omega) hb' (by simp) (by simp)) ?_ (fun _ z => z)
        rintro x _ ⟨hx, b3, rfl, hb3⟩
        obtain ⟨n, rfl, hn⟩ : ∃ n : Nat, x = .int n ∧ 1 ≤ n ∧ n ≤ 4 := by
          simp only [List.mem_cons, List.not_mem_nil, or_false] at hx
          rcases hx with rfl | rfl | rfl | rfl | rfl
          · exact ⟨1, rfl, by omega⟩
          · exact ⟨2, rfl, by omega⟩
          · exact ⟨2, rfl, by omega⟩
          · exact ⟨3, rfl, by omega⟩
          · exact ⟨4, rfl, by omega⟩
        have sm : smallI (n : Int) = true := by unfold smallI; simp; omega
        simp_arith [sm]
        refine lci_mk rfl ⟨_, _, _, hb3, rfl⟩ ?_ ?_ ?_
        · rintro x hx _ ⟨b, s, v, hb, rfl⟩
          simp_arith [box_own hb, e1]
          refine w2_mono (ih hb) ?_ (fun _ z => z)
          rintro y _ ⟨hy, b2, rfl, hb2⟩
          simp_arith []
          exact ⟨⟨_, _, _, hb2, rfl⟩, _, rfl, hy⟩
        · rw [rangeL_len]; unfold maxLen; omega
        · rintro l _ ⟨b, s, v, hb, rfl⟩ hlen hl
          rw [rangeL_len] at hlen
          simp_arith [box_am hb]
          refine ⟨?_, _, rfl, hb⟩
          show isK (max (k' + 2) 1) _ = true
          rw [show max (k' + 2) 1 = max (k' + 1) 1 + 1 by omega]
          first | rw [isK_record (by omega)] | rw [isK_choice (by omega)]
          exact List.all_eq_true.mpr hl
      by_cases hr5 : r = 4
      · simp_arith [box_own hb', hc, hr, hr4, hr5]
        refine pe_lcI (fun ρ => ∃ b s v, IsBox b ∧ ρ = [some (b, 3), some (.int (k' + 2 : Nat), 0), some (.int v, 0), s]) (fun d => isK (max (k' + 1) 1) d = true) rfl ?_
        simp_arith [box_own hb']
        refine w2_mono (pickl_ok (w := w) (m := m) (by omega) hb' (by simp) (by simp)) ?_ (fun _ z => z)
        rintro x _ ⟨hx, b3, rfl, hb3⟩
        obtain ⟨n, rfl, hn⟩ : ∃ n : Nat, x = .int n ∧ 2 ≤ n ∧ n ≤ 4 := by
          simp only [List.mem_cons, List.not_mem_nil, or_false] at hx
          rcases hx with rfl | rfl | rfl | rfl
          · exact ⟨2, rfl, by omega⟩
          · exact ⟨2, rfl, by omega⟩
          · exact ⟨3, rfl, by omega⟩
          · exact ⟨4, rfl, by omega⟩
        have sm : smallI (n : Int) = true := by unfold smallI; simp; omega
        simp_arith [sm]
        refine lci_mk rfl ⟨_, _, _, hb3, rfl⟩ ?_ ?_ ?_
        · rintro x hx _ ⟨b, s, v, hb, rfl⟩
          simp_arith [box_own hb, e1]
          refine w2_mono (ih hb) ?_ (fun _ z => z)
          rintro y _ ⟨hy, b2, rfl, hb2⟩
          simp_arith []
          exact ⟨⟨_, _, _, hb2, rfl⟩, _, rfl, hy⟩
        · rw [rangeL_len]; unfold maxLen; omega
        · rintro l _ ⟨b, s, v, hb, rfl⟩ hlen hl
          rw [rangeL_len] at hlen
          simp_arith [box_am hb]
          refine ⟨?_, _, rfl, hb⟩
          show isK (max (k' + 2) 1) _ = true
          rw [show max (k' + 2) 1 = max (k' + 1) 1 + 1 by omega]
          first | rw [isK_record (by omega)] | rw [isK_choice (by omega)]
          exact List.all_eq_true.mpr hl
      by_cases hr7 : r < 7
      · simp_arith [box_own hb', hc, hr, hr4, hr5, hr7, e1]
        refine w2_mono (ih hb') ?_ (fun _ z => z)
        rintro x _ ⟨hx, b2, rfl, hb2⟩
        simp_arith [box_own hb2, box_am hb2]
        refine ⟨?_, _, rfl, hb2⟩
        show isK (max (k' + 2) 1) _ = true
        rw [show max (k' + 2) 1 = max (k' + 1) 1 + 1 by omega, isK_row]
        exact hx
      by_cases hr9 : r < 9
      · simp_arith [box_own hb', hc, hr, hr4, hr5, hr7, hr9, e1]
        refine w2_mono (pickl_ok (w := w) (m := m) (by omega) hb' (by simp) (by simp)) ?_ (fun _ z => z)
        rintro x _ ⟨hx, b3, rfl, hb3⟩
        simp_arith [box_own hb3, e1]
        refine w2_mono (ih hb3) ?_ (fun _ z => z)
        rintro y _ ⟨hy, b2, rfl, hb2⟩
        simp_arith [box_own hb2, box_am hb2]
        refine ⟨?_, _, rfl, hb2⟩
        show isK (max (k' + 2) 1) _ = true
        rw [show max (k' + 2) 1 = max (k' + 1) 1 + 1 by omega]
        simp only [List.mem_cons, List.not_mem_nil, or_false] at hx
        rcases hx with rfl | rfl
        · rw [isK_set]; exact hy
        · rw [isK_bag]; exact hy
      · simp_arith [box_own hb', hc, hr, hr4, hr5, hr7, hr9, e1, e2]
        refine w2_mono (ih2 hb') ?_ (fun _ z => z)
        rintro x _ ⟨hx, b3, rfl, hb3⟩
        simp_arith [box_own hb3, e1]
        refine w2_mono (ih hb3) ?_ (fun _ z => z)
        rintro y _ ⟨hy, b2, rfl, hb2⟩
        simp_arith [box_own hb2, box_am hb2]
        refine ⟨?_, _, rfl, hb2⟩
        show isK (max (k' + 2) 1) _ = true
        rw [show max (k' + 2) 1 = max (k' + 1) 1 + 1 by omega]
        have := isK_mono (j := max (k' + 1) 1) (by omega) hx
        rw [isK_table, this, hy]; rfl
end
end Cg
set_option linter.all false
set_option maxRecDepth 100000
namespace Cg
open F
local macro_rules
  | `(tactic| simp_arith [$ls,*]) => `(tactic| try simp (config := { implicitDefEqProofs := false, maxSteps := 2000000 }) only [↓k_mk, ↓k_mk2, ↓w1_bind, ↓w2_bind, ↓w1_ite, ↓w2_ite, ↓w1_ok, ↓w1_exc, ↓w1_bad, ↓w2_ok, ↓w2_exc, ↓w2_bad, ↓see_b, ↓now_b, ↓opt_omit, ↓opt_k, ↓see_k, ↓now_k, ↓see_v, ↓now_v, ↓opt_v, ↓see_tup, ↓now_tup, ↓opt_tup, ↓see_lst, ↓now_lst, ↓opt_lst, ↓see_dict, ↓now_dict, ↓opt_dict, ↓see_bin, ↓now_bin, ↓opt_bin, ↓see_cmp, ↓now_cmp, ↓opt_cmp, ↓see_chain, ↓now_chain, ↓opt_chain, ↓see_not, ↓now_not, ↓opt_not, ↓see_and, ↓now_and, ↓opt_and, ↓see_or, ↓now_or, ↓opt_or, ↓see_ite, ↓now_ite, ↓opt_ite, ↓see_idx, ↓now_idx, ↓opt_idx, ↓see_idxd, ↓now_idxd, ↓opt_idxd, ↓see_ind, ↓now_ind, ↓opt_ind, ↓see_idx2, ↓now_idx2, ↓opt_idx2, ↓see_any2, ↓now_any2, ↓opt_any2, ↓see_slice, ↓now_slice, ↓opt_slice, ↓see_call, ↓now_call, ↓opt_call, ↓see_b1, ↓now_b1, ↓opt_b1, ↓see_b2, ↓now_b2, ↓opt_b2, ↓see_b3, ↓now_b3, ↓opt_b3, ↓see_get, ↓now_get, ↓opt_get, ↓see_count, ↓now_count, ↓opt_count, ↓see_index, ↓now_index, ↓opt_index, ↓see_isa, ↓now_isa, ↓opt_isa, ↓see_isExc, ↓now_isExc, ↓opt_isExc, ↓see_mkExc, ↓now_mkExc, ↓opt_mkExc, ↓see_lc, ↓now_lc, ↓opt_lc, ↓see_lc2, ↓now_lc2, ↓opt_lc2, ↓see_gsum, ↓now_gsum, ↓opt_gsum, ↓see_gall, ↓now_gall, ↓opt_gall, ↓see_gall2, ↓now_gall2, ↓opt_gall2, ↓see_grid, ↓now_grid, ↓opt_grid, ↓see_empties, ↓now_empties, ↓opt_empties, ↓e_k, ↓e_v, ↓e_tup, ↓e_lst, ↓e_dict, ↓e_bin, ↓e_cmp, ↓e_chain, ↓e_not, ↓pbool, ↓e_and, ↓e_or, ↓e_ite, ↓e_idx, ↓e_idxd, ↓e_ind, ↓e_any2, ↓plst, ↓e_idx2, ↓e_slice, ↓e_call, ↓e_b1, ↓e_b2, ↓e_b3, ↓e_get, ↓e_count, ↓e_index, ↓e_isa, ↓e_isExc, ↓e_mkExc, ↓t_not, ↓t_and, ↓t_or, ↓t_of, ↓es_nil, ↓es_cons, ↓as_nil, ↓as_io, ↓as_tmp, ↓i_val, ↓pint, ↓i_range, ↓i_range2, ↓i_zip2, ↓i_zip3, ↓i_enum, ↓i_rev, ↓s_set, ↓s_ret, ↓s_retv, ↓s_retN, ↓s_raise, ↓s_brk, ↓s_cont, ↓s_pass, ↓s_ex, ↓s_ifs, ↓s_app, ↓s_ext, ↓s_put, ↓s_unpack, ↓s_par, ↓s_aug, ↓af_next, ↓af_ret, ↓af_brk, ↓af_cont, ↓ss_nil, ↓ss_cons, ↓b_n, ↓b_0n, ↓b_00, ↓b_01, ↓b_02, ↓bt_nm, ↓bt_tup, ↓bts_nil, ↓bts_cons, ↓bp_nil, ↓bp_cons, ↓as_k, ↓as_v, ↓as_tup, ↓as_lst, ↓as_dict, ↓as_bin, ↓as_cmp, ↓as_chain, ↓as_not, ↓as_and, ↓as_or, ↓as_ite, ↓as_idx, ↓as_idxd, ↓as_ind, ↓as_idx2, ↓as_any2, ↓as_slice, ↓as_call, ↓as_b1, ↓as_b2, ↓as_b3, ↓as_get, ↓as_count, ↓as_index, ↓as_isa, ↓as_isExc, ↓as_mkExc, ↓as_lc, ↓as_lc2, ↓as_gsum, ↓as_gall, ↓as_gall2, ↓as_grid, ↓as_empties, ↓fin_next, ↓fin_ret, ↓pc_, ↓pg_, ↓pl_, ↓fu_nil, ↓fu_cons, ↓tj_next, ↓tj_cont, ↓tj_brk, ↓tj_ret, ↓tc_next, ↓tc_cont, ↓tc_brk, ↓tc_ret, getS_0, getS_1, getS_2, getS_n, valS_0, valS_n, seeS_0, seeS_01, seeS_03, seeS_04, seeS_n, ownS_01l, ownS_03l, ownS_01d, ownS_03d, ownS_n, own2S_0, own2S_n, listOwn_01, listOwn_03, listOwn_n, putS_0, putS_n, letGo_nil, letGo_cons, lg1_n, lg1_0n, lg1_00, lg1_01, lg1_02, lg1_03, lg1_04, wipe_nil, wipe_cons, back_nil, back_cons, pl_nil, nt_nm, nt_tup, nts_nil, nts_cons, am_nil, am_lst, am_dct, out_nil, out_f, out_t, os_nil, os_io, os_tmp, os_k, os_v, os_tup, os_lst, os_dict, os_bin, os_cmp, os_chain, os_not, os_and, os_or, os_ite, os_idx, os_idxd, os_ind, os_idx2, os_any2, os_slice, os_call, os_b1, os_b2, os_b3, os_get, os_count, os_index, os_isa, os_isExc, os_mkExc, os_lc, os_lc2, os_gsum, os_gall, os_gall2, os_grid, os_empties, ty_int_non, ty_int_bool, ty_int_int, ty_int_str, ty_int_tup, ty_int_lst, ty_bool_non, ty_bool_bool, ty_bool_int, ty_bool_str, ty_bool_tup, ty_bool_lst, ty_tuple_non, ty_tuple_bool, ty_tuple_int, ty_tuple_str, ty_tuple_tup, ty_tuple_lst, ty_str_non, ty_str_bool, ty_str_int, ty_str_str, ty_str_tup, ty_str_lst, tb_bool, tr_non, tr_bool, tr_int, tr_str, tr_tup, tr_lst, toInt_int, bin_addi, bin_addt, bin_addl, bin_sub, bin_mul, bin_mult, bin_mull, bin_fdiv, bin_mod, bin_pow, cmp_eq, cmp_ne, cmp_lt, cmp_le, cmp_gt, cmp_ge, cmp_is, cmp_isNot, cmp_int, cmp_inl, cmp_nint, cmp_ninl, eq_ii, eq_ss, eq_bb, lt_ii, is_non_n, is_bool_n, is_int_n, is_str_n, is_tup_n, is_lst_n, ix_t, ix_l, sl_t, sl_l, it_t, it_l, it_s, b1_lent, b1_lenl, b1_int, b1_abs, b1_neg, b1_sum, b1_min, b1_max, b1_anyl, b1_anyt, b1_tupl, b1_tupt, b1_lstl, b1_lstt, b1_sortl, b1_sortt, b1_sortk, b1_repr, b1_strExc, b2_min, b2_max, ise_, out_e, now_, List.zipWith, List.replicate, List.cons_append, List.nil_append, List.append_nil, List.getElem?_cons_zero, List.getElem?_cons_succ, List.set_cons_zero, List.set_cons_succ, List.all_cons, List.all_nil, Bool.and_true, Bool.true_and, Bool.false_and, Bool.and_false, Bool.or_true, Bool.true_or, Bool.or_false, Bool.false_or, Bool.not_true, Bool.not_false, ↓reduceIte, if_true, if_false, Bool.false_eq_true, D.isMut, Nat.sub_self, Nat.reduceSub, Nat.reduceAdd, decide_true, decide_false, beq_self_eq_true, List.length_cons, List.length_nil, weq, reduceCtorEq, decide_eq_true_eq, Int.reduceLT, Int.reduceLE, Int.reduceEq, Int.reduceAdd, Int.reduceSub, Int.reduceNeg, Nat.reduceLT, Nat.reduceLeDiff, Int.cast_ofNat_Int, Nat.zero_add, Int.reduceToNat, and_true, true_and, and_false, false_and, not_true_eq_false, not_false_eq_true, isS_s, Bool.or_eq_true, Bool.and_eq_true, Bool.not_eq_true', decide_eq_false_iff_not, Bool.not_not, nbool_in, plainS, namesT, namesTs, intsR_map, inR_ints, nth0, nth1, nth2, nth3, slice1, beq_iff_eq, bne_iff_ne, ne_eq, or_true, true_or, or_false, false_or, intlit_beq, mkt0, mkt1, mkt2, mkt3, mkt4, mkt5, mkt6, mkt7, mkt8, mkt9, mkt10, mkt11, mkt12, mkt13, mkt14, mkt15, mkt16, mkt17, mkt18, mkt19, mkl0, mkl1, mkl2, mkl3, mkl4, mkl5, mkl6, mkl7, mkl8, mkl9, mkl10, mkl11, mkl12, mkl13, mkl14, mkl15, mkl16, mkl17, mkl18, mkl19, in1w, in2w, in3w, in4w, in5w, in6w, in7w, in8w, $ls,*])
section
variable {w : Nat} {X : Nat → Prop}
theorem kindOk_row3 : kindOk (.tup [.str .row, .tup [.str .number, .int 3]]) = true := by decide
theorem some_kind_ok {m : Nat} {b : D} (hm : 10 ≤ m) (hb : IsBox b) : @W2 _ _ (callN tbl w m 11 [b]) ⟨Drew fun d => kindOk d = true⟩ (fun _ => False) := by
  obtain ⟨m, rfl⟩ : ∃ n, m = n + 1 := ⟨m - 1, by omega⟩
  refine go rfl rfl ?_
  simp_arith [box_own hb]
  refine w2_mono (pickl_ok (w := w) (m := m) (by omega) hb (by simp) (by simp)) ?_ (fun _ z => z)
  rintro x _ ⟨hx, b3, rfl, hb3⟩
  obtain ⟨n, rfl, hn⟩ : ∃ n : Nat, x = .int n ∧ 1 ≤ n ∧ n ≤ 5 := by
    simp only [List.mem_cons, List.not_mem_nil, or_false] at hx
    rcases hx with rfl | rfl | rfl | rfl | rfl
    · exact ⟨2, rfl, by omega⟩
    · exact ⟨3, rfl, by omega⟩
    · exact ⟨3, rfl, by omega⟩
    · exact ⟨4, rfl, by omega⟩
    · exact ⟨5, rfl, by omega⟩
  simp_arith [box_own hb3]
  refine w2_mono (kind_ok (w := w) (m := m) (by omega) hb3) ?_ (fun _ z => z)
  rintro d _ ⟨hd, b2, rfl, hb2⟩
  have h5 : isK 5 d = true := isK_mono (by omega) hd
  simp_arith [w2_eq (lmany_ok (w := w) (m := m) (by omega) h5)]
  refine ite_w (fun h => ?_) (fun h => ?_)
  · simp_arith [box_am hb2]
    refine ⟨?_, _, rfl, hb2⟩
    show kindOk d = true
    rw [kindOk_eq, h5]; simpa using h
  · simp_arith [box_am hb2]
    exact ⟨kindOk_row3, _, rfl, hb2⟩
/-- no tuple longer than L, no deeper than k -/
def fit (L : Nat) : Nat → D → Bool
  | _, .non => true
  | _, .bool _ => true
  | _, .int _ => true
  | _, .str _ => true
  | k + 1, .tup l => decide (l.length ≤ L) && l.all (fit L k)
  | _, _ => false
theorem fit_tup {L k : Nat} {l : List D} : fit L (k + 1) (.tup l) = true ↔ l.length ≤ L ∧ ∀ x, x ∈ l → fit L k x = true := by
  rw [fit, Bool.and_eq_true, decide_eq_true_iff, List.all_eq_true]
theorem fit_mono : ∀ {L M k j : Nat} {d : D}, L ≤ M → k ≤ j → fit L k d = true → fit M j d = true
  | L, M, k, j, .non, hL, hk, h => by cases j <;> rfl
  | L, M, k, j, .bool _, hL, hk, h => by cases j <;> rfl
  | L, M, k, j, .int _, hL, hk, h => by cases j <;> rfl
  | L, M, k, j, .str _, hL, hk, h => by cases j <;> rfl
  | L, M, k + 1, j + 1, .tup l, hL, hk, h => by
    rw [fit_tup] at h ⊢
    exact ⟨by omega, fun x hx => fit_mono hL (by omega) (h.2 x hx)⟩
  | L, M, 0, j, .tup l, hL, hk, h => by simp [fit] at h
  | L, M, k + 1, 0, .tup l, hL, hk, h => by omega
  | L, M, k, j, .lst l, hL, hk, h => by simp [fit] at h
  | L, M, k, j, .dct l, hL, hk, h => by simp [fit] at h
  | L, M, k, j, .exc l, hL, hk, h => by simp [fit] at h
  | L, M, k, j, .rep l, hL, hk, h => by simp [fit] at h
  | L, M, k, j, .scr l, hL, hk, h => by simp [fit] at h
theorem fit_still : ∀ {L k : Nat} {d : D}, fit L k d = true → d.still = true
  | L, k, .non, h => rfl
  | L, k, .bool _, h => rfl
  | L, k, .int _, h => rfl
  | L, k, .str _, h => rfl
  | L, k + 1, .tup l, h => by
    rw [fit_tup] at h
    rw [D.still, stills_mem]
    exact fun x hx => fit_still (h.2 x hx)
  | L, 0, .tup l, h => by simp [fit] at h
  | L, k, .lst l, h => by simp [fit] at h
  | L, k, .dct l, h => by simp [fit] at h
  | L, k, .exc l, h => by simp [fit] at h
  | L, k, .rep l, h => by simp [fit] at h
  | L, k, .scr l, h => by simp [fit] at h
theorem isK_fit : ∀ {k : Nat} {d : D}, isK k d = true → fit 4 (2 * k) d = true
  | 0, d, h => by simp [isK] at h
  | k + 1, d, h => by
    unfold isK at h
    cases hi : innerK d with
    | none => rw [hi] at h; simp at h
    | some l =>
      rw [hi] at h
      have hl : ∀ x, x ∈ l → fit 4 (2 * k) x = true := fun x hx => isK_fit (by simpa using (List.all_eq_true.mp h) x hx)
      rw [show 2 * (k + 1) = 2 * k + 1 + 1 by omega]
      have st : ∀ {j : Nat} {s : W}, fit 4 j (.str s) = true := by intro j s; cases j <;> rfl
      rcases innerK_cases hi with ⟨x, rfl, hw, rfl⟩ | ⟨rfl, hn⟩ | ⟨rfl, hn⟩ | ⟨x, rfl, rfl⟩ | ⟨x, rfl, rfl⟩ | ⟨x, rfl, rfl⟩ | ⟨x, y, rfl, rfl⟩
      · cases x <;> simp [isW] at hw
        rw [fit_tup]; refine ⟨by simp, fun x hx => ?_⟩
        simp only [List.mem_cons, List.not_mem_nil, or_false] at hx
        rcases hx with rfl | rfl
        · exact st
        · cases k <;> rfl
      · rw [fit_tup]; refine ⟨by simp, fun x hx => ?_⟩
        simp only [List.mem_cons, List.not_mem_nil, or_false] at hx
        rcases hx with rfl | rfl
        · exact st
        · exact fit_tup.mpr ⟨by omega, hl⟩
      · rw [fit_tup]; refine ⟨by simp, fun x hx => ?_⟩
        simp only [List.mem_cons, List.not_mem_nil, or_false] at hx
        rcases hx with rfl | rfl
        · exact st
        · exact fit_tup.mpr ⟨by omega, hl⟩
      all_goals
        rw [fit_tup]; refine ⟨by simp, fun z hz => ?_⟩
        simp only [List.mem_cons, List.not_mem_nil, or_false] at hz
      · rcases hz with rfl | rfl
        · exact st
        · exact fit_mono (by omega) (by omega) (hl _ (by simp))
      · rcases hz with rfl | rfl
        · exact st
        · exact fit_mono (by omega) (by omega) (hl _ (by simp))
      · rcases hz with rfl | rfl
        · exact st
        · exact fit_mono (by omega) (by omega) (hl _ (by simp))
      · rcases hz with rfl | rfl | rfl
        · exact st
        · exact fit_mono (by omega) (by omega) (hl _ (by simp))
        · exact fit_mono (by omega) (by omega) (hl _ (by simp))
theorem eq_nil {x : D} (h : x.still = true) : eqR x (.tup []) = .ok (match x with | .tup [] => true | _ => false) := by
  have e : eqR x (.tup []) = if x.plain && D.plain (.tup []) && decide (min x.depth (D.depth (.tup [])) ≤ 60) then .ok (x.eqv (.tup [])) else .bad := by
    cases x <;> rfl
  rw [e, plain_of h]
  have : D.depth (.tup []) = 1 := rfl
  rw [this]
  have : decide (min x.depth 1 ≤ 60) = true := by simp; omega
  rw [this]
  show R.ok _ = _
  cases x with
  | tup l => cases l <;> rfl
  | _ => rfl
theorem w1_mkTup {l : List D} {K : Kc D} (h : l.length ≤ maxLen) : @W1 _ (mkTup l) K X = K.k (.tup l) := by rw [mkTup, if_pos h]; rfl
theorem sl_take {l : List D} {n : Nat} : sliceL l none (some (n : Int)) = l.take n := by
  unfold sliceL bnd
  simp only [List.drop_zero, Nat.sub_zero]
  rw [if_neg (by omega)]
  simp only [Int.toNat_natCast]
  by_cases h : n ≤ l.length
  · rw [Nat.min_eq_left h]
  · rw [Nat.min_eq_right (by omega), List.take_of_length_le (Nat.le_refl _), List.take_of_length_le (by omega)]
theorem sl_drop {l : List D} {n : Nat} : sliceL l (some (n : Int)) none = l.drop n := by
  unfold sliceL bnd
  simp only
  rw [if_neg (by omega)]
  simp only [Int.toNat_natCast]
  by_cases h : n ≤ l.length
  · rw [Nat.min_eq_left h, List.take_of_length_le (by rw [List.length_drop]; omega)]
  · rw [Nat.min_eq_right (by omega), List.drop_of_length_le (by omega), List.drop_of_length_le (by omega)]; simp
theorem mem_take_of {l : List D} {n : Nat} {x : D} (h : x ∈ l.take n) : x ∈ l := List.mem_of_mem_take h
theorem spoilt_ok : ∀ {k L m : Nat} {b x : D} (hm : k + 3 ≤ m) (hL : 2 ≤ L) (hL2 : L ≤ 1000) (hb : IsBox b) (hx : fit L k x = true), @W2 _ _ (callN tbl w m 15 [b, x]) ⟨Drew fun d => fit (L + 1) (k + 2) d = true⟩ (fun _ => False) := by
  intro k
  induction k with
  | zero =>
    intro L m b x hm hL hL2 hb hx
    obtain ⟨m, rfl⟩ : ∃ n, m = n + 1 := ⟨m - 1, by omega⟩
    refine go rfl rfl ?_
    cases x <;> simp only [fit, Bool.false_eq_true] at hx
    case int i =>
      simp_arith [box_own hb]
      refine w2_mono (take_ok (w := w) (m := m) (by omega) hb (by omega) (by omega)) ?_ (fun _ z => z)
      rintro _ _ ⟨r, b2, rfl, rfl, z0, z1, hb2⟩
      simp_arith [box_own hb2]
      refine ite_w (fun h => ?_) (fun h => ?_)
      · simp_arith [box_own hb2]
        refine w2_mono (pickl_ok (w := w) (m := m) (by omega) hb2 (by simp) (by simp)) ?_ (fun _ z => z)
        rintro y _ ⟨hy, b3, rfl, hb3⟩
        obtain ⟨y, rfl⟩ : ∃ i, y = .int i := by
          simp only [List.mem_cons, List.not_mem_nil, or_false] at hy
          rcases hy with rfl | rfl | rfl | rfl <;> exact ⟨_, rfl⟩
        simp_arith [box_am hb3]
        exact ⟨rfl, _, rfl, hb3⟩
      · simp_arith [box_own hb2]
        clear hb
        have hb := hb2
        refine w2_mono (pickl_ok (w := w) (m := m) (by omega) hb (by simp) (by simp)) ?_ (fun _ z => z)
        rintro y _ ⟨hy, b3, rfl, hb3⟩
        simp_arith [box_am hb3]
        refine ⟨fit_mono (k := 2) (L := 2) (by omega) (by omega) ?_, _, rfl, hb3⟩
        simp only [List.mem_cons, List.not_mem_nil, or_false] at hy
        rcases hy with rfl | rfl | rfl | rfl | rfl | rfl | rfl | rfl | rfl | rfl | rfl | rfl | rfl | rfl | rfl | rfl | rfl <;> decide
    all_goals
      simp_arith [box_own hb]
      refine w2_mono (pickl_ok (w := w) (m := m) (by omega) hb (by simp) (by simp)) ?_ (fun _ z => z)
      rintro y _ ⟨hy, b3, rfl, hb3⟩
      simp_arith [box_am hb3]
      refine ⟨fit_mono (k := 2) (L := 2) (by omega) (by omega) ?_, _, rfl, hb3⟩
      simp only [List.mem_cons, List.not_mem_nil, or_false] at hy
      rcases hy with rfl | rfl | rfl | rfl | rfl | rfl | rfl | rfl | rfl | rfl | rfl | rfl | rfl | rfl | rfl | rfl | rfl <;> decide
  | succ k ih =>
    intro L m b x hm hL hL2 hb hx
    obtain ⟨m, rfl⟩ : ∃ n, m = n + 1 := ⟨m - 1, by omega⟩
    refine go rfl rfl ?_
    have hst := fit_still hx
    cases x
    case tup l =>
      rw [fit_tup] at hx
      cases l with
      | nil =>
        have en : eqR (.tup []) (.tup []) = .ok true := eq_nil rfl
        simp_arith [box_own hb, en]
        refine w2_mono (pickl_ok (w := w) (m := m) (by omega) hb (by simp) (by simp)) ?_ (fun _ z => z)
        rintro y _ ⟨hy, b3, rfl, hb3⟩
        simp_arith [box_am hb3]
        refine ⟨fit_mono (k := 2) (L := 2) (by omega) (by omega) ?_, _, rfl, hb3⟩
        simp only [List.mem_cons, List.not_mem_nil, or_false] at hy
        rcases hy with rfl | rfl | rfl | rfl | rfl | rfl | rfl | rfl | rfl | rfl | rfl | rfl | rfl | rfl | rfl | rfl | rfl <;> decide
      | cons a l =>
        have en : eqR (.tup (a :: l)) (.tup []) = .ok false := eq_nil hst
        simp_arith [box_own hb, en]
        refine w2_mono (take_ok (w := w) (m := m) (by omega) hb (by omega) (by omega)) ?_ (fun _ z => z)
        rintro _ _ ⟨r, b2, rfl, rfl, z0, z1, hb2⟩
        simp_arith [box_own hb2]
        refine ite_w (fun h0 => ?_) (fun h0 => ?_)
        · simp_arith [box_own hb2]
          clear hb
          have hb := hb2
          refine w2_mono (pickl_ok (w := w) (m := m) (by omega) hb (by simp) (by simp)) ?_ (fun _ z => z)
          rintro y _ ⟨hy, b3, rfl, hb3⟩
          simp_arith [box_am hb3]
          refine ⟨fit_mono (k := 2) (L := 2) (by omega) (by omega) ?_, _, rfl, hb3⟩
          simp only [List.mem_cons, List.not_mem_nil, or_false] at hy
          rcases hy with rfl | rfl | rfl | rfl | rfl | rfl | rfl | rfl | rfl | rfl | rfl | rfl | rfl | rfl | rfl | rfl | rfl <;> decide
        · simp_arith [box_own hb2]
          have l1 := hx.1
          have cast : ((l.length : Int) + 1) = ((a :: l).length : Nat) := by simp
          refine w2_mono (take_ok (w := w) (m := m) (by omega) hb2 (by omega) (by simp only [List.length_cons] at l1; omega)) ?_ (fun _ z => z)
          rintro _ _ ⟨at_, b3, rfl, rfl, y0, y1, hb3⟩
          obtain ⟨n, rfl⟩ := Int.eq_ofNat_of_zero_le y0
          simp_arith [box_own hb3]
          refine w2_mono (take_ok (w := w) (m := m) (by omega) hb3 (by omega) (by omega)) ?_ (fun _ z => z)
          rintro _ _ ⟨s, b4, rfl, rfl, s0, s1, hb4⟩
          simp_arith [box_own hb4]
          have hn : n < (a :: l).length := by simp only [List.length_cons]; omega
          generalize a :: l = l at *
          have e3 : (n : Int) + 1 = ((n + 1 : Nat) : Int) := rfl
          have fm : ∀ x, x ∈ l → fit (L + 1) (k + 2) x = true := fun x hx' => fit_mono (by omega) (by omega) (hx.2 x hx')
          have lt := List.length_take (i := n) (l := l)
          have ld := List.length_drop (i := n) (l := l)
          have ld1 := List.length_drop (i := n + 1) (l := l)
          have hln : fit L k l[n] = true := hx.2 _ (List.getElem_mem hn)
          have mx : maxLen = 16777216 := rfl
          have done : ∀ (l' : List D) {b : D}, IsBox b → l'.length ≤ L + 1 → (∀ x, x ∈ l' → fit (L + 1) (k + 2) x = true) → Drew (fun d => fit (L + 1) (k + 1 + 2) d = true) (.tup l') [b] := fun l' b hb h1 h2 => ⟨fit_tup.mpr ⟨h1, h2⟩, _, rfl, hb⟩
          refine ite_w (fun c0 => ?_) (fun c0 => ?_)
          · rw [e3, sl_take, sl_drop, w1_mkTup (by rw [List.length_append]; omega)]
            simp_arith [box_am hb4]
            refine done _ hb4 (by rw [List.length_append]; omega) fun x hx => ?_
            rcases List.mem_append.mp hx with hx | hx
            · exact fm _ (List.mem_of_mem_take hx)
            · exact fm _ (List.mem_of_mem_drop hx)
          refine ite_w (fun c1 => ?_) (fun c1 => ?_)
          · simp_arith [sl_take, sl_drop, nthR_nat hn]
            rw [w1_mkTup (by simp only [List.length_append, List.length_cons, List.length_nil]; omega)]
            simp_arith [sl_drop]
            rw [w1_mkTup (by simp only [List.length_append, List.length_cons, List.length_nil]; omega)]
            simp_arith [box_am hb4]
            refine done _ hb4 (by simp only [List.length_append, List.length_cons, List.length_nil]; omega) fun x hx => ?_
            simp only [List.mem_append, List.mem_cons, List.not_mem_nil, or_false] at hx
            rcases hx with (hx | rfl) | hx
            · exact fm _ (List.mem_of_mem_take hx)
            · exact fm _ (List.getElem_mem hn)
            · exact fm _ (List.mem_of_mem_drop hx)
          refine ite_w (fun c2 => ?_) (fun c2 => ?_)
          · refine ite_w (fun c3 => ?_) (fun c3 => ?_)
            · have e4 : (n : Int) - 1 = ((n - 1 : Nat) : Int) := by omega
              have hn' : n - 1 < l.length := by omega
              have lt' := List.length_take (i := n - 1) (l := l)
              simp_arith [e3, e4, sl_take, sl_drop, nthR_nat hn, nthR_nat hn']
              rw [w1_mkTup (by simp only [List.length_append, List.length_cons, List.length_nil]; omega)]
              simp_arith [sl_drop, e3]
              rw [w1_mkTup (by simp only [List.length_append, List.length_cons, List.length_nil]; omega)]
              simp_arith [box_am hb4]
              refine done _ hb4 (by simp only [List.length_append, List.length_cons, List.length_nil]; omega) fun x hx => ?_
              simp only [List.mem_append, List.mem_cons, List.not_mem_nil, or_false] at hx
              rcases hx with (hx | rfl | rfl) | hx
              · exact fm _ (List.mem_of_mem_take hx)
              · exact fm _ (List.getElem_mem hn)
              · exact fm _ (List.getElem_mem hn')
              · exact fm _ (List.mem_of_mem_drop hx)
            · simp_arith [box_own hb4, e3, sl_take, sl_drop, nthR_nat hn]
              refine w2_mono (ih (by omega) hL hL2 hb4 hln) ?_ (fun _ z => z)
              rintro y _ ⟨hy, b5, rfl, hb5⟩
              simp_arith [e3, sl_take, sl_drop]
              rw [w1_mkTup (by simp only [List.length_append, List.length_cons, List.length_nil]; omega)]
              simp_arith [sl_drop, e3]
              rw [w1_mkTup (by simp only [List.length_append, List.length_cons, List.length_nil]; omega)]
              simp_arith [box_am hb5]
              refine done _ hb5 (by simp only [List.length_append, List.length_cons, List.length_nil]; omega) fun x hx => ?_
              simp only [List.mem_append, List.mem_cons, List.not_mem_nil, or_false] at hx
              rcases hx with (hx | rfl) | hx
              · exact fm _ (List.mem_of_mem_take hx)
              · exact hy
              · exact fm _ (List.mem_of_mem_drop hx)
          · simp_arith [box_own hb4, e3, sl_take, sl_drop, nthR_nat hn]
            refine w2_mono (ih (by omega) hL hL2 hb4 hln) ?_ (fun _ z => z)
            rintro y _ ⟨hy, b5, rfl, hb5⟩
            simp_arith [e3, sl_take, sl_drop]
            rw [w1_mkTup (by simp only [List.length_append, List.length_cons, List.length_nil]; omega)]
            simp_arith [sl_drop, e3]
            rw [w1_mkTup (by simp only [List.length_append, List.length_cons, List.length_nil]; omega)]
            simp_arith [box_am hb5]
            refine done _ hb5 (by simp only [List.length_append, List.length_cons, List.length_nil]; omega) fun x hx => ?_
            simp only [List.mem_append, List.mem_cons, List.not_mem_nil, or_false] at hx
            rcases hx with (hx | rfl) | hx
            · exact fm _ (List.mem_of_mem_take hx)
            · exact hy
            · exact fm _ (List.mem_of_mem_drop hx)
    case int i =>
      simp_arith [box_own hb]
      refine w2_mono (take_ok (w := w) (m := m) (by omega) hb (by omega) (by omega)) ?_ (fun _ z => z)
      rintro _ _ ⟨r, b2, rfl, rfl, z0, z1, hb2⟩
      simp_arith [box_own hb2]
      refine ite_w (fun h => ?_) (fun h => ?_)
      · simp_arith [box_own hb2]
        refine w2_mono (pickl_ok (w := w) (m := m) (by omega) hb2 (by simp) (by simp)) ?_ (fun _ z => z)
        rintro y _ ⟨hy, b3, rfl, hb3⟩
        obtain ⟨y, rfl⟩ : ∃ i, y = .int i := by
          simp only [List.mem_cons, List.not_mem_nil, or_false] at hy
          rcases hy with rfl | rfl | rfl | rfl <;> exact ⟨_, rfl⟩
        simp_arith [box_am hb3]
        exact ⟨rfl, _, rfl, hb3⟩
      · simp_arith [box_own hb2]
        clear hb
        have hb := hb2
        refine w2_mono (pickl_ok (w := w) (m := m) (by omega) hb (by simp) (by simp)) ?_ (fun _ z => z)
        rintro y _ ⟨hy, b3, rfl, hb3⟩
        simp_arith [box_am hb3]
        refine ⟨fit_mono (k := 2) (L := 2) (by omega) (by omega) ?_, _, rfl, hb3⟩
        simp only [List.mem_cons, List.not_mem_nil, or_false] at hy
        rcases hy with rfl | rfl | rfl | rfl | rfl | rfl | rfl | rfl | rfl | rfl | rfl | rfl | rfl | rfl | rfl | rfl | rfl <;> decide
    all_goals simp only [D.still, Bool.false_eq_true] at hst
    all_goals
      simp_arith [box_own hb]
      refine w2_mono (pickl_ok (w := w) (m := m) (by omega) hb (by simp) (by simp)) ?_ (fun _ z => z)
      rintro y _ ⟨hy, b3, rfl, hb3⟩
      simp_arith [box_am hb3]
      refine ⟨fit_mono (k := 2) (L := 2) (by omega) (by omega) ?_, _, rfl, hb3⟩
      simp only [List.mem_cons, List.not_mem_nil, or_false] at hy
      rcases hy with rfl | rfl | rfl | rfl | rfl | rfl | rfl | rfl | rfl | rfl | rfl | rfl | rfl | rfl | rfl | rfl | rfl <;> decide
end
end Cg
set_option linter.all false
set_option maxRecDepth 100000
namespace Cg
open F
local macro_rules
  | `(tactic| simp_arith [$ls,*]) => `(tactic| try simp (config := { implicitDefEqProofs := false, maxSteps := 2000000 }) only [↓k_mk, ↓k_mk2, ↓w1_bind, ↓w2_bind, ↓w1_ite, ↓w2_ite, ↓w1_ok, ↓w1_exc, ↓w1_bad, ↓w2_ok, ↓w2_exc, ↓w2_bad, ↓see_b, ↓now_b, ↓opt_omit, ↓opt_k, ↓see_k, ↓now_k, ↓see_v, ↓now_v, ↓opt_v, ↓see_tup, ↓now_tup, ↓opt_tup, ↓see_lst, ↓now_lst, ↓opt_lst, ↓see_dict, ↓now_dict, ↓opt_dict, ↓see_bin, ↓now_bin, ↓opt_bin, ↓see_cmp, ↓now_cmp, ↓opt_cmp, ↓see_chain, ↓now_chain, ↓opt_chain, ↓see_not, ↓now_not, ↓opt_not, ↓see_and, ↓now_and, ↓opt_and, ↓see_or, ↓now_or, ↓opt_or, ↓see_ite, ↓now_ite, ↓opt_ite, ↓see_idx, ↓now_idx, ↓opt_idx, ↓see_idxd, ↓now_idxd, ↓opt_idxd, ↓see_ind, ↓now_ind, ↓opt_ind, ↓see_idx2, ↓now_idx2, ↓opt_idx2, ↓see_any2, ↓now_any2, ↓opt_any2, ↓see_slice, ↓now_slice, ↓opt_slice, ↓see_call, ↓now_call, ↓opt_call, ↓see_b1, ↓now_b1, ↓opt_b1, ↓see_b2, ↓now_b2, ↓opt_b2, ↓see_b3, ↓now_b3, ↓opt_b3, ↓see_get, ↓now_get, ↓opt_get, ↓see_count, ↓now_count, ↓opt_count, ↓see_index, ↓now_index, ↓opt_index, ↓see_isa, ↓now_isa, ↓opt_isa, ↓see_isExc, ↓now_isExc, ↓opt_isExc, ↓see_mkExc, ↓now_mkExc, ↓opt_mkExc, ↓see_lc, ↓now_lc, ↓opt_lc, ↓see_lc2, ↓now_lc2, ↓opt_lc2, ↓see_gsum, ↓now_gsum, ↓opt_gsum, ↓see_gall, ↓now_gall, ↓opt_gall, ↓see_gall2, ↓now_gall2, ↓opt_gall2, ↓see_grid, ↓now_grid, ↓opt_grid, ↓see_empties, ↓now_empties, ↓opt_empties, ↓e_k, ↓e_v, ↓e_tup, ↓e_lst, ↓e_dict, ↓e_bin, ↓e_cmp, ↓e_chain, ↓e_not, ↓pbool, ↓e_and, ↓e_or, ↓e_ite, ↓e_idx, ↓e_idxd, ↓e_ind, ↓e_any2, ↓plst, ↓e_idx2, ↓e_slice, ↓e_call, ↓e_b1, ↓e_b2, ↓e_b3, ↓e_get, ↓e_count, ↓e_index, ↓e_isa, ↓e_isExc, ↓e_mkExc, ↓t_not, ↓t_and, ↓t_or, ↓t_of, ↓es_nil, ↓es_cons, ↓as_nil, ↓as_io, ↓as_tmp, ↓i_val, ↓pint, ↓i_range, ↓i_range2, ↓i_zip2, ↓i_zip3, ↓i_enum, ↓i_rev, ↓s_set, ↓s_ret, ↓s_retv, ↓s_retN, ↓s_raise, ↓s_brk, ↓s_cont, ↓s_pass, ↓s_ex, ↓s_ifs, ↓s_app, ↓s_ext, ↓s_put, ↓s_unpack, ↓s_par, ↓s_aug, ↓af_next, ↓af_ret, ↓af_brk, ↓af_cont, ↓ss_nil, ↓ss_cons, ↓b_n, ↓b_0n, ↓b_00, ↓b_01, ↓b_02, ↓bt_nm, ↓bt_tup, ↓bts_nil, ↓bts_cons, ↓bp_nil, ↓bp_cons, ↓as_k, ↓as_v, ↓as_tup, ↓as_lst, ↓as_dict, ↓as_bin, ↓as_cmp, ↓as_chain, ↓as_not, ↓as_and, ↓as_or, ↓as_ite, ↓as_idx, ↓as_idxd, ↓as_ind, ↓as_idx2, ↓as_any2, ↓as_slice, ↓as_call, ↓as_b1, ↓as_b2, ↓as_b3, ↓as_get, ↓as_count, ↓as_index, ↓as_isa, ↓as_isExc, ↓as_mkExc, ↓as_lc, ↓as_lc2, ↓as_gsum, ↓as_gall, ↓as_gall2, ↓as_grid, ↓as_empties, ↓fin_next, ↓fin_ret, ↓pc_, ↓pg_, ↓pl_, ↓fu_nil, ↓fu_cons, ↓tj_next, ↓tj_cont, ↓tj_brk, ↓tj_ret, ↓tc_next, ↓tc_cont, ↓tc_brk, ↓tc_ret, getS_0, getS_1, getS_2, getS_n, valS_0, valS_n, seeS_0, seeS_01, seeS_03, seeS_04, seeS_n, ownS_01l, ownS_03l, ownS_01d, ownS_03d, ownS_n, own2S_0, own2S_n, listOwn_01, listOwn_03, listOwn_n, putS_0, putS_n, letGo_nil, letGo_cons, lg1_n, lg1_0n, lg1_00, lg1_01, lg1_02, lg1_03, lg1_04, wipe_nil, wipe_cons, back_nil, back_cons, pl_nil, nt_nm, nt_tup, nts_nil, nts_cons, am_nil, am_lst, am_dct, out_nil, out_f, out_t, os_nil, os_io, os_tmp, os_k, os_v, os_tup, os_lst, os_dict, os_bin, os_cmp, os_chain, os_not, os_and, os_or, os_ite, os_idx, os_idxd, os_ind, os_idx2, os_any2, os_slice, os_call, os_b1, os_b2, os_b3, os_get, os_count, os_index, os_isa, os_isExc, os_mkExc, os_lc, os_lc2, os_gsum, os_gall, os_gall2, os_grid, os_empties, ty_int_non, ty_int_bool, ty_int_int, ty_int_str, ty_int_tup, ty_int_lst, ty_bool_non, ty_bool_bool, ty_bool_int, ty_bool_str, ty_bool_tup, ty_bool_lst, ty_tuple_non, ty_tuple_bool, ty_tuple_int, ty_tuple_str, ty_tuple_tup, ty_tuple_lst, ty_str_non, ty_str_bool, ty_str_int, ty_str_str, ty_str_tup, ty_str_lst, tb_bool, tr_non, tr_bool, tr_int, tr_str, tr_tup, tr_lst, toInt_int, bin_addi, bin_addt, bin_addl, bin_sub, bin_mul, bin_mult, bin_mull, bin_fdiv, bin_mod, bin_pow, cmp_eq, cmp_ne, cmp_lt, cmp_le, cmp_gt, cmp_ge, cmp_is, cmp_isNot, cmp_int, cmp_inl, cmp_nint, cmp_ninl, eq_ii, eq_ss, eq_bb, lt_ii, is_non_n, is_bool_n, is_int_n, is_str_n, is_tup_n, is_lst_n, ix_t, ix_l, sl_t, sl_l, it_t, it_l, it_s, b1_lent, b1_lenl, b1_int, b1_abs, b1_neg, b1_sum, b1_min, b1_max, b1_anyl, b1_anyt, b1_tupl, b1_tupt, b1_lstl, b1_lstt, b1_sortl, b1_sortt, b1_sortk, b1_repr, b1_strExc, b2_min, b2_max, ise_, out_e, now_, List.zipWith, List.replicate, List.cons_append, List.nil_append, List.append_nil, List.getElem?_cons_zero, List.getElem?_cons_succ, List.set_cons_zero, List.set_cons_succ, List.all_cons, List.all_nil, Bool.and_true, Bool.true_and, Bool.false_and, Bool.and_false, Bool.or_true, Bool.true_or, Bool.or_false, Bool.false_or, Bool.not_true, Bool.not_false, ↓reduceIte, if_true, if_false, Bool.false_eq_true, D.isMut, Nat.sub_self, Nat.reduceSub, Nat.reduceAdd, decide_true, decide_false, beq_self_eq_true, List.length_cons, List.length_nil, weq, reduceCtorEq, decide_eq_true_eq, Int.reduceLT, Int.reduceLE, Int.reduceEq, Int.reduceAdd, Int.reduceSub, Int.reduceNeg, Nat.reduceLT, Nat.reduceLeDiff, Int.cast_ofNat_Int, Nat.zero_add, Int.reduceToNat, and_true, true_and, and_false, false_and, not_true_eq_false, not_false_eq_true, isS_s, Bool.or_eq_true, Bool.and_eq_true, Bool.not_eq_true', decide_eq_false_iff_not, Bool.not_not, nbool_in, plainS, namesT, namesTs, intsR_map, inR_ints, nth0, nth1, nth2, nth3, slice1, beq_iff_eq, bne_iff_ne, ne_eq, or_true, true_or, or_false, false_or, intlit_beq, mkt0, mkt1, mkt2, mkt3, mkt4, mkt5, mkt6, mkt7, mkt8, mkt9, mkt10, mkt11, mkt12, mkt13, mkt14, mkt15, mkt16, mkt17, mkt18, mkt19, mkl0, mkl1, mkl2, mkl3, mkl4, mkl5, mkl6, mkl7, mkl8, mkl9, mkl10, mkl11, mkl12, mkl13, mkl14, mkl15, mkl16, mkl17, mkl18, mkl19, in1w, in2w, in3w, in4w, in5w, in6w, in7w, in8w, $ls,*])
section
variable {w : Nat} {X : Nat → Prop}
/-! ### how many values a kind has -/
/-- rows and bags: told as 3000 -/
def szK : Nat → D → Nat
  | 0, _ => 0
  | k + 1, d => match d with
    | .tup [.str .number, .int n] => n.toNat
    | .tup [.str .row, _] => 3000
    | .tup [.str .bag, _] => 3000
    | .tup [.str .set, x] => 2 ^ szK k x
    | .tup [.str .table, x, y] => (1 + szK k y) ^ szK k x
    | .tup [.str .choice, .tup l] => (l.map (szK k)).sum
    | .tup [.str .record, .tup l] => (l.map (szK k)).foldr (· * ·) 1
    | _ => 0
theorem isW_int {x : D} {a b : Int} (h : isW x a b = true) : ∃ n : Int, x = .int n ∧ a ≤ n ∧ n ≤ b := by
  cases x <;> first | (simp [isW] at h; done) | skip
  rename_i n
  simp only [isW, Bool.and_eq_true, decide_eq_true_eq] at h
  exact ⟨n, rfl, h.1, h.2⟩
/-- the sorts of kinds -/
theorem kcases {k : Nat} {d : D} (h : isK (k + 1) d = true) :
    (∃ n : Nat, d = .tup [.str .number, .int n] ∧ 2 ≤ n ∧ n ≤ 1000) ∨ (∃ l, d = .tup [.str .record, .tup l] ∧ 1 ≤ l.length ∧ l.length ≤ 4 ∧ ∀ x ∈ l, isK k x = true) ∨ (∃ l, d = .tup [.str .choice, .tup l] ∧ 2 ≤ l.length ∧ l.length ≤ 4 ∧ ∀ x ∈ l, isK k x = true) ∨
    (∃ x, d = .tup [.str .row, x] ∧ isK k x = true) ∨ (∃ x, d = .tup [.str .set, x] ∧ isK k x = true) ∨ (∃ x, d = .tup [.str .bag, x] ∧ isK k x = true) ∨ (∃ x y, d = .tup [.str .table, x, y] ∧ isK k x = true ∧ isK k y = true) := by
  replace h : (match innerK d with | none => false | some l => l.all (isK k)) = true := h
  cases hi : innerK d with
  | none => rw [hi] at h; cases h
  | some l =>
    rw [hi] at h
    replace h : l.all (isK k) = true := h
    rw [List.all_eq_true] at h
    rcases innerK_cases hi with ⟨x, rfl, hw, rfl⟩ | ⟨rfl, h1, h2⟩ | ⟨rfl, h1, h2⟩ | ⟨x, rfl, rfl⟩ | ⟨x, rfl, rfl⟩ | ⟨x, rfl, rfl⟩ | ⟨x, y, rfl, rfl⟩
    · obtain ⟨n, rfl, n1, n2⟩ := isW_int hw
      obtain ⟨j, rfl⟩ := Int.eq_ofNat_of_zero_le (show 0 ≤ n by omega)
      exact .inl ⟨j, rfl, by omega, by omega⟩
    · exact .inr (.inl ⟨l, rfl, h1, h2, h⟩)
    · exact .inr (.inr (.inl ⟨l, rfl, h1, h2, h⟩))
    · exact .inr (.inr (.inr (.inl ⟨x, rfl, h x (by simp)⟩)))
    · exact .inr (.inr (.inr (.inr (.inl ⟨x, rfl, h x (by simp)⟩))))
    · exact .inr (.inr (.inr (.inr (.inr (.inl ⟨x, rfl, h x (by simp)⟩)))))
    · exact .inr (.inr (.inr (.inr (.inr (.inr ⟨x, y, rfl, h x (by simp), h y (by simp)⟩)))))
theorem foldr_two : ∀ {l : List Nat}, (∀ x ∈ l, 2 ≤ x) → 1 ≤ l.foldr (· * ·) 1
  | [], _ => by simp
  | x :: l, h => by
    have h1 := h x List.mem_cons_self
    have h2 := foldr_two (l := l) fun y hy => h y (List.mem_cons_of_mem _ hy)
    show 1 ≤ x * l.foldr (· * ·) 1
    exact Nat.le_trans (by omega) (Nat.mul_le_mul h1 h2)
theorem two_pow_ge : ∀ n : Nat, n + 1 ≤ 2 ^ n
  | 0 => by simp
  | n + 1 => by have := two_pow_ge n; rw [Nat.pow_succ]; omega
theorem pow_ge {b n : Nat} (hb : 2 ≤ b) : n + 1 ≤ b ^ n := Nat.le_trans (two_pow_ge n) (Nat.pow_le_pow_left hb n)
theorem pow_ge1 {b n : Nat} (hb : 1 ≤ b) (hn : 1 ≤ n) : b ≤ b ^ n := by
  have := Nat.pow_le_pow_right hb hn
  rwa [Nat.pow_one] at this
theorem szK_two : ∀ {k : Nat} {d : D}, isK k d = true → 2 ≤ szK k d
  | 0, d, h => by cases h
  | k + 1, d, h => by
    rcases kcases h with ⟨n, rfl, h1, h2⟩ | ⟨l, rfl, h1, h2, hl⟩ | ⟨l, rfl, h1, h2, hl⟩ | ⟨x, rfl, hx⟩ | ⟨x, rfl, hx⟩ | ⟨x, rfl, hx⟩ | ⟨x, y, rfl, hx, hy⟩
    · exact h1
    · match l, h1 with
      | x :: l, _ =>
        show 2 ≤ szK k x * (l.map (szK k)).foldr (· * ·) 1
        have a := szK_two (hl x List.mem_cons_self)
        have b : 1 ≤ (l.map (szK k)).foldr (· * ·) 1 := foldr_two fun y hy => by
          obtain ⟨z, hz, rfl⟩ := List.mem_map.mp hy
          exact szK_two (hl z (List.mem_cons_of_mem _ hz))
        exact Nat.mul_le_mul a b
    · match l, h1 with
      | x :: y :: l, _ =>
        show 2 ≤ (szK k x :: (y :: l).map (szK k)).sum
        have a := szK_two (hl x List.mem_cons_self)
        rw [List.sum_cons]
        omega
    · exact (by decide : 2 ≤ 3000)
    · show 2 ≤ 2 ^ szK k x
      have := two_pow_ge (szK k x)
      have := szK_two hx
      omega
    · exact (by decide : 2 ≤ 3000)
    · show 2 ≤ (1 + szK k y) ^ szK k x
      have a := szK_two hx
      have b := szK_two hy
      have := pow_ge1 (b := 1 + szK k y) (n := szK k x) (by omega) (by omega)
      omega
theorem imin {a b : Nat} : (if (b : Int) < (a : Int) then (b : Int) else (a : Int)) = ((min a b : Nat) : Int) := by
  split <;> omega
theorem small_l {a b : Int} (h : a.natAbs < 2 ^ 64) : smallMul a b = true := by unfold smallMul; rw [Bool.or_eq_true]; left; exact decide_eq_true h
theorem small_r {a b : Int} (h : b.natAbs < 2 ^ 64) : smallMul a b = true := by unfold smallMul; rw [Bool.or_eq_true]; right; exact decide_eq_true h
theorem smallI_nat {n : Nat} (h : n < 4000) : smallI n = true := by unfold smallI; simp; omega
theorem smallI_int {i : Int} (h0 : 0 ≤ i) (h : i < 4000) : smallI i = true := by unfold smallI; simp; omega
theorem rangeL_len' {n : Nat} : (rangeL 0 n).length = n := by
  unfold rangeL; simp
/-- power_up_to -/
theorem power_ok {m b n M : Nat} (hm : 1 ≤ m) (hb : 2 ≤ b) (hb2 : b ≤ 2002) (hn : n ≤ 2001) (hM : M ≤ 2000) : callN tbl w m 36 [.int b, .int n, .int M] = .ok (.int (min (b ^ n) (M + 1) : Nat), []) := by
  obtain ⟨m, rfl⟩ : ∃ n, m = n + 1 := ⟨m - 1, by omega⟩
  apply eq_of_w2
  generalize e1 : (b : Int) = bi
  generalize e2 : (n : Int) = ni
  generalize e3 : (M : Int) = Mi
  refine go rfl rfl ?_
  simp_arith []
  refine ps_forU ?_
  simp_arith [smallI_int (show 0 ≤ ni by omega) (show ni < 4000 by omega)]
  have hl : (rangeL 0 ni).length = n := by rw [← e2, rangeL_len']
  refine forU_ind (fun xs ρ => ∃ (j : Nat) (f : Int) (s : Option (D × Nat)), Fr s ∧ j + xs.length = n ∧ b ^ j ≤ M + 1 ∧ f = ((b ^ j : Nat) : Int) ∧ ρ = [some (.int bi, 0), some (.int ni, 0), some (.int Mi, 0), some (.int f, 0), s]) ⟨0, _, _, fr_none, by rw [hl]; omega, by simp, by simp, rfl⟩ ?_ ?_
  · rintro x xs _ ⟨j, f, s, fs, hj, hb3, hf, rfl⟩
    have e : f * bi = ((b ^ (j + 1) : Nat) : Int) := by rw [Nat.pow_succ, hf, ← e1]; exact (Int.natCast_mul _ _).symm
    have sm : smallMul f bi = true := small_r (by omega)
    simp_arith [b_fr fs, sm]
    refine ite_w (fun h => ?_) (fun h => ?_)
    · simp_arith []
      have q : b ^ (j + 1) ≤ b ^ n := Nat.pow_le_pow_right (by omega) (by rw [← hj]; simp)
      have q2 : M < b ^ (j + 1) := by omega
      congr 2
      omega
    · simp_arith []
      exact ⟨j + 1, _, _, fr_some, by rw [← hj, List.length_cons]; omega, by omega, e, rfl⟩
  · rintro _ ⟨j, f, s, fs, hj, hb3, hf, rfl⟩
    simp_arith []
    have hj : j = n := by simpa using hj
    subst hj
    congr 2
    omega
end
end Cg
set_option linter.all false
set_option maxRecDepth 100000
namespace Cg
open F
local macro_rules
  | `(tactic| simp_arith [$ls,*]) => `(tactic| try simp (config := { implicitDefEqProofs := false, maxSteps := 2000000 }) only [↓k_mk, ↓k_mk2, ↓w1_bind, ↓w2_bind, ↓w1_ite, ↓w2_ite, ↓w1_ok, ↓w1_exc, ↓w1_bad, ↓w2_ok, ↓w2_exc, ↓w2_bad, ↓see_b, ↓now_b, ↓opt_omit, ↓opt_k, ↓see_k, ↓now_k, ↓see_v, ↓now_v, ↓opt_v, ↓see_tup, ↓now_tup, ↓opt_tup, ↓see_lst, ↓now_lst, ↓opt_lst, ↓see_dict, ↓now_dict, ↓opt_dict, ↓see_bin, ↓now_bin, ↓opt_bin, ↓see_cmp, ↓now_cmp, ↓opt_cmp, ↓see_chain, ↓now_chain, ↓opt_chain, ↓see_not, ↓now_not, ↓opt_not, ↓see_and, ↓now_and, ↓opt_and, ↓see_or, ↓now_or, ↓opt_or, ↓see_ite, ↓now_ite, ↓opt_ite, ↓see_idx, ↓now_idx, ↓opt_idx, ↓see_idxd, ↓now_idxd, ↓opt_idxd, ↓see_ind, ↓now_ind, ↓opt_ind, ↓see_idx2, ↓now_idx2, ↓opt_idx2, ↓see_any2, ↓now_any2, ↓opt_any2, ↓see_slice, ↓now_slice, ↓opt_slice, ↓see_call, ↓now_call, ↓opt_call, ↓see_b1, ↓now_b1, ↓opt_b1, ↓see_b2, ↓now_b2, ↓opt_b2, ↓see_b3, ↓now_b3, ↓opt_b3, ↓see_get, ↓now_get, ↓opt_get, ↓see_count, ↓now_count, ↓opt_count, ↓see_index, ↓now_index, ↓opt_index, ↓see_isa, ↓now_isa, ↓opt_isa, ↓see_isExc, ↓now_isExc, ↓opt_isExc, ↓see_mkExc, ↓now_mkExc, ↓opt_mkExc, ↓see_lc, ↓now_lc, ↓opt_lc, ↓see_lc2, ↓now_lc2, ↓opt_lc2, ↓see_gsum, ↓now_gsum, ↓opt_gsum, ↓see_gall, ↓now_gall, ↓opt_gall, ↓see_gall2, ↓now_gall2, ↓opt_gall2, ↓see_grid, ↓now_grid, ↓opt_grid, ↓see_empties, ↓now_empties, ↓opt_empties, ↓e_k, ↓e_v, ↓e_tup, ↓e_lst, ↓e_dict, ↓e_bin, ↓e_cmp, ↓e_chain, ↓e_not, ↓pbool, ↓e_and, ↓e_or, ↓e_ite, ↓e_idx, ↓e_idxd, ↓e_ind, ↓e_any2, ↓plst, ↓e_idx2, ↓e_slice, ↓e_call, ↓e_b1, ↓e_b2, ↓e_b3, ↓e_get, ↓e_count, ↓e_index, ↓e_isa, ↓e_isExc, ↓e_mkExc, ↓t_not, ↓t_and, ↓t_or, ↓t_of, ↓es_nil, ↓es_cons, ↓as_nil, ↓as_io, ↓as_tmp, ↓i_val, ↓pint, ↓i_range, ↓i_range2, ↓i_zip2, ↓i_zip3, ↓i_enum, ↓i_rev, ↓s_set, ↓s_ret, ↓s_retv, ↓s_retN, ↓s_raise, ↓s_brk, ↓s_cont, ↓s_pass, ↓s_ex, ↓s_ifs, ↓s_app, ↓s_ext, ↓s_put, ↓s_unpack, ↓s_par, ↓s_aug, ↓af_next, ↓af_ret, ↓af_brk, ↓af_cont, ↓ss_nil, ↓ss_cons, ↓b_n, ↓b_0n, ↓b_00, ↓b_01, ↓b_02, ↓bt_nm, ↓bt_tup, ↓bts_nil, ↓bts_cons, ↓bp_nil, ↓bp_cons, ↓as_k, ↓as_v, ↓as_tup, ↓as_lst, ↓as_dict, ↓as_bin, ↓as_cmp, ↓as_chain, ↓as_not, ↓as_and, ↓as_or, ↓as_ite, ↓as_idx, ↓as_idxd, ↓as_ind, ↓as_idx2, ↓as_any2, ↓as_slice, ↓as_call, ↓as_b1, ↓as_b2, ↓as_b3, ↓as_get, ↓as_count, ↓as_index, ↓as_isa, ↓as_isExc, ↓as_mkExc, ↓as_lc, ↓as_lc2, ↓as_gsum, ↓as_gall, ↓as_gall2, ↓as_grid, ↓as_empties, ↓fin_next, ↓fin_ret, ↓pc_, ↓pg_, ↓pl_, ↓fu_nil, ↓fu_cons, ↓tj_next, ↓tj_cont, ↓tj_brk, ↓tj_ret, ↓tc_next, ↓tc_cont, ↓tc_brk, ↓tc_ret, getS_0, getS_1, getS_2, getS_n, valS_0, valS_n, seeS_0, seeS_01, seeS_03, seeS_04, seeS_n, ownS_01l, ownS_03l, ownS_01d, ownS_03d, ownS_n, own2S_0, own2S_n, listOwn_01, listOwn_03, listOwn_n, putS_0, putS_n, letGo_nil, letGo_cons, lg1_n, lg1_0n, lg1_00, lg1_01, lg1_02, lg1_03, lg1_04, wipe_nil, wipe_cons, back_nil, back_cons, pl_nil, nt_nm, nt_tup, nts_nil, nts_cons, am_nil, am_lst, am_dct, out_nil, out_f, out_t, os_nil, os_io, os_tmp, os_k, os_v, os_tup, os_lst, os_dict, os_bin, os_cmp, os_chain, os_not, os_and, os_or, os_ite, os_idx, os_idxd, os_ind, os_idx2, os_any2, os_slice, os_call, os_b1, os_b2, os_b3, os_get, os_count, os_index, os_isa, os_isExc, os_mkExc, os_lc, os_lc2, os_gsum, os_gall, os_gall2, os_grid, os_empties, ty_int_non, ty_int_bool, ty_int_int, ty_int_str, ty_int_tup, ty_int_lst, ty_bool_non, ty_bool_bool, ty_bool_int, ty_bool_str, ty_bool_tup, ty_bool_lst, ty_tuple_non, ty_tuple_bool, ty_tuple_int, ty_tuple_str, ty_tuple_tup, ty_tuple_lst, ty_str_non, ty_str_bool, ty_str_int, ty_str_str, ty_str_tup, ty_str_lst, tb_bool, tr_non, tr_bool, tr_int, tr_str, tr_tup, tr_lst, toInt_int, bin_addi, bin_addt, bin_addl, bin_sub, bin_mul, bin_mult, bin_mull, bin_fdiv, bin_mod, bin_pow, cmp_eq, cmp_ne, cmp_lt, cmp_le, cmp_gt, cmp_ge, cmp_is, cmp_isNot, cmp_int, cmp_inl, cmp_nint, cmp_ninl, eq_ii, eq_ss, eq_bb, lt_ii, is_non_n, is_bool_n, is_int_n, is_str_n, is_tup_n, is_lst_n, ix_t, ix_l, sl_t, sl_l, it_t, it_l, it_s, b1_lent, b1_lenl, b1_int, b1_abs, b1_neg, b1_sum, b1_min, b1_max, b1_anyl, b1_anyt, b1_tupl, b1_tupt, b1_lstl, b1_lstt, b1_sortl, b1_sortt, b1_sortk, b1_repr, b1_strExc, b2_min, b2_max, ise_, out_e, now_, List.zipWith, List.replicate, List.cons_append, List.nil_append, List.append_nil, List.getElem?_cons_zero, List.getElem?_cons_succ, List.set_cons_zero, List.set_cons_succ, List.all_cons, List.all_nil, Bool.and_true, Bool.true_and, Bool.false_and, Bool.and_false, Bool.or_true, Bool.true_or, Bool.or_false, Bool.false_or, Bool.not_true, Bool.not_false, ↓reduceIte, if_true, if_false, Bool.false_eq_true, D.isMut, Nat.sub_self, Nat.reduceSub, Nat.reduceAdd, decide_true, decide_false, beq_self_eq_true, List.length_cons, List.length_nil, weq, reduceCtorEq, decide_eq_true_eq, Int.reduceLT, Int.reduceLE, Int.reduceEq, Int.reduceAdd, Int.reduceSub, Int.reduceNeg, Nat.reduceLT, Nat.reduceLeDiff, Int.cast_ofNat_Int, Nat.zero_add, Int.reduceToNat, and_true, true_and, and_false, false_and, not_true_eq_false, not_false_eq_true, isS_s, Bool.or_eq_true, Bool.and_eq_true, Bool.not_eq_true', decide_eq_false_iff_not, Bool.not_not, nbool_in, plainS, namesT, namesTs, intsR_map, inR_ints, nth0, nth1, nth2, nth3, slice1, beq_iff_eq, bne_iff_ne, ne_eq, or_true, true_or, or_false, false_or, intlit_beq, mkt0, mkt1, mkt2, mkt3, mkt4, mkt5, mkt6, mkt7, mkt8, mkt9, mkt10, mkt11, mkt12, mkt13, mkt14, mkt15, mkt16, mkt17, mkt18, mkt19, mkl0, mkl1, mkl2, mkl3, mkl4, mkl5, mkl6, mkl7, mkl8, mkl9, mkl10, mkl11, mkl12, mkl13, mkl14, mkl15, mkl16, mkl17, mkl18, mkl19, in1w, in2w, in3w, in4w, in5w, in6w, in7w, in8w, $ls,*])
section
variable {w : Nat} {X : Nat → Prop}
theorem power_int {m : Nat} {b n M : Int} (hm : 1 ≤ m) (hb : 2 ≤ b) (hb2 : b ≤ 2002) (h0 : 0 ≤ n) (hn : n ≤ 2001) (hM0 : 0 ≤ M) (hM : M ≤ 2000) : ∃ c : Int, callN tbl w m 36 [.int b, .int n, .int M] = .ok (.int c, []) ∧ c = min ((b.toNat ^ n.toNat : Nat) : Int) (M + 1) := by
  obtain ⟨b, rfl⟩ := Int.eq_ofNat_of_zero_le (show 0 ≤ b by omega)
  obtain ⟨n, rfl⟩ := Int.eq_ofNat_of_zero_le h0
  obtain ⟨M, rfl⟩ := Int.eq_ofNat_of_zero_le hM0
  refine ⟨_, power_ok hm (by omega) (by omega) (by omega) (by omega), ?_⟩
  rw [Int.toNat_natCast, Int.toNat_natCast]
  omega
theorem w1f {c : Int} {d : D} {r : R (D × List D)} (h : r = .ok (d, [])) : r = .ok (d, []) := h
theorem sat_mul {f C r M : Nat} (hf : 1 ≤ f) (hr : 1 ≤ r) : min (min (f * min C (M + 1)) (M + 1) * r) (M + 1) = min (f * C * r) (M + 1) := by
  by_cases h1 : C ≤ M + 1
  · rw [Nat.min_eq_left h1]
    by_cases h2 : f * C ≤ M + 1
    · rw [Nat.min_eq_left h2]
    · have h3 : M + 1 ≤ (M + 1) * r := Nat.le_mul_of_pos_right _ hr
      have h4 : f * C ≤ f * C * r := Nat.le_mul_of_pos_right _ hr
      rw [Nat.min_eq_right (a := f * C) (by omega), Nat.min_eq_right h3, Nat.min_eq_right (by omega)]
  · have h0 : M + 1 ≤ f * (M + 1) := Nat.le_mul_of_pos_left _ hf
    have h3 : M + 1 ≤ (M + 1) * r := Nat.le_mul_of_pos_right _ hr
    have h4 : f * C ≤ f * C * r := Nat.le_mul_of_pos_right _ hr
    have h5 : C ≤ f * C := Nat.le_mul_of_pos_left _ hf
    rw [Nat.min_eq_right (a := C) (by omega), Nat.min_eq_right h0, Nat.min_eq_right h3, Nat.min_eq_right (by omega)]
theorem sat_sum {k M : Nat} : ∀ {l : List D}, min ((l.map fun x => min (szK k x) (M + 1)).sum) (M + 1) = min ((l.map (szK k)).sum) (M + 1)
  | [] => rfl
  | x :: l => by
    have := sat_sum (k := k) (M := M) (l := l)
    simp only [List.map_cons, List.sum_cons]
    omega
theorem sat_pow {a b M : Nat} (ha : 2 ≤ a) (hb : 1 ≤ b) : min ((1 + min b (M + 1)) ^ min a (M + 1)) (M + 1) = min ((1 + b) ^ a) (M + 1) := by
  by_cases h1 : a ≤ M + 1
  · rw [Nat.min_eq_left h1]
    by_cases h2 : b ≤ M + 1
    · rw [Nat.min_eq_left h2]
    · have q1 := pow_ge1 (b := 1 + (M + 1)) (n := a) (by omega) (by omega)
      have q2 := pow_ge1 (b := 1 + b) (n := a) (by omega) (by omega)
      rw [Nat.min_eq_right (a := b) (by omega), Nat.min_eq_right (by omega), Nat.min_eq_right (by omega)]
  · have q1 := pow_ge (b := 1 + min b (M + 1)) (n := M + 1) (by omega)
    have q2 := pow_ge (b := 1 + b) (n := a) (by omega)
    rw [Nat.min_eq_right (a := a) (by omega), Nat.min_eq_right (by omega), Nat.min_eq_right (by omega)]
theorem sat_pow2 {a M : Nat} : min (2 ^ min a (M + 1)) (M + 1) = min (2 ^ a) (M + 1) := by
  by_cases h1 : a ≤ M + 1
  · rw [Nat.min_eq_left h1]
  · have q1 := pow_ge (b := 2) (n := M + 1) (by omega)
    have q2 := pow_ge (b := 2) (n := a) (by omega)
    rw [Nat.min_eq_right (a := a) (by omega), Nat.min_eq_right (by omega), Nat.min_eq_right (by omega)]
theorem sumInt {l : List D} {f : D → Nat} : (l.map fun x => ((f x : Nat) : Int)).sum = (((l.map f).sum : Nat) : Int) := by
  induction l with
  | nil => rfl
  | cons x l ih => simp only [List.map_cons, List.sum_cons, ih]; omega
/-- count_up_to -/
theorem count_ok : ∀ {k m : Nat} {d : D} {M : Nat} (hm : k + 2 ≤ m) (hk : isK k d = true) (hM : M ≤ 2000), ∃ c : Int, callN tbl w m 37 [d, .int M] = .ok (.int c, []) ∧ c = ((min (szK k d) (M + 1) : Nat) : Int)
  | 0, m, d, M, hm, hk, hM => by cases hk
  | k + 1, 0, d, M, hm, hk, hM => by omega
  | k + 1, m + 1, d, M, hm, hk, hM => by
    have ih : ∀ {d : D}, isK k d = true → ∃ c : Int, callN tbl w m 37 [d, .int M] = .ok (.int c, []) ∧ c = ((min (szK k d) (M + 1) : Nat) : Int) := fun h => count_ok (by omega) h hM
    have z2 := szK_two hk
    rcases kcases hk with ⟨n, rfl, h1, h2⟩ | ⟨l, rfl, h1, h2, hl⟩ | ⟨l, rfl, h1, h2, hl⟩ | ⟨x, rfl, hx⟩ | ⟨x, rfl, hx⟩ | ⟨x, rfl, hx⟩ | ⟨x, y, rfl, hx, hy⟩
    all_goals
      refine ⟨_, ?_, rfl⟩
      generalize hc : ((min (szK (k + 1) _) (M + 1) : Nat) : Int) = c
      apply eq_of_w2
      generalize e1 : (M : Int) = Mi at ih ⊢
    · generalize e2 : (n : Int) = ni
      refine go rfl rfl ?_
      simp_arith []
      congr 1
      have e3 : szK (k + 1) (.tup [.str .number, .int (n : Int)]) = n := Int.toNat_natCast n
      rw [e3] at hc
      split <;> omega
    · refine go rfl rfl ?_
      simp_arith []
      refine ps_forU ?_
      simp_arith []
      refine forU_ind (fun xs ρ => ∃ (f : Nat) (fi : Int) (s : Option (D × Nat)), Fr s ∧ 1 ≤ f ∧ f ≤ M + 1 ∧ fi = f ∧ (∀ x ∈ xs, isK k x = true) ∧ min (f * (xs.map (szK k)).foldr (· * ·) 1) (M + 1) = min (szK (k + 1) (.tup [.str .record, .tup l])) (M + 1) ∧
        ρ = [some (.tup [.str .record, .tup l], 0), some (.int Mi, 0), some (.str .record, 0), none, none, some (.int fi, 0), s]) ⟨1, 1, _, fr_none, by omega, by omega, rfl, hl, by rw [Nat.one_mul]; rfl, rfl⟩ ?_ ?_
      · rintro x xs _ ⟨f, fi, s, fs, f1, f2, hf, hxs, hs, rfl⟩
        obtain ⟨c', ec, hc'⟩ := ih (hxs x List.mem_cons_self)
        have hr : 1 ≤ (xs.map (szK k)).foldr (· * ·) 1 := foldr_two fun y hy => by
          obtain ⟨z, hz, rfl⟩ := List.mem_map.mp hy
          exact szK_two (hxs z (List.mem_cons_of_mem _ hz))
        have sm : smallMul fi c' = true := small_r (by omega)
        have em : fi * c' = ((f * min (szK k x) (M + 1) : Nat) : Int) := by rw [hf, hc']; exact (Int.natCast_mul _ _).symm
        have pos : 1 ≤ f * min (szK k x) (M + 1) := Nat.mul_le_mul f1 (show 1 ≤ min (szK k x) (M + 1) by have := szK_two (hxs x List.mem_cons_self); omega)
        simp_arith [b_fr fs, w2_eq ec, sm]
        refine ⟨min (f * min (szK k x) (M + 1)) (M + 1), _, _, fr_some, by omega, by omega, ?_, fun y hy => hxs y (List.mem_cons_of_mem _ hy), ?_, rfl⟩
        · rw [em]
          split <;> omega
        · rw [sat_mul f1 hr, ← hs, List.map_cons, List.foldr_cons, Nat.mul_assoc]
      · rintro _ ⟨f, fi, s, fs, f1, f2, hf, hxs, hs, rfl⟩
        simp_arith []
        congr 1
        simp only [List.map_nil, List.foldr_nil, Nat.mul_one] at hs
        omega
    · refine go rfl rfl ?_
      simp_arith []
      refine pe_gsum (fun x => some ((min (szK k x) (M + 1) : Nat) : Int)) rfl ?_
      simp_arith []
      refine sum_mk rfl (fun x hx => ?_) ?_
      · obtain ⟨c', ec, hc'⟩ := ih (hl x hx)
        simp_arith [w2_eq ec]
        rw [hc']
        rfl
      · simp_arith []
        congr 1
        have e3 : szK (k + 1) (.tup [.str .choice, .tup l]) = (l.map (szK k)).sum := rfl
        rw [e3, ← sat_sum] at hc
        rw [List.filterMap_eq_map', sumInt]
        split <;> omega
    · refine go rfl rfl ?_
      simp_arith []
      congr 1
      have e3 : szK (k + 1) (.tup [.str .row, x]) = 3000 := rfl
      rw [e3] at hc
      omega
    · obtain ⟨c', ec, hc'⟩ := ih hx
      obtain ⟨p, ep, hp⟩ := power_int (w := w) (m := m) (b := 2) (n := c') (M := Mi) (by omega) (by omega) (by omega) (by omega) (by omega) (by omega) (by omega)
      refine go rfl rfl ?_
      simp_arith [w2_eq ec, w2_eq ep]
      congr 1
      have e3 : szK (k + 1) (.tup [.str .set, x]) = 2 ^ szK k x := rfl
      have e4 : c'.toNat = min (szK k x) (M + 1) := by omega
      rw [e3, ← sat_pow2, ← e4] at hc
      rw [hp, ← hc, ← e1]
      show min ((2 ^ c'.toNat : Nat) : Int) ((M : Int) + 1) = _
      omega
    · refine go rfl rfl ?_
      simp_arith []
      congr 1
      have e3 : szK (k + 1) (.tup [.str .bag, x]) = 3000 := rfl
      rw [e3] at hc
      omega
    · obtain ⟨c', ec, hc'⟩ := ih hx
      obtain ⟨c2, ec2, hc2⟩ := ih hy
      have y2 := szK_two hy
      obtain ⟨p, ep, hp⟩ := power_int (w := w) (m := m) (b := 1 + c2) (n := c') (M := Mi) (by omega) (by omega) (by omega) (by omega) (by omega) (by omega) (by omega)
      refine go rfl rfl ?_
      simp_arith [w2_eq ec, w2_eq ec2, w2_eq ep]
      congr 1
      have e3 : szK (k + 1) (.tup [.str .table, x, y]) = (1 + szK k y) ^ szK k x := rfl
      have e4 : c'.toNat = min (szK k x) (M + 1) := by omega
      have e5 : (1 + c2).toNat = 1 + min (szK k y) (M + 1) := by omega
      rw [e3, ← sat_pow (szK_two hx) (by omega), ← e4, ← e5] at hc
      rw [hp, ← hc, ← e1]
      omega
end
end Cg
set_option linter.all false
set_option maxRecDepth 100000
namespace Cg
open F
local macro_rules
  | `(tactic| simp_arith [$ls,*]) => `(tactic| try simp (config := { implicitDefEqProofs := false, maxSteps := 2000000 }) only [↓k_mk, ↓k_mk2, ↓w1_bind, ↓w2_bind, ↓w1_ite, ↓w2_ite, ↓w1_ok, ↓w1_exc, ↓w1_bad, ↓w2_ok, ↓w2_exc, ↓w2_bad, ↓see_b, ↓now_b, ↓opt_omit, ↓opt_k, ↓see_k, ↓now_k, ↓see_v, ↓now_v, ↓opt_v, ↓see_tup, ↓now_tup, ↓opt_tup, ↓see_lst, ↓now_lst, ↓opt_lst, ↓see_dict, ↓now_dict, ↓opt_dict, ↓see_bin, ↓now_bin, ↓opt_bin, ↓see_cmp, ↓now_cmp, ↓opt_cmp, ↓see_chain, ↓now_chain, ↓opt_chain, ↓see_not, ↓now_not, ↓opt_not, ↓see_and, ↓now_and, ↓opt_and, ↓see_or, ↓now_or, ↓opt_or, ↓see_ite, ↓now_ite, ↓opt_ite, ↓see_idx, ↓now_idx, ↓opt_idx, ↓see_idxd, ↓now_idxd, ↓opt_idxd, ↓see_ind, ↓now_ind, ↓opt_ind, ↓see_idx2, ↓now_idx2, ↓opt_idx2, ↓see_any2, ↓now_any2, ↓opt_any2, ↓see_slice, ↓now_slice, ↓opt_slice, ↓see_call, ↓now_call, ↓opt_call, ↓see_b1, ↓now_b1, ↓opt_b1, ↓see_b2, ↓now_b2, ↓opt_b2, ↓see_b3, ↓now_b3, ↓opt_b3, ↓see_get, ↓now_get, ↓opt_get, ↓see_count, ↓now_count, ↓opt_count, ↓see_index, ↓now_index, ↓opt_index, ↓see_isa, ↓now_isa, ↓opt_isa, ↓see_isExc, ↓now_isExc, ↓opt_isExc, ↓see_mkExc, ↓now_mkExc, ↓opt_mkExc, ↓see_lc, ↓now_lc, ↓opt_lc, ↓see_lc2, ↓now_lc2, ↓opt_lc2, ↓see_gsum, ↓now_gsum, ↓opt_gsum, ↓see_gall, ↓now_gall, ↓opt_gall, ↓see_gall2, ↓now_gall2, ↓opt_gall2, ↓see_grid, ↓now_grid, ↓opt_grid, ↓see_empties, ↓now_empties, ↓opt_empties, ↓e_k, ↓e_v, ↓e_tup, ↓e_lst, ↓e_dict, ↓e_bin, ↓e_cmp, ↓e_chain, ↓e_not, ↓pbool, ↓e_and, ↓e_or, ↓e_ite, ↓e_idx, ↓e_idxd, ↓e_ind, ↓e_any2, ↓plst, ↓e_idx2, ↓e_slice, ↓e_call, ↓e_b1, ↓e_b2, ↓e_b3, ↓e_get, ↓e_count, ↓e_index, ↓e_isa, ↓e_isExc, ↓e_mkExc, ↓t_not, ↓t_and, ↓t_or, ↓t_of, ↓es_nil, ↓es_cons, ↓as_nil, ↓as_io, ↓as_tmp, ↓i_val, ↓pint, ↓i_range, ↓i_range2, ↓i_zip2, ↓i_zip3, ↓i_enum, ↓i_rev, ↓s_set, ↓s_ret, ↓s_retv, ↓s_retN, ↓s_raise, ↓s_brk, ↓s_cont, ↓s_pass, ↓s_ex, ↓s_ifs, ↓s_app, ↓s_ext, ↓s_put, ↓s_unpack, ↓s_par, ↓s_aug, ↓af_next, ↓af_ret, ↓af_brk, ↓af_cont, ↓ss_nil, ↓ss_cons, ↓b_n, ↓b_0n, ↓b_00, ↓b_01, ↓b_02, ↓bt_nm, ↓bt_tup, ↓bts_nil, ↓bts_cons, ↓bp_nil, ↓bp_cons, ↓as_k, ↓as_v, ↓as_tup, ↓as_lst, ↓as_dict, ↓as_bin, ↓as_cmp, ↓as_chain, ↓as_not, ↓as_and, ↓as_or, ↓as_ite, ↓as_idx, ↓as_idxd, ↓as_ind, ↓as_idx2, ↓as_any2, ↓as_slice, ↓as_call, ↓as_b1, ↓as_b2, ↓as_b3, ↓as_get, ↓as_count, ↓as_index, ↓as_isa, ↓as_isExc, ↓as_mkExc, ↓as_lc, ↓as_lc2, ↓as_gsum, ↓as_gall, ↓as_gall2, ↓as_grid, ↓as_empties, ↓fin_next, ↓fin_ret, ↓pc_, ↓pg_, ↓pl_, ↓fu_nil, ↓fu_cons, ↓tj_next, ↓tj_cont, ↓tj_brk, ↓tj_ret, ↓tc_next, ↓tc_cont, ↓tc_brk, ↓tc_ret, getS_0, getS_1, getS_2, getS_n, valS_0, valS_n, seeS_0, seeS_01, seeS_03, seeS_04, seeS_n, ownS_01l, ownS_03l, ownS_01d, ownS_03d, ownS_n, own2S_0, own2S_n, listOwn_01, listOwn_03, listOwn_n, putS_0, putS_n, letGo_nil, letGo_cons, lg1_n, lg1_0n, lg1_00, lg1_01, lg1_02, lg1_03, lg1_04, wipe_nil, wipe_cons, back_nil, back_cons, pl_nil, nt_nm, nt_tup, nts_nil, nts_cons, am_nil, am_lst, am_dct, out_nil, out_f, out_t, os_nil, os_io, os_tmp, os_k, os_v, os_tup, os_lst, os_dict, os_bin, os_cmp, os_chain, os_not, os_and, os_or, os_ite, os_idx, os_idxd, os_ind, os_idx2, os_any2, os_slice, os_call, os_b1, os_b2, os_b3, os_get, os_count, os_index, os_isa, os_isExc, os_mkExc, os_lc, os_lc2, os_gsum, os_gall, os_gall2, os_grid, os_empties, ty_int_non, ty_int_bool, ty_int_int, ty_int_str, ty_int_tup, ty_int_lst, ty_bool_non, ty_bool_bool, ty_bool_int, ty_bool_str, ty_bool_tup, ty_bool_lst, ty_tuple_non, ty_tuple_bool, ty_tuple_int, ty_tuple_str, ty_tuple_tup, ty_tuple_lst, ty_str_non, ty_str_bool, ty_str_int, ty_str_str, ty_str_tup, ty_str_lst, tb_bool, tr_non, tr_bool, tr_int, tr_str, tr_tup, tr_lst, toInt_int, bin_addi, bin_addt, bin_addl, bin_sub, bin_mul, bin_mult, bin_mull, bin_fdiv, bin_mod, bin_pow, cmp_eq, cmp_ne, cmp_lt, cmp_le, cmp_gt, cmp_ge, cmp_is, cmp_isNot, cmp_int, cmp_inl, cmp_nint, cmp_ninl, eq_ii, eq_ss, eq_bb, lt_ii, is_non_n, is_bool_n, is_int_n, is_str_n, is_tup_n, is_lst_n, ix_t, ix_l, sl_t, sl_l, it_t, it_l, it_s, b1_lent, b1_lenl, b1_int, b1_abs, b1_neg, b1_sum, b1_min, b1_max, b1_anyl, b1_anyt, b1_tupl, b1_tupt, b1_lstl, b1_lstt, b1_sortl, b1_sortt, b1_sortk, b1_repr, b1_strExc, b2_min, b2_max, ise_, out_e, now_, List.zipWith, List.replicate, List.cons_append, List.nil_append, List.append_nil, List.getElem?_cons_zero, List.getElem?_cons_succ, List.set_cons_zero, List.set_cons_succ, List.all_cons, List.all_nil, Bool.and_true, Bool.true_and, Bool.false_and, Bool.and_false, Bool.or_true, Bool.true_or, Bool.or_false, Bool.false_or, Bool.not_true, Bool.not_false, ↓reduceIte, if_true, if_false, Bool.false_eq_true, D.isMut, Nat.sub_self, Nat.reduceSub, Nat.reduceAdd, decide_true, decide_false, beq_self_eq_true, List.length_cons, List.length_nil, weq, reduceCtorEq, decide_eq_true_eq, Int.reduceLT, Int.reduceLE, Int.reduceEq, Int.reduceAdd, Int.reduceSub, Int.reduceNeg, Nat.reduceLT, Nat.reduceLeDiff, Int.cast_ofNat_Int, Nat.zero_add, Int.reduceToNat, and_true, true_and, and_false, false_and, not_true_eq_false, not_false_eq_true, isS_s, Bool.or_eq_true, Bool.and_eq_true, Bool.not_eq_true', decide_eq_false_iff_not, Bool.not_not, nbool_in, plainS, namesT, namesTs, intsR_map, inR_ints, nth0, nth1, nth2, nth3, slice1, beq_iff_eq, bne_iff_ne, ne_eq, or_true, true_or, or_false, false_or, intlit_beq, mkt0, mkt1, mkt2, mkt3, mkt4, mkt5, mkt6, mkt7, mkt8, mkt9, mkt10, mkt11, mkt12, mkt13, mkt14, mkt15, mkt16, mkt17, mkt18, mkt19, mkl0, mkl1, mkl2, mkl3, mkl4, mkl5, mkl6, mkl7, mkl8, mkl9, mkl10, mkl11, mkl12, mkl13, mkl14, mkl15, mkl16, mkl17, mkl18, mkl19, in1w, in2w, in3w, in4w, in5w, in6w, in7w, in8w, $ls,*])
section
variable {w : Nat} {X : Nat → Prop}
/-- the number, or None if it is more than M -/
def fewD (k : Nat) (d : D) (M : Nat) : D := if szK k d ≤ M then .int (szK k d) else .non
theorem few_ok {m M : Nat} {d : D} (hm : 11 ≤ m) (hk : kindOk d = true) (hM : M ≤ 2000) : callN tbl w m 38 [d, .int M] = .ok (fewD 5 d M, []) := by
  obtain ⟨m, rfl⟩ : ∃ n, m = n + 1 := ⟨m - 1, by omega⟩
  have hk2 := hk
  rw [kindOk_eq, Bool.and_eq_true] at hk2
  obtain ⟨c, ec, hc⟩ := count_ok (w := w) (k := 5) (m := m) (d := d) (M := M) (by omega) hk2.1 hM
  generalize hr : fewD 5 d M = r
  have ck := check_kind_ok (w := w) (m := m) (by omega) (isK_still hk2.1) hk
  generalize e1 : (M : Int) = Mi at ec ⊢
  apply eq_of_w2
  refine go rfl rfl ?_
  simp_arith [w2_eq ck, w2_eq ec]
  rw [← hr]
  unfold fewD
  by_cases h : szK 5 d ≤ M
  · rw [if_pos h, if_neg (by omega)]
    congr 1
    omega
  · rw [if_neg h, if_pos (by omega)]
theorem few_bad {m M : Nat} {d : D} (hm : 11 ≤ m) (hs : d.still = true) (hk : kindOk d = false) : callN tbl w m 38 [d, .int M] = .exc 1 := by
  obtain ⟨m, rfl⟩ : ∃ n, m = n + 1 := ⟨m - 1, by omega⟩
  apply exc_of_w2
  refine go rfl rfl ?_
  simp_arith [w2_eqx (check_kind_bad (w := w) (m := m) (by omega) hs hk)]
theorem few3_told {m M : Nat} {d : D} (hm : 12 ≤ m) (hk : kindOk d = true) (hM : M ≤ 2000) : callN tbl w m 41 [d, .int M] = .ok (fewD 5 d M, []) := by
  obtain ⟨m, rfl⟩ : ∃ n, m = n + 1 := ⟨m - 1, by omega⟩
  have e := few_ok (w := w) (m := m) (M := M) (by omega) hk hM
  generalize hr : fewD 5 d M = r at e ⊢
  apply eq_of_w2
  refine go rfl rfl ?_
  simp_arith []
  refine ps_try clW ?_
  simp_arith [w2_eq e]
theorem few3_told_bad {m M : Nat} {d : D} (hm : 12 ≤ m) (hs : d.still = true) (hk : kindOk d = false) : callN tbl w m 41 [d, .int M] = .ok (.str .kind, []) := by
  obtain ⟨m, rfl⟩ : ∃ n, m = n + 1 := ⟨m - 1, by omega⟩
  have e := few_bad (w := w) (m := m) (M := M) (by omega) hs hk
  apply eq_of_w2
  refine go rfl rfl ?_
  simp_arith []
  refine ps_try clW ?_
  simp_arith [w2_eqx e, lclass_ok (w := w) (m := m) (c := 1) (by omega) (by omega) (by omega), clW]
theorem nth13 {c : Nat} (h : c ≤ 12) : nthR [.int 1, .int 2, .int 4, .int 8, .int 16, .int 32, .int 64, .int 128, .int 256, .int 512, .int 1024, .int 2048, .int 4096] (c : Int) = .ok (.int ((2 ^ c : Nat) : Int)) := by
  rcases (by omega : c = 0 ∨ c = 1 ∨ c = 2 ∨ c = 3 ∨ c = 4 ∨ c = 5 ∨ c = 6 ∨ c = 7 ∨ c = 8 ∨ c = 9 ∨ c = 10 ∨ c = 11 ∨ c = 12) with rfl | rfl | rfl | rfl | rfl | rfl | rfl | rfl | rfl | rfl | rfl | rfl | rfl <;> rfl
theorem eq_ni {i : Int} : eqR .non (.int i) = .ok false := rfl
theorem range00 : rangeL 0 0 = [] := rfl
theorem plains_few {k M : Nat} : ∀ {l : List D}, D.plains (l.map fun x => fewD k x M) = true
  | [] => rfl
  | x :: l => by
    have h := plains_few (k := k) (M := M) (l := l)
    show ((fewD k x M).plain && D.plains (l.map fun x => fewD k x M)) = true
    rw [h, Bool.and_true]
    unfold fewD
    split <;> rfl
theorem inR_few {k M : Nat} {l : List D} : inR .non (l.map fun x => fewD k x M) = .ok (l.any fun x => !decide (szK k x ≤ M)) := by
  unfold inR
  rw [plains_few]
  rw [if_pos (by rfl)]
  congr 1
  rw [List.any_map]
  congr 1
  funext x
  show (fewD k x M).eqv .non = _
  unfold fewD
  by_cases h : szK k x ≤ M
  · rw [if_pos h, decide_eq_true h]; rfl
  · rw [if_neg h, decide_eq_false h]; rfl
theorem sum_ge {k : Nat} {x : D} : ∀ {l : List D}, x ∈ l → szK k x ≤ (l.map (szK k)).sum
  | y :: l, h => by
    rw [List.map_cons, List.sum_cons]
    rcases List.mem_cons.mp h with rfl | h
    · omega
    · have := sum_ge (k := k) h; omega
theorem prod_ge {k : Nat} {x : D} : ∀ {l : List D}, (∀ y ∈ l, isK k y = true) → x ∈ l → szK k x ≤ (l.map (szK k)).foldr (· * ·) 1
  | y :: l, hl, h => by
    rw [List.map_cons, List.foldr_cons]
    have p1 : 1 ≤ (l.map (szK k)).foldr (· * ·) 1 := foldr_two fun y hy => by
      obtain ⟨z, hz, rfl⟩ := List.mem_map.mp hy
      exact szK_two (hl z (List.mem_cons_of_mem _ hz))
    have p2 := szK_two (hl y List.mem_cons_self)
    rcases List.mem_cons.mp h with rfl | h
    · exact Nat.le_mul_of_pos_right _ p1
    · exact Nat.le_trans (prod_ge (fun y hy => hl y (List.mem_cons_of_mem _ hy)) h) (Nat.le_mul_of_pos_left _ (by omega))
/-- the law's own count -/
theorem lfew_ok : ∀ {k m : Nat} {d : D} {M : Nat} (hm : k + 1 ≤ m) (hk : isK k d = true) (hM : M ≤ 2000), callN tbl w m 39 [d, .int M] = .ok (fewD k d M, [])
  | 0, m, d, M, hm, hk, hM => by cases hk
  | k + 1, 0, d, M, hm, hk, hM => by omega
  | k + 1, m + 1, d, M, hm, hk, hM => by
    have ih : ∀ {d : D} {N : Nat}, N ≤ 2000 → isK k d = true → callN tbl w m 39 [d, .int N] = .ok (fewD k d N, []) := fun h2 h => lfew_ok (by omega) h h2
    have z2 := szK_two hk
    rcases kcases hk with ⟨n, rfl, h1, h2⟩ | ⟨l, rfl, h1, h2, hl⟩ | ⟨l, rfl, h1, h2, hl⟩ | ⟨x, rfl, hx⟩ | ⟨x, rfl, hx⟩ | ⟨x, rfl, hx⟩ | ⟨x, y, rfl, hx, hy⟩
    all_goals
      generalize hr : fewD (k + 1) _ M = r
      generalize e1 : (M : Int) = Mi
      unfold fewD at hr
      apply eq_of_w2
    · have e3 : szK (k + 1) (.tup [.str .number, .int (n : Int)]) = n := Int.toNat_natCast n
      rw [e3] at hr
      generalize e2 : (n : Int) = ni at hr ⊢
      refine go rfl rfl ?_
      simp_arith []
      rw [← hr]
      by_cases h : n ≤ M
      · rw [if_pos h, if_pos (by omega)]
      · rw [if_neg h, if_neg (by omega)]
    · have e3 : szK (k + 1) (.tup [.str .record, .tup l]) = (l.map (szK k)).foldr (· * ·) 1 := rfl
      rw [e3] at hr
      refine go rfl rfl ?_
      simp_arith []
      refine pe_map (fun x => fewD k x M) rfl ?_
      simp_arith []
      refine map_mk rfl (fun x hx => ?_) (by unfold maxLen; omega) ?_
      · have e := ih hM (hl x hx)
        rw [e1] at e
        simp_arith [w2_eq e]
      · simp_arith [inR_few]
        refine ite_w (fun h => ?_) (fun h => ?_)
        · obtain ⟨x, hx, h⟩ := List.any_eq_true.mp h
          have := prod_ge hl hx
          simp only [Bool.not_eq_true', decide_eq_false_iff_not] at h
          rw [← hr, if_neg (by omega)]
        · have hm : (l.map fun x => fewD k x M) = l.map fun x => D.int ((szK k x : Nat) : Int) := List.map_congr_left fun x hx => by
            unfold fewD
            rw [if_pos]
            by_cases q : szK k x ≤ M
            · exact q
            · exact absurd (List.any_eq_true.mpr ⟨x, hx, by simp [q]⟩) h
          rw [hm]
          simp_arith []
          have all : ∀ x ∈ l, szK k x ≤ M := fun x hx => by
            by_cases q : szK k x ≤ M
            · exact q
            · exact absurd (List.any_eq_true.mpr ⟨x, hx, by simp [q]⟩) h
          refine ps_forU ?_
          simp_arith []
          refine forU_ind (fun xs ρ => ∃ (ys : List D) (f : Nat) (fi : Int) (s : Option (D × Nat)), Fr s ∧ xs = ys.map (fun x => D.int ((szK k x : Nat) : Int)) ∧ (∀ y ∈ ys, y ∈ l) ∧ fi = f ∧ f * (ys.map (szK k)).foldr (· * ·) 1 = (l.map (szK k)).foldr (· * ·) 1 ∧
            ρ = [some (.tup [.str .record, .tup l], 0), some (.int Mi, 0), some (.str .record, 0), some (.int fi, 0), none, some (.lst (l.map fun x => D.int ((szK k x : Nat) : Int)), 0), none, none, s, none]) ⟨l, 1, 1, _, fr_none, rfl, fun _ h => h, rfl, Nat.one_mul _, rfl⟩ ?_ ?_
          · rintro x xs _ ⟨ys, f, fi, s, fs, hxs, hy, hf, hp, rfl⟩
            match ys, hxs with
            | [], hxs => cases hxs
            | y :: ys, hxs =>
              rw [List.map_cons, List.cons.injEq] at hxs
              obtain ⟨rfl, rfl⟩ := hxs
              generalize ec : ((szK k y : Nat) : Int) = ci
              have := all y (hy y List.mem_cons_self)
              simp_arith [b_fr fs, small_r (a := fi) (show ci.natAbs < 2 ^ 64 by omega)]
              refine ⟨ys, f * szK k y, _, _, fr_some, rfl, fun z hz => hy z (List.mem_cons_of_mem _ hz), ?_, ?_, rfl⟩
              · rw [hf, ← ec]; exact (Int.natCast_mul _ _).symm
              · rw [← hp, List.map_cons, List.foldr_cons, Nat.mul_assoc]
          · rintro _ ⟨ys, f, fi, s, fs, hxs, hy, hf, hp, rfl⟩
            have e : ys = [] := by
              cases ys with
              | nil => rfl
              | cons a b => cases hxs
            subst e
            simp only [List.map_nil, List.foldr_nil, Nat.mul_one] at hp
            simp_arith []
            rw [← hr, ← hp]
            by_cases h : f ≤ M
            · rw [if_pos h, if_pos (by omega), hf]
            · rw [if_neg h, if_neg (by omega)]
    · have e3 : szK (k + 1) (.tup [.str .choice, .tup l]) = (l.map (szK k)).sum := rfl
      rw [e3] at hr
      refine go rfl rfl ?_
      simp_arith []
      refine pe_map (fun x => fewD k x M) rfl ?_
      simp_arith []
      refine map_mk rfl (fun x hx => ?_) (by unfold maxLen; omega) ?_
      · have e := ih hM (hl x hx)
        rw [e1] at e
        simp_arith [w2_eq e]
      · simp_arith [inR_few]
        refine ite_w (fun h => ?_) (fun h => ?_)
        · obtain ⟨x, hx, h⟩ := List.any_eq_true.mp h
          have := sum_ge (k := k) hx
          simp only [Bool.not_eq_true', decide_eq_false_iff_not] at h
          rw [← hr, if_neg (by omega)]
        · have hm : (l.map fun x => fewD k x M) = l.map fun x => D.int ((szK k x : Nat) : Int) := List.map_congr_left fun x hx => by
            unfold fewD
            rw [if_pos]
            by_cases q : szK k x ≤ M
            · exact q
            · exact absurd (List.any_eq_true.mpr ⟨x, hx, by simp [q]⟩) h
          rw [hm]
          simp_arith []
          rw [sumInt, ← hr]
          by_cases h : (l.map (szK k)).sum ≤ M
          · rw [if_pos h, if_pos (by omega)]
          · rw [if_neg h, if_neg (by omega)]
    · have e3 : szK (k + 1) (.tup [.str .row, x]) = 3000 := rfl
      rw [e3, if_neg (by omega)] at hr
      refine go rfl rfl ?_
      simp_arith []
      exact hr
    · have e3 : szK (k + 1) (.tup [.str .set, x]) = 2 ^ szK k x := rfl
      rw [e3] at hr
      have e12 := ih (N := 12) (by omega) hx
      refine go rfl rfl ?_
      by_cases h : szK k x ≤ 12
      · unfold fewD at e12
        rw [if_pos h] at e12
        simp_arith [w2_eq (show callN tbl w m 39 [x, .int 12] = _ from e12), nth13 h]
        rw [← hr]
        by_cases h : 2 ^ szK k x ≤ M
        · rw [if_pos h, if_pos (by omega)]
        · rw [if_neg h, if_neg (by omega)]
      · unfold fewD at e12
        rw [if_neg h] at e12
        simp_arith [w2_eq (show callN tbl w m 39 [x, .int 12] = _ from e12)]
        have q : 2 ^ 13 ≤ 2 ^ szK k x := Nat.pow_le_pow_right (by omega) (by omega)
        rw [← hr, if_neg (by omega)]
    · have e3 : szK (k + 1) (.tup [.str .bag, x]) = 3000 := rfl
      rw [e3, if_neg (by omega)] at hr
      refine go rfl rfl ?_
      simp_arith []
      exact hr
    · have e3 : szK (k + 1) (.tup [.str .table, x, y]) = (1 + szK k y) ^ szK k x := rfl
      rw [e3] at hr
      have e8 := ih (N := 8) (by omega) hx
      have ey := ih hM hy
      rw [e1] at ey
      have y2 := szK_two hy
      have x2 := szK_two hx
      refine go rfl rfl ?_
      by_cases h : szK k x ≤ 8
      · unfold fewD at e8
        rw [if_pos h] at e8
        generalize e4 : ((szK k x : Nat) : Int) = xi at e8
        by_cases h9 : szK k y ≤ M
        · unfold fewD at ey
          rw [if_pos h9] at ey
          generalize e5 : ((szK k y : Nat) : Int) = yi at ey
          simp_arith [w2_eq (show callN tbl w m 39 [x, .int 8] = _ from e8), w2_eq ey]
          refine ps_forU ?_
          simp_arith [smallI_int (show 0 ≤ xi by omega) (show xi < 4000 by omega)]
          have hl : (rangeL 0 xi).length = szK k x := by rw [← e4, rangeL_len']
          refine forU_ind (fun xs ρ => ∃ (j : Nat) (f : Int) (s : Option (D × Nat)), Fr s ∧ j + xs.length = szK k x ∧ f = (((1 + szK k y) ^ j : Nat) : Int) ∧ ρ = [some (.tup [.str .table, x, y], 0), some (.int Mi, 0), some (.str .table, 0), some (.int f, 0), s, none, some (.int xi, 0), some (.int yi, 0), none, none])
            ⟨0, _, _, fr_none, by rw [hl]; omega, by simp, rfl⟩ ?_ ?_
          · rintro z zs _ ⟨j, f, s, fs, hj, hf, rfl⟩
            simp_arith [b_fr fs, small_r (a := f) (show (1 + yi).natAbs < 2 ^ 64 by omega)]
            refine ⟨j + 1, _, _, fr_some, by rw [← hj, List.length_cons]; omega, ?_, rfl⟩
            rw [Nat.pow_succ, hf, ← e5]
            have q : (1 + ((szK k y : Nat) : Int)) = ((1 + szK k y : Nat) : Int) := by omega
            rw [q]
            exact (Int.natCast_mul _ _).symm
          · rintro _ ⟨j, f, s, fs, hj, hf, rfl⟩
            have hj : j = szK k x := by simpa using hj
            subst hj
            simp_arith []
            rw [← hr]
            by_cases h : (1 + szK k y) ^ szK k x ≤ M
            · rw [if_pos h, if_pos (by omega), hf]
            · rw [if_neg h, if_neg (by omega)]
        · unfold fewD at ey
          rw [if_neg h9] at ey
          simp_arith [w2_eq (show callN tbl w m 39 [x, .int 8] = _ from e8), w2_eq ey]
          refine ps_forU ?_
          simp_arith [eq_ni, show smallI 0 = true from rfl, range00]
          have := pow_ge1 (b := 1 + szK k y) (n := szK k x) (by omega) (by omega)
          rw [← hr, if_neg (by omega)]
      · unfold fewD at e8
        rw [if_neg h] at e8
        simp_arith [w2_eq (show callN tbl w m 39 [x, .int 8] = _ from e8), w2_eq ey]
        refine ps_forU ?_
        simp_arith [eq_ni, show smallI 0 = true from rfl, range00]
        have q1 : (1 + szK k y) ^ 9 ≤ (1 + szK k y) ^ szK k x := Nat.pow_le_pow_right (by omega) (by omega)
        have q2 : 3 ^ 9 ≤ (1 + szK k y) ^ 9 := Nat.pow_le_pow_left (by omega) 9
        rw [← hr, if_neg (by omega)]
end
end Cg
set_option linter.all false
set_option maxRecDepth 100000
namespace Cg
open F
local macro_rules
  | `(tactic| simp_arith [$ls,*]) => `(tactic| try simp (config := { implicitDefEqProofs := false, maxSteps := 2000000 }) only [↓k_mk, ↓k_mk2, ↓w1_bind, ↓w2_bind, ↓w1_ite, ↓w2_ite, ↓w1_ok, ↓w1_exc, ↓w1_bad, ↓w2_ok, ↓w2_exc, ↓w2_bad, ↓see_b, ↓now_b, ↓opt_omit, ↓opt_k, ↓see_k, ↓now_k, ↓see_v, ↓now_v, ↓opt_v, ↓see_tup, ↓now_tup, ↓opt_tup, ↓see_lst, ↓now_lst, ↓opt_lst, ↓see_dict, ↓now_dict, ↓opt_dict, ↓see_bin, ↓now_bin, ↓opt_bin, ↓see_cmp, ↓now_cmp, ↓opt_cmp, ↓see_chain, ↓now_chain, ↓opt_chain, ↓see_not, ↓now_not, ↓opt_not, ↓see_and, ↓now_and, ↓opt_and, ↓see_or, ↓now_or, ↓opt_or, ↓see_ite, ↓now_ite, ↓opt_ite, ↓see_idx, ↓now_idx, ↓opt_idx, ↓see_idxd, ↓now_idxd, ↓opt_idxd, ↓see_ind, ↓now_ind, ↓opt_ind, ↓see_idx2, ↓now_idx2, ↓opt_idx2, ↓see_any2, ↓now_any2, ↓opt_any2, ↓see_slice, ↓now_slice, ↓opt_slice, ↓see_call, ↓now_call, ↓opt_call, ↓see_b1, ↓now_b1, ↓opt_b1, ↓see_b2, ↓now_b2, ↓opt_b2, ↓see_b3, ↓now_b3, ↓opt_b3, ↓see_get, ↓now_get, ↓opt_get, ↓see_count, ↓now_count, ↓opt_count, ↓see_index, ↓now_index, ↓opt_index, ↓see_isa, ↓now_isa, ↓opt_isa, ↓see_isExc, ↓now_isExc, ↓opt_isExc, ↓see_mkExc, ↓now_mkExc, ↓opt_mkExc, ↓see_lc, ↓now_lc, ↓opt_lc, ↓see_lc2, ↓now_lc2, ↓opt_lc2, ↓see_gsum, ↓now_gsum, ↓opt_gsum, ↓see_gall, ↓now_gall, ↓opt_gall, ↓see_gall2, ↓now_gall2, ↓opt_gall2, ↓see_grid, ↓now_grid, ↓opt_grid, ↓see_empties, ↓now_empties, ↓opt_empties, ↓e_k, ↓e_v, ↓e_tup, ↓e_lst, ↓e_dict, ↓e_bin, ↓e_cmp, ↓e_chain, ↓e_not, ↓pbool, ↓e_and, ↓e_or, ↓e_ite, ↓e_idx, ↓e_idxd, ↓e_ind, ↓e_any2, ↓plst, ↓e_idx2, ↓e_slice, ↓e_call, ↓e_b1, ↓e_b2, ↓e_b3, ↓e_get, ↓e_count, ↓e_index, ↓e_isa, ↓e_isExc, ↓e_mkExc, ↓t_not, ↓t_and, ↓t_or, ↓t_of, ↓es_nil, ↓es_cons, ↓as_nil, ↓as_io, ↓as_tmp, ↓i_val, ↓pint, ↓i_range, ↓i_range2, ↓i_zip2, ↓i_zip3, ↓i_enum, ↓i_rev, ↓s_set, ↓s_ret, ↓s_retv, ↓s_retN, ↓s_raise, ↓s_brk, ↓s_cont, ↓s_pass, ↓s_ex, ↓s_ifs, ↓s_app, ↓s_ext, ↓s_put, ↓s_unpack, ↓s_par, ↓s_aug, ↓af_next, ↓af_ret, ↓af_brk, ↓af_cont, ↓ss_nil, ↓ss_cons, ↓b_n, ↓b_0n, ↓b_00, ↓b_01, ↓b_02, ↓bt_nm, ↓bt_tup, ↓bts_nil, ↓bts_cons, ↓bp_nil, ↓bp_cons, ↓as_k, ↓as_v, ↓as_tup, ↓as_lst, ↓as_dict, ↓as_bin, ↓as_cmp, ↓as_chain, ↓as_not, ↓as_and, ↓as_or, ↓as_ite, ↓as_idx, ↓as_idxd, ↓as_ind, ↓as_idx2, ↓as_any2, ↓as_slice, ↓as_call, ↓as_b1, ↓as_b2, ↓as_b3, ↓as_get, ↓as_count, ↓as_index, ↓as_isa, ↓as_isExc, ↓as_mkExc, ↓as_lc, ↓as_lc2, ↓as_gsum, ↓as_gall, ↓as_gall2, ↓as_grid, ↓as_empties, ↓fin_next, ↓fin_ret, ↓pc_, ↓pg_, ↓pl_, ↓fu_nil, ↓fu_cons, ↓tj_next, ↓tj_cont, ↓tj_brk, ↓tj_ret, ↓tc_next, ↓tc_cont, ↓tc_brk, ↓tc_ret, getS_0, getS_1, getS_2, getS_n, valS_0, valS_n, seeS_0, seeS_01, seeS_03, seeS_04, seeS_n, ownS_01l, ownS_03l, ownS_01d, ownS_03d, ownS_n, own2S_0, own2S_n, listOwn_01, listOwn_03, listOwn_n, putS_0, putS_n, letGo_nil, letGo_cons, lg1_n, lg1_0n, lg1_00, lg1_01, lg1_02, lg1_03, lg1_04, wipe_nil, wipe_cons, back_nil, back_cons, pl_nil, nt_nm, nt_tup, nts_nil, nts_cons, am_nil, am_lst, am_dct, out_nil, out_f, out_t, os_nil, os_io, os_tmp, os_k, os_v, os_tup, os_lst, os_dict, os_bin, os_cmp, os_chain, os_not, os_and, os_or, os_ite, os_idx, os_idxd, os_ind, os_idx2, os_any2, os_slice, os_call, os_b1, os_b2, os_b3, os_get, os_count, os_index, os_isa, os_isExc, os_mkExc, os_lc, os_lc2, os_gsum, os_gall, os_gall2, os_grid, os_empties, ty_int_non, ty_int_bool, ty_int_int, ty_int_str, ty_int_tup, ty_int_lst, ty_bool_non, ty_bool_bool, ty_bool_int, ty_bool_str, ty_bool_tup, ty_bool_lst, ty_tuple_non, ty_tuple_bool, ty_tuple_int, ty_tuple_str, ty_tuple_tup, ty_tuple_lst, ty_str_non, ty_str_bool, ty_str_int, ty_str_str, ty_str_tup, ty_str_lst, tb_bool, tr_non, tr_bool, tr_int, tr_str, tr_tup, tr_lst, toInt_int, bin_addi, bin_addt, bin_addl, bin_sub, bin_mul, bin_mult, bin_mull, bin_fdiv, bin_mod, bin_pow, cmp_eq, cmp_ne, cmp_lt, cmp_le, cmp_gt, cmp_ge, cmp_is, cmp_isNot, cmp_int, cmp_inl, cmp_nint, cmp_ninl, eq_ii, eq_ss, eq_bb, lt_ii, is_non_n, is_bool_n, is_int_n, is_str_n, is_tup_n, is_lst_n, ix_t, ix_l, sl_t, sl_l, it_t, it_l, it_s, b1_lent, b1_lenl, b1_int, b1_abs, b1_neg, b1_sum, b1_min, b1_max, b1_anyl, b1_anyt, b1_tupl, b1_tupt, b1_lstl, b1_lstt, b1_sortl, b1_sortt, b1_sortk, b1_repr, b1_strExc, b2_min, b2_max, ise_, out_e, now_, List.zipWith, List.replicate, List.cons_append, List.nil_append, List.append_nil, List.getElem?_cons_zero, List.getElem?_cons_succ, List.set_cons_zero, List.set_cons_succ, List.all_cons, List.all_nil, Bool.and_true, Bool.true_and, Bool.false_and, Bool.and_false, Bool.or_true, Bool.true_or, Bool.or_false, Bool.false_or, Bool.not_true, Bool.not_false, ↓reduceIte, if_true, if_false, Bool.false_eq_true, D.isMut, Nat.sub_self, Nat.reduceSub, Nat.reduceAdd, decide_true, decide_false, beq_self_eq_true, List.length_cons, List.length_nil, weq, reduceCtorEq, decide_eq_true_eq, Int.reduceLT, Int.reduceLE, Int.reduceEq, Int.reduceAdd, Int.reduceSub, Int.reduceNeg, Nat.reduceLT, Nat.reduceLeDiff, Int.cast_ofNat_Int, Nat.zero_add, Int.reduceToNat, and_true, true_and, and_false, false_and, not_true_eq_false, not_false_eq_true, isS_s, Bool.or_eq_true, Bool.and_eq_true, Bool.not_eq_true', decide_eq_false_iff_not, Bool.not_not, nbool_in, plainS, namesT, namesTs, intsR_map, inR_ints, nth0, nth1, nth2, nth3, slice1, beq_iff_eq, bne_iff_ne, ne_eq, or_true, true_or, or_false, false_or, intlit_beq, mkt0, mkt1, mkt2, mkt3, mkt4, mkt5, mkt6, mkt7, mkt8, mkt9, mkt10, mkt11, mkt12, mkt13, mkt14, mkt15, mkt16, mkt17, mkt18, mkt19, mkl0, mkl1, mkl2, mkl3, mkl4, mkl5, mkl6, mkl7, mkl8, mkl9, mkl10, mkl11, mkl12, mkl13, mkl14, mkl15, mkl16, mkl17, mkl18, mkl19, in1w, in2w, in3w, in4w, in5w, in6w, in7w, in8w, $ls,*])
section
variable {w : Nat} {X : Nat → Prop}
theorem small_ok : ∀ {k m : Nat} {b : D} (hm : k + 3 ≤ m) (hb : IsBox b), @W2 _ _ (callN tbl w m 40 [b, .int k]) ⟨Drew fun d => isK (max k 1) d = true⟩ (fun _ => False)
  | k, 0, b, hm, hb => by omega
  | k, m + 1, b, hm, hb => by
    refine go rfl rfl ?_
    simp_arith [box_own hb]
    refine w2_mono (take_ok (w := w) (m := m) (by omega) hb (by omega) (by omega)) ?_ (fun _ z => z)
    rintro _ _ ⟨r, b', rfl, rfl, z0, z1, hb'⟩
    have num : ∀ {x : D}, x ∈ [D.int 2, .int 2, .int 3, .int 4, .int 5, .int 7] → isK 1 (.tup [.str .number, x]) = true := by
      intro x hx
      simp only [List.mem_cons, List.not_mem_nil, or_false] at hx
      rcases hx with rfl | rfl | rfl | rfl | rfl | rfl <;> rfl
    rcases (by omega : (k:Int) ≤ 1 ∨ (¬ (k:Int) ≤ 1 ∧ r < 2) ∨ (¬ (k:Int) ≤ 1 ∧ ¬ r < 2)) with hc | ⟨hc, hr⟩ | ⟨hc, hr⟩
    · simp_arith [box_own hb', hc]
      refine w2_mono (pickl_ok (w := w) (m := m) (by omega) hb' (by simp) (by simp)) ?_ (fun _ z => z)
      rintro x _ ⟨hx, b3, rfl, hb3⟩
      simp_arith [box_own hb3, box_am hb3]
      exact ⟨isK_mono (k := 1) (by omega) (num (by simp only [List.mem_cons, List.not_mem_nil, or_false] at hx ⊢; exact hx)), _, rfl, hb3⟩
    · simp_arith [box_own hb', hc, hr]
      refine w2_mono (pickl_ok (w := w) (m := m) (by omega) hb' (by simp) (by simp)) ?_ (fun _ z => z)
      rintro x _ ⟨hx, b3, rfl, hb3⟩
      simp_arith [box_own hb3, box_am hb3]
      exact ⟨isK_mono (k := 1) (by omega) (num (by simp only [List.mem_cons, List.not_mem_nil, or_false] at hx ⊢; exact hx)), _, rfl, hb3⟩
    · obtain ⟨k', rfl⟩ : ∃ k', k = k' + 2 := ⟨k - 2, by omega⟩
      have e1 : ((k' + 2 : Nat) : Int) - 1 = (k' + 1 : Nat) := by omega
      have ih : ∀ {b}, IsBox b → @W2 _ _ (callN tbl w m 40 [b, .int (k' + 1 : Nat)]) ⟨Drew fun d => isK (max (k' + 1) 1) d = true⟩ (fun _ => False) := fun hb => small_ok (by omega) hb
      by_cases hr4 : r < 4
      · simp_arith [box_own hb', hc, hr, hr4]
        refine w2_mono (pickl_ok (w := w) (m := m) (by omega) hb' (by simp) (by simp)) ?_ (fun _ z => z)
        rintro wd _ ⟨hwd, b3, rfl, hb3⟩
        simp_arith [box_own hb3]
        refine pe_lcI (fun ρ => ∃ b s v, IsBox b ∧ ρ = [some (b, 3), some (.int (k' + 2 : Nat), 0), some (.int v, 0), s]) (fun d => isK (max (k' + 1) 1) d = true) rfl ?_
        simp_arith [box_own hb3]
        refine w2_mono (take_ok (w := w) (m := m) (by omega) hb3 (by omega) (by omega)) ?_ (fun _ z => z)
        rintro _ _ ⟨q, b4, rfl, rfl, q0, q1, hb4⟩
        have hl : (rangeL 0 (2 + q)).length = (2 + q).toNat := by
          obtain ⟨n, hn⟩ := Int.eq_ofNat_of_zero_le (show 0 ≤ 2 + q by omega)
          rw [hn, rangeL_len', Int.toNat_natCast]
        simp_arith [smallI_int (show 0 ≤ 2 + q by omega) (show 2 + q < 4000 by omega)]
        refine lci_mk rfl ⟨_, _, _, hb4, rfl⟩ ?_ ?_ ?_
        · rintro x hx _ ⟨b, s, v, hb, rfl⟩
          simp_arith [box_own hb, e1]
          refine w2_mono (ih hb) ?_ (fun _ z => z)
          rintro y _ ⟨hy, b2, rfl, hb2⟩
          simp_arith []
          exact ⟨⟨_, _, _, hb2, rfl⟩, _, rfl, hy⟩
        · rw [hl]; unfold maxLen; omega
        · rintro l _ ⟨b, s, v, hb, rfl⟩ hlen hl2
          rw [hl] at hlen
          simp_arith [box_am hb]
          refine ⟨?_, _, rfl, hb⟩
          show isK (max (k' + 2) 1) _ = true
          rw [show max (k' + 2) 1 = max (k' + 1) 1 + 1 by omega]
          simp only [List.mem_cons, List.not_mem_nil, or_false] at hwd
          rcases hwd with rfl | rfl
          · rw [isK_record (by omega)]; exact List.all_eq_true.mpr hl2
          · rw [isK_choice (by omega)]; exact List.all_eq_true.mpr hl2
      by_cases hr6 : r < 6
      · by_cases hr44 : r = 4
        · simp_arith [box_own hb', hc, hr, hr4, hr6, hr44, e1]
          refine w2_mono (ih hb') ?_ (fun _ z => z)
          rintro x _ ⟨hx, b2, rfl, hb2⟩
          simp_arith [box_own hb2, box_am hb2]
          refine ⟨?_, _, rfl, hb2⟩
          show isK (max (k' + 2) 1) _ = true
          rw [show max (k' + 2) 1 = max (k' + 1) 1 + 1 by omega, isK_set]
          exact hx
        · simp_arith [box_own hb', hc, hr, hr4, hr6, hr44, e1]
          refine w2_mono (pickl_ok (w := w) (m := m) (by omega) hb' (by simp) (by simp)) ?_ (fun _ z => z)
          rintro x _ ⟨hx, b3, rfl, hb3⟩
          simp_arith [box_own hb3, e1]
          refine w2_mono (ih hb3) ?_ (fun _ z => z)
          rintro y _ ⟨hy, b2, rfl, hb2⟩
          simp_arith [box_own hb2, box_am hb2]
          refine ⟨?_, _, rfl, hb2⟩
          show isK (max (k' + 2) 1) _ = true
          rw [show max (k' + 2) 1 = max (k' + 1) 1 + 1 by omega, isK_table, hy, Bool.and_true]
          refine isK_mono (k := 1) (by omega) (num ?_)
          simp only [List.mem_cons, List.not_mem_nil, or_false] at hx ⊢
          rcases hx with rfl | rfl | rfl <;> simp
      · simp_arith [box_own hb', hc, hr, hr4, hr6, e1]
        refine w2_mono (pickl_ok (w := w) (m := m) (by omega) hb' (by simp) (by simp)) ?_ (fun _ z => z)
        rintro x _ ⟨hx, b3, rfl, hb3⟩
        simp_arith [box_own hb3, e1]
        refine w2_mono (ih hb3) ?_ (fun _ z => z)
        rintro y _ ⟨hy, b2, rfl, hb2⟩
        simp_arith [box_own hb2, box_am hb2]
        refine ⟨?_, _, rfl, hb2⟩
        show isK (max (k' + 2) 1) _ = true
        rw [show max (k' + 2) 1 = max (k' + 1) 1 + 1 by omega]
        simp only [List.mem_cons, List.not_mem_nil, or_false] at hx
        rcases hx with rfl | rfl
        · rw [isK_row]; exact hy
        · rw [isK_bag]; exact hy
end
end Cg
set_option linter.all false
set_option maxRecDepth 100000
namespace Cg
open F
local macro_rules
  | `(tactic| simp_arith [$ls,*]) => `(tactic| try simp (config := { implicitDefEqProofs := false, maxSteps := 2000000 }) only [↓k_mk, ↓k_mk2, ↓w1_bind, ↓w2_bind, ↓w1_ite, ↓w2_ite, ↓w1_ok, ↓w1_exc, ↓w1_bad, ↓w2_ok, ↓w2_exc, ↓w2_bad, ↓see_b, ↓now_b, ↓opt_omit, ↓opt_k, ↓see_k, ↓now_k, ↓see_v, ↓now_v, ↓opt_v, ↓see_tup, ↓now_tup, ↓opt_tup, ↓see_lst, ↓now_lst, ↓opt_lst, ↓see_dict, ↓now_dict, ↓opt_dict, ↓see_bin, ↓now_bin, ↓opt_bin, ↓see_cmp, ↓now_cmp, ↓opt_cmp, ↓see_chain, ↓now_chain, ↓opt_chain, ↓see_not, ↓now_not, ↓opt_not, ↓see_and, ↓now_and, ↓opt_and, ↓see_or, ↓now_or, ↓opt_or, ↓see_ite, ↓now_ite, ↓opt_ite, ↓see_idx, ↓now_idx, ↓opt_idx, ↓see_idxd, ↓now_idxd, ↓opt_idxd, ↓see_ind, ↓now_ind, ↓opt_ind, ↓see_idx2, ↓now_idx2, ↓opt_idx2, ↓see_any2, ↓now_any2, ↓opt_any2, ↓see_slice, ↓now_slice, ↓opt_slice, ↓see_call, ↓now_call, ↓opt_call, ↓see_b1, ↓now_b1, ↓opt_b1, ↓see_b2, ↓now_b2, ↓opt_b2, ↓see_b3, ↓now_b3, ↓opt_b3, ↓see_get, ↓now_get, ↓opt_get, ↓see_count, ↓now_count, ↓opt_count, ↓see_index, ↓now_index, ↓opt_index, ↓see_isa, ↓now_isa, ↓opt_isa, ↓see_isExc, ↓now_isExc, ↓opt_isExc, ↓see_mkExc, ↓now_mkExc, ↓opt_mkExc, ↓see_lc, ↓now_lc, ↓opt_lc, ↓see_lc2, ↓now_lc2, ↓opt_lc2, ↓see_gsum, ↓now_gsum, ↓opt_gsum, ↓see_gall, ↓now_gall, ↓opt_gall, ↓see_gall2, ↓now_gall2, ↓opt_gall2, ↓see_grid, ↓now_grid, ↓opt_grid, ↓see_empties, ↓now_empties, ↓opt_empties, ↓e_k, ↓e_v, ↓e_tup, ↓e_lst, ↓e_dict, ↓e_bin, ↓e_cmp, ↓e_chain, ↓e_not, ↓pbool, ↓e_and, ↓e_or, ↓e_ite, ↓e_idx, ↓e_idxd, ↓e_ind, ↓e_any2, ↓plst, ↓e_idx2, ↓e_slice, ↓e_call, ↓e_b1, ↓e_b2, ↓e_b3, ↓e_get, ↓e_count, ↓e_index, ↓e_isa, ↓e_isExc, ↓e_mkExc, ↓t_not, ↓t_and, ↓t_or, ↓t_of, ↓es_nil, ↓es_cons, ↓as_nil, ↓as_io, ↓as_tmp, ↓i_val, ↓pint, ↓i_range, ↓i_range2, ↓i_zip2, ↓i_zip3, ↓i_enum, ↓i_rev, ↓s_set, ↓s_ret, ↓s_retv, ↓s_retN, ↓s_raise, ↓s_brk, ↓s_cont, ↓s_pass, ↓s_ex, ↓s_ifs, ↓s_app, ↓s_ext, ↓s_put, ↓s_unpack, ↓s_par, ↓s_aug, ↓af_next, ↓af_ret, ↓af_brk, ↓af_cont, ↓ss_nil, ↓ss_cons, ↓b_n, ↓b_0n, ↓b_00, ↓b_01, ↓b_02, ↓bt_nm, ↓bt_tup, ↓bts_nil, ↓bts_cons, ↓bp_nil, ↓bp_cons, ↓as_k, ↓as_v, ↓as_tup, ↓as_lst, ↓as_dict, ↓as_bin, ↓as_cmp, ↓as_chain, ↓as_not, ↓as_and, ↓as_or, ↓as_ite, ↓as_idx, ↓as_idxd, ↓as_ind, ↓as_idx2, ↓as_any2, ↓as_slice, ↓as_call, ↓as_b1, ↓as_b2, ↓as_b3, ↓as_get, ↓as_count, ↓as_index, ↓as_isa, ↓as_isExc, ↓as_mkExc, ↓as_lc, ↓as_lc2, ↓as_gsum, ↓as_gall, ↓as_gall2, ↓as_grid, ↓as_empties, ↓fin_next, ↓fin_ret, ↓pc_, ↓pg_, ↓pl_, ↓fu_nil, ↓fu_cons, ↓tj_next, ↓tj_cont, ↓tj_brk, ↓tj_ret, ↓tc_next, ↓tc_cont, ↓tc_brk, ↓tc_ret, getS_0, getS_1, getS_2, getS_n, valS_0, valS_n, seeS_0, seeS_01, seeS_03, seeS_04, seeS_n, ownS_01l, ownS_03l, ownS_01d, ownS_03d, ownS_n, own2S_0, own2S_n, listOwn_01, listOwn_03, listOwn_n, putS_0, putS_n, letGo_nil, letGo_cons, lg1_n, lg1_0n, lg1_00, lg1_01, lg1_02, lg1_03, lg1_04, wipe_nil, wipe_cons, back_nil, back_cons, pl_nil, nt_nm, nt_tup, nts_nil, nts_cons, am_nil, am_lst, am_dct, out_nil, out_f, out_t, os_nil, os_io, os_tmp, os_k, os_v, os_tup, os_lst, os_dict, os_bin, os_cmp, os_chain, os_not, os_and, os_or, os_ite, os_idx, os_idxd, os_ind, os_idx2, os_any2, os_slice, os_call, os_b1, os_b2, os_b3, os_get, os_count, os_index, os_isa, os_isExc, os_mkExc, os_lc, os_lc2, os_gsum, os_gall, os_gall2, os_grid, os_empties, ty_int_non, ty_int_bool, ty_int_int, ty_int_str, ty_int_tup, ty_int_lst, ty_bool_non, ty_bool_bool, ty_bool_int, ty_bool_str, ty_bool_tup, ty_bool_lst, ty_tuple_non, ty_tuple_bool, ty_tuple_int, ty_tuple_str, ty_tuple_tup, ty_tuple_lst, ty_str_non, ty_str_bool, ty_str_int, ty_str_str, ty_str_tup, ty_str_lst, tb_bool, tr_non, tr_bool, tr_int, tr_str, tr_tup, tr_lst, toInt_int, bin_addi, bin_addt, bin_addl, bin_sub, bin_mul, bin_mult, bin_mull, bin_fdiv, bin_mod, bin_pow, cmp_eq, cmp_ne, cmp_lt, cmp_le, cmp_gt, cmp_ge, cmp_is, cmp_isNot, cmp_int, cmp_inl, cmp_nint, cmp_ninl, eq_ii, eq_ss, eq_bb, lt_ii, is_non_n, is_bool_n, is_int_n, is_str_n, is_tup_n, is_lst_n, ix_t, ix_l, sl_t, sl_l, it_t, it_l, it_s, b1_lent, b1_lenl, b1_int, b1_abs, b1_neg, b1_sum, b1_min, b1_max, b1_anyl, b1_anyt, b1_tupl, b1_tupt, b1_lstl, b1_lstt, b1_sortl, b1_sortt, b1_sortk, b1_repr, b1_strExc, b2_min, b2_max, ise_, out_e, now_, List.zipWith, List.replicate, List.cons_append, List.nil_append, List.append_nil, List.getElem?_cons_zero, List.getElem?_cons_succ, List.set_cons_zero, List.set_cons_succ, List.all_cons, List.all_nil, Bool.and_true, Bool.true_and, Bool.false_and, Bool.and_false, Bool.or_true, Bool.true_or, Bool.or_false, Bool.false_or, Bool.not_true, Bool.not_false, ↓reduceIte, if_true, if_false, Bool.false_eq_true, D.isMut, Nat.sub_self, Nat.reduceSub, Nat.reduceAdd, decide_true, decide_false, beq_self_eq_true, List.length_cons, List.length_nil, weq, reduceCtorEq, decide_eq_true_eq, Int.reduceLT, Int.reduceLE, Int.reduceEq, Int.reduceAdd, Int.reduceSub, Int.reduceNeg, Nat.reduceLT, Nat.reduceLeDiff, Int.cast_ofNat_Int, Nat.zero_add, Int.reduceToNat, and_true, true_and, and_false, false_and, not_true_eq_false, not_false_eq_true, isS_s, Bool.or_eq_true, Bool.and_eq_true, Bool.not_eq_true', decide_eq_false_iff_not, Bool.not_not, nbool_in, plainS, namesT, namesTs, intsR_map, inR_ints, nth0, nth1, nth2, nth3, slice1, beq_iff_eq, bne_iff_ne, ne_eq, or_true, true_or, or_false, false_or, intlit_beq, mkt0, mkt1, mkt2, mkt3, mkt4, mkt5, mkt6, mkt7, mkt8, mkt9, mkt10, mkt11, mkt12, mkt13, mkt14, mkt15, mkt16, mkt17, mkt18, mkt19, mkl0, mkl1, mkl2, mkl3, mkl4, mkl5, mkl6, mkl7, mkl8, mkl9, mkl10, mkl11, mkl12, mkl13, mkl14, mkl15, mkl16, mkl17, mkl18, mkl19, in1w, in2w, in3w, in4w, in5w, in6w, in7w, in8w, $ls,*])
section
variable {w : Nat} {X : Nat → Prop}
theorem rangeL_mem {n : Nat} {x : D} (h : x ∈ rangeL 0 n) : ∃ i : Nat, x = .int i ∧ i < n := by
  unfold rangeL at h
  obtain ⟨i, hi, rfl⟩ := List.mem_map.mp h
  have : i < n := by simpa using hi
  exact ⟨i, by congr 1; omega, this⟩
theorem repr_few {k M : Nat} {d : D} (hM : M ≤ 2000) : reprOk (fewD k d M) = true := by
  unfold fewD
  split
  · rename_i h
    show decide (((szK k d : Nat) : Int).natAbs < 2 ^ 1000) = true
    refine decide_eq_true ?_
    rw [Int.natAbs_natCast]
    exact Nat.lt_of_le_of_lt h (Nat.lt_of_le_of_lt hM (by decide))
  · rfl
theorem eq_rep_few {k M : Nat} {d : D} : eqR (.rep (fewD k d M)) (.rep (fewD k d M)) = .ok true := by
  show (if sameD (fewD k d M) (fewD k d M) = true then R.ok true else R.bad) = _
  rw [if_pos]
  unfold fewD
  split
  · show (_ == _) = true
    exact beq_self_eq_true _
  · rfl
theorem kindOk_set7 : kindOk (.tup [.str .set, .tup [.str .number, .int 7]]) = true := by decide
theorem kindOk_set0 : kindOk (.tup [.str .set, .tup []]) = false := by decide
theorem law3_ok {m : Nat} {ns : List Int} (hm : 20 ≤ m) (hl : ns.length ≤ 63) : @W2 _ _ (callN tbl w m 42 [.scr ns]) ⟨fun d _ => d = .bool true⟩ (fun _ => False) := by
  obtain ⟨m, rfl⟩ : ∃ n, m = n + 1 := ⟨m - 1, by omega⟩
  refine go rfl rfl ?_
  simp_arith []
  refine w2_mono (lbox_ok (w := w) (m := m) (by omega) hl) ?_ (fun _ z => z)
  rintro b _ ⟨hb, rfl⟩
  simp_arith []
  refine ps_forI (fun ρ => ∃ b s2 s3 s4 s5 s6, IsBox b ∧ Fr s2 ∧ Fr s3 ∧ Fr s4 ∧ Fr s5 ∧ Fr s6 ∧ ρ = [some (.scr ns, 0), some (b, 1), s2, s3, s4, s5, s6]) ?_
  simp_arith [show smallI 6 = true from by decide]
  refine fori_mk ⟨_, _, _, _, _, _, hb, fr_none, fr_none, fr_none, fr_none, fr_none, rfl⟩ ?_ ?_
  · rintro x hx _ ⟨b, s2, s3, s4, s5, s6, hb, f2, f3, f4, f5, f6, rfl⟩
    obtain ⟨t, rfl, ht⟩ := rangeL_mem (n := 6) hx
    generalize et : (t : Int) = ti
    by_cases h0 : 0 < ti
    · simp_arith [b_fr f2, h0, box_own1 hb]
      refine w2_mono (take_ok (w := w) (m := m) (by omega) hb (by omega) (by omega)) ?_ (fun _ z => z)
      rintro _ _ ⟨r, b, rfl, rfl, z0, z1, hb⟩
      obtain ⟨k, hk⟩ := Int.eq_ofNat_of_zero_le (show 0 ≤ 1 + r by omega)
      simp_arith [box_own1 hb]
      rw [hk]
      refine w2_mono (small_ok (w := w) (k := k) (m := m) (by omega) hb) ?_ (fun _ z => z)
      rintro kd _ ⟨hkd, b, rfl, hb⟩
      have hkd := isK_mono (j := 5) (by omega) hkd
      have e10 := lmany_ok (w := w) (k := 5) (m := m) (d := kd) (by omega) hkd
      simp_arith [b_fr f3, w2_eq e10]
      refine ite_w (fun h => ?_) (fun h => ?_)
      · simp_arith [b_fr f3]
        generalize hkk : D.tup [.str .set, .tup [.str .number, .int 7]] = kd
        have hk : kindOk kd = true := by rw [← hkk]; exact kindOk_set7
        have hk5 : isK 5 kd = true := by rw [kindOk_eq, Bool.and_eq_true] at hk; exact hk.1
        have e4 := lfew_ok (w := w) (k := 5) (m := m) (d := kd) (M := 2000) (by omega) hk5 (by omega)
        have z2 := szK_two hk5
        by_cases hs : szK 5 kd ≤ 2000
        · unfold fewD at e4
          rw [if_pos hs] at e4
          generalize ec : ((szK 5 kd : Nat) : Int) = c at e4
          simp_arith [b_fr f4, b_fr f5, w2_eq (show callN tbl w m 39 [kd, .int 2000] = _ from e4), box_own1 hb]
          refine w2_mono (take_ok (w := w) (m := m) (by omega) hb (by omega) (by omega)) ?_ (fun _ z => z)
          rintro _ _ ⟨r, b, rfl, rfl, z0, z1, hb⟩
          simp_arith [box_own1 hb]
          refine w2_mono (pickl_ok (w := w) (m := m) (by omega) hb (by simp) (by simp)) ?_ (fun _ z => z)
          rintro v _ ⟨hv, b, rfl, hb⟩
          simp_arith [b_fr f5]
          refine ps_forI (fun ρ => ∃ s6, Fr s6 ∧ ρ = [some (.scr ns, 0), some (b, 1), some (.int ti, 0), some (kd, 0), some (.int c, 0), some (.lst [.int r, .int 2000, v, .int c, .int (c - 1)], 0), s6]) ?_
          simp_arith []
          refine fori_mk ⟨_, f6, rfl⟩ ?_ ?_
          · rintro q hq _ ⟨s6, f6, rfl⟩
            have hn : ∃ n : Nat, q = .int n ∧ n ≤ 2000 := by
              simp only [List.mem_cons, List.not_mem_nil, or_false] at hq hv
              rcases hq with rfl | rfl | rfl | rfl | rfl
              · exact ⟨r.toNat, by congr 1; omega, by omega⟩
              · exact ⟨2000, rfl, by omega⟩
              · rcases hv with rfl | rfl | rfl | rfl | rfl
                · exact ⟨0, rfl, by omega⟩
                · exact ⟨1, rfl, by omega⟩
                · exact ⟨2, rfl, by omega⟩
                · exact ⟨10, rfl, by omega⟩
                · exact ⟨200, rfl, by omega⟩
              · exact ⟨szK 5 kd, by rw [ec], by omega⟩
              · exact ⟨szK 5 kd - 1, by congr 1; omega, by omega⟩
            obtain ⟨n, rfl, hn⟩ := hn
            have a1 := few3_told (w := w) (m := m) (M := n) (by omega) hk hn
            have a2 := lfew_ok (w := w) (k := 5) (m := m) (d := kd) (M := n) (by omega) hk5 hn
            have a3 := repr_few (k := 5) (d := kd) hn
            have a4 := eq_rep_few (k := 5) (d := kd) (M := n)
            generalize fewD 5 kd n = fd at a1 a2 a3 a4
            generalize (n : Int) = ni at a1 a2 ⊢
            simp_arith [b_fr f6, w2_eq a1, w2_eq a2, a3, a4]
            exact ⟨_, fr_some, rfl⟩
          · rintro _ ⟨s6, f6, rfl⟩
            simp_arith []
            exact ⟨_, _, _, _, _, _, hb, fr_some, fr_some, fr_some, fr_some, f6, rfl⟩
        · unfold fewD at e4
          rw [if_neg hs] at e4
          simp_arith [b_fr f4, b_fr f5, w2_eq (show callN tbl w m 39 [kd, .int 2000] = _ from e4), box_own1 hb]
          refine w2_mono (take_ok (w := w) (m := m) (by omega) hb (by omega) (by omega)) ?_ (fun _ z => z)
          rintro _ _ ⟨r, b, rfl, rfl, z0, z1, hb⟩
          simp_arith [box_own1 hb]
          refine w2_mono (pickl_ok (w := w) (m := m) (by omega) hb (by simp) (by simp)) ?_ (fun _ z => z)
          rintro v _ ⟨hv, b, rfl, hb⟩
          simp_arith [b_fr f5]
          refine ps_forI (fun ρ => ∃ s6, Fr s6 ∧ ρ = [some (.scr ns, 0), some (b, 1), some (.int ti, 0), some (kd, 0), some (.non, 0), some (.lst [.int r, .int 2000, v], 0), s6]) ?_
          simp_arith []
          refine fori_mk ⟨_, f6, rfl⟩ ?_ ?_
          · rintro q hq _ ⟨s6, f6, rfl⟩
            have hn : ∃ n : Nat, q = .int n ∧ n ≤ 2000 := by
              simp only [List.mem_cons, List.not_mem_nil, or_false] at hq hv
              rcases hq with rfl | rfl | rfl
              · exact ⟨r.toNat, by congr 1; omega, by omega⟩
              · exact ⟨2000, rfl, by omega⟩
              · rcases hv with rfl | rfl | rfl | rfl | rfl
                · exact ⟨0, rfl, by omega⟩
                · exact ⟨1, rfl, by omega⟩
                · exact ⟨2, rfl, by omega⟩
                · exact ⟨10, rfl, by omega⟩
                · exact ⟨200, rfl, by omega⟩
            obtain ⟨n, rfl, hn⟩ := hn
            have a1 := few3_told (w := w) (m := m) (M := n) (by omega) hk hn
            have a2 := lfew_ok (w := w) (k := 5) (m := m) (d := kd) (M := n) (by omega) hk5 hn
            have a3 := repr_few (k := 5) (d := kd) hn
            have a4 := eq_rep_few (k := 5) (d := kd) (M := n)
            generalize fewD 5 kd n = fd at a1 a2 a3 a4
            generalize (n : Int) = ni at a1 a2 ⊢
            simp_arith [b_fr f6, w2_eq a1, w2_eq a2, a3, a4]
            exact ⟨_, fr_some, rfl⟩
          · rintro _ ⟨s6, f6, rfl⟩
            simp_arith []
            exact ⟨_, _, _, _, _, _, hb, fr_some, fr_some, fr_some, fr_some, f6, rfl⟩
      · simp_arith []
        have hk : kindOk kd = true := by rw [kindOk_eq, hkd, Bool.true_and]; exact decide_eq_true (by omega)
        have hk5 : isK 5 kd = true := by rw [kindOk_eq, Bool.and_eq_true] at hk; exact hk.1
        have e4 := lfew_ok (w := w) (k := 5) (m := m) (d := kd) (M := 2000) (by omega) hk5 (by omega)
        have z2 := szK_two hk5
        by_cases hs : szK 5 kd ≤ 2000
        · unfold fewD at e4
          rw [if_pos hs] at e4
          generalize ec : ((szK 5 kd : Nat) : Int) = c at e4
          simp_arith [b_fr f4, b_fr f5, w2_eq (show callN tbl w m 39 [kd, .int 2000] = _ from e4), box_own1 hb]
          refine w2_mono (take_ok (w := w) (m := m) (by omega) hb (by omega) (by omega)) ?_ (fun _ z => z)
          rintro _ _ ⟨r, b, rfl, rfl, z0, z1, hb⟩
          simp_arith [box_own1 hb]
          refine w2_mono (pickl_ok (w := w) (m := m) (by omega) hb (by simp) (by simp)) ?_ (fun _ z => z)
          rintro v _ ⟨hv, b, rfl, hb⟩
          simp_arith [b_fr f5]
          refine ps_forI (fun ρ => ∃ s6, Fr s6 ∧ ρ = [some (.scr ns, 0), some (b, 1), some (.int ti, 0), some (kd, 0), some (.int c, 0), some (.lst [.int r, .int 2000, v, .int c, .int (c - 1)], 0), s6]) ?_
          simp_arith []
          refine fori_mk ⟨_, f6, rfl⟩ ?_ ?_
          · rintro q hq _ ⟨s6, f6, rfl⟩
            have hn : ∃ n : Nat, q = .int n ∧ n ≤ 2000 := by
              simp only [List.mem_cons, List.not_mem_nil, or_false] at hq hv
              rcases hq with rfl | rfl | rfl | rfl | rfl
              · exact ⟨r.toNat, by congr 1; omega, by omega⟩
              · exact ⟨2000, rfl, by omega⟩
              · rcases hv with rfl | rfl | rfl | rfl | rfl
                · exact ⟨0, rfl, by omega⟩
                · exact ⟨1, rfl, by omega⟩
                · exact ⟨2, rfl, by omega⟩
                · exact ⟨10, rfl, by omega⟩
                · exact ⟨200, rfl, by omega⟩
              · exact ⟨szK 5 kd, by rw [ec], by omega⟩
              · exact ⟨szK 5 kd - 1, by congr 1; omega, by omega⟩
            obtain ⟨n, rfl, hn⟩ := hn
            have a1 := few3_told (w := w) (m := m) (M := n) (by omega) hk hn
            have a2 := lfew_ok (w := w) (k := 5) (m := m) (d := kd) (M := n) (by omega) hk5 hn
            have a3 := repr_few (k := 5) (d := kd) hn
            have a4 := eq_rep_few (k := 5) (d := kd) (M := n)
            generalize fewD 5 kd n = fd at a1 a2 a3 a4
            generalize (n : Int) = ni at a1 a2 ⊢
            simp_arith [b_fr f6, w2_eq a1, w2_eq a2, a3, a4]
            exact ⟨_, fr_some, rfl⟩
          · rintro _ ⟨s6, f6, rfl⟩
            simp_arith []
            exact ⟨_, _, _, _, _, _, hb, fr_some, fr_some, fr_some, fr_some, f6, rfl⟩
        · unfold fewD at e4
          rw [if_neg hs] at e4
          simp_arith [b_fr f4, b_fr f5, w2_eq (show callN tbl w m 39 [kd, .int 2000] = _ from e4), box_own1 hb]
          refine w2_mono (take_ok (w := w) (m := m) (by omega) hb (by omega) (by omega)) ?_ (fun _ z => z)
          rintro _ _ ⟨r, b, rfl, rfl, z0, z1, hb⟩
          simp_arith [box_own1 hb]
          refine w2_mono (pickl_ok (w := w) (m := m) (by omega) hb (by simp) (by simp)) ?_ (fun _ z => z)
          rintro v _ ⟨hv, b, rfl, hb⟩
          simp_arith [b_fr f5]
          refine ps_forI (fun ρ => ∃ s6, Fr s6 ∧ ρ = [some (.scr ns, 0), some (b, 1), some (.int ti, 0), some (kd, 0), some (.non, 0), some (.lst [.int r, .int 2000, v], 0), s6]) ?_
          simp_arith []
          refine fori_mk ⟨_, f6, rfl⟩ ?_ ?_
          · rintro q hq _ ⟨s6, f6, rfl⟩
            have hn : ∃ n : Nat, q = .int n ∧ n ≤ 2000 := by
              simp only [List.mem_cons, List.not_mem_nil, or_false] at hq hv
              rcases hq with rfl | rfl | rfl
              · exact ⟨r.toNat, by congr 1; omega, by omega⟩
              · exact ⟨2000, rfl, by omega⟩
              · rcases hv with rfl | rfl | rfl | rfl | rfl
                · exact ⟨0, rfl, by omega⟩
                · exact ⟨1, rfl, by omega⟩
                · exact ⟨2, rfl, by omega⟩
                · exact ⟨10, rfl, by omega⟩
                · exact ⟨200, rfl, by omega⟩
            obtain ⟨n, rfl, hn⟩ := hn
            have a1 := few3_told (w := w) (m := m) (M := n) (by omega) hk hn
            have a2 := lfew_ok (w := w) (k := 5) (m := m) (d := kd) (M := n) (by omega) hk5 hn
            have a3 := repr_few (k := 5) (d := kd) hn
            have a4 := eq_rep_few (k := 5) (d := kd) (M := n)
            generalize fewD 5 kd n = fd at a1 a2 a3 a4
            generalize (n : Int) = ni at a1 a2 ⊢
            simp_arith [b_fr f6, w2_eq a1, w2_eq a2, a3, a4]
            exact ⟨_, fr_some, rfl⟩
          · rintro _ ⟨s6, f6, rfl⟩
            simp_arith []
            exact ⟨_, _, _, _, _, _, hb, fr_some, fr_some, fr_some, fr_some, f6, rfl⟩
    · simp_arith [b_fr f2, h0, box_own1 hb]
      refine w2_mono (some_kind_ok (w := w) (m := m) (by omega) hb) ?_ (fun _ z => z)
      rintro kd _ ⟨hk, b, rfl, hb⟩
      have hk2 := hk
      rw [kindOk_eq, Bool.and_eq_true, decide_eq_true_eq] at hk2
      have e10 := lmany_ok (w := w) (k := 5) (m := m) (d := kd) (by omega) hk2.1
      simp_arith [b_fr f3, w2_eq e10, show ¬ (20 < manyK 5 kd) by omega]
      have hk5 : isK 5 kd = true := by rw [kindOk_eq, Bool.and_eq_true] at hk; exact hk.1
      have e4 := lfew_ok (w := w) (k := 5) (m := m) (d := kd) (M := 2000) (by omega) hk5 (by omega)
      have z2 := szK_two hk5
      by_cases hs : szK 5 kd ≤ 2000
      · unfold fewD at e4
        rw [if_pos hs] at e4
        generalize ec : ((szK 5 kd : Nat) : Int) = c at e4
        simp_arith [b_fr f4, b_fr f5, w2_eq (show callN tbl w m 39 [kd, .int 2000] = _ from e4), box_own1 hb]
        refine w2_mono (take_ok (w := w) (m := m) (by omega) hb (by omega) (by omega)) ?_ (fun _ z => z)
        rintro _ _ ⟨r, b, rfl, rfl, z0, z1, hb⟩
        simp_arith [box_own1 hb]
        refine w2_mono (pickl_ok (w := w) (m := m) (by omega) hb (by simp) (by simp)) ?_ (fun _ z => z)
        rintro v _ ⟨hv, b, rfl, hb⟩
        simp_arith [b_fr f5]
        refine ps_forI (fun ρ => ∃ s6, Fr s6 ∧ ρ = [some (.scr ns, 0), some (b, 1), some (.int ti, 0), some (kd, 0), some (.int c, 0), some (.lst [.int r, .int 2000, v, .int c, .int (c - 1)], 0), s6]) ?_
        simp_arith []
        refine fori_mk ⟨_, f6, rfl⟩ ?_ ?_
        · rintro q hq _ ⟨s6, f6, rfl⟩
          have hn : ∃ n : Nat, q = .int n ∧ n ≤ 2000 := by
            simp only [List.mem_cons, List.not_mem_nil, or_false] at hq hv
            rcases hq with rfl | rfl | rfl | rfl | rfl
            · exact ⟨r.toNat, by congr 1; omega, by omega⟩
            · exact ⟨2000, rfl, by omega⟩
            · rcases hv with rfl | rfl | rfl | rfl | rfl
              · exact ⟨0, rfl, by omega⟩
              · exact ⟨1, rfl, by omega⟩
              · exact ⟨2, rfl, by omega⟩
              · exact ⟨10, rfl, by omega⟩
              · exact ⟨200, rfl, by omega⟩
            · exact ⟨szK 5 kd, by rw [ec], by omega⟩
            · exact ⟨szK 5 kd - 1, by congr 1; omega, by omega⟩
          obtain ⟨n, rfl, hn⟩ := hn
          have a1 := few3_told (w := w) (m := m) (M := n) (by omega) hk hn
          have a2 := lfew_ok (w := w) (k := 5) (m := m) (d := kd) (M := n) (by omega) hk5 hn
          have a3 := repr_few (k := 5) (d := kd) hn
          have a4 := eq_rep_few (k := 5) (d := kd) (M := n)
          generalize fewD 5 kd n = fd at a1 a2 a3 a4
          generalize (n : Int) = ni at a1 a2 ⊢
          simp_arith [b_fr f6, w2_eq a1, w2_eq a2, a3, a4]
          exact ⟨_, fr_some, rfl⟩
        · rintro _ ⟨s6, f6, rfl⟩
          simp_arith []
          exact ⟨_, _, _, _, _, _, hb, fr_some, fr_some, fr_some, fr_some, f6, rfl⟩
      · unfold fewD at e4
        rw [if_neg hs] at e4
        simp_arith [b_fr f4, b_fr f5, w2_eq (show callN tbl w m 39 [kd, .int 2000] = _ from e4), box_own1 hb]
        refine w2_mono (take_ok (w := w) (m := m) (by omega) hb (by omega) (by omega)) ?_ (fun _ z => z)
        rintro _ _ ⟨r, b, rfl, rfl, z0, z1, hb⟩
        simp_arith [box_own1 hb]
        refine w2_mono (pickl_ok (w := w) (m := m) (by omega) hb (by simp) (by simp)) ?_ (fun _ z => z)
        rintro v _ ⟨hv, b, rfl, hb⟩
        simp_arith [b_fr f5]
        refine ps_forI (fun ρ => ∃ s6, Fr s6 ∧ ρ = [some (.scr ns, 0), some (b, 1), some (.int ti, 0), some (kd, 0), some (.non, 0), some (.lst [.int r, .int 2000, v], 0), s6]) ?_
        simp_arith []
        refine fori_mk ⟨_, f6, rfl⟩ ?_ ?_
        · rintro q hq _ ⟨s6, f6, rfl⟩
          have hn : ∃ n : Nat, q = .int n ∧ n ≤ 2000 := by
            simp only [List.mem_cons, List.not_mem_nil, or_false] at hq hv
            rcases hq with rfl | rfl | rfl
            · exact ⟨r.toNat, by congr 1; omega, by omega⟩
            · exact ⟨2000, rfl, by omega⟩
            · rcases hv with rfl | rfl | rfl | rfl | rfl
              · exact ⟨0, rfl, by omega⟩
              · exact ⟨1, rfl, by omega⟩
              · exact ⟨2, rfl, by omega⟩
              · exact ⟨10, rfl, by omega⟩
              · exact ⟨200, rfl, by omega⟩
          obtain ⟨n, rfl, hn⟩ := hn
          have a1 := few3_told (w := w) (m := m) (M := n) (by omega) hk hn
          have a2 := lfew_ok (w := w) (k := 5) (m := m) (d := kd) (M := n) (by omega) hk5 hn
          have a3 := repr_few (k := 5) (d := kd) hn
          have a4 := eq_rep_few (k := 5) (d := kd) (M := n)
          generalize fewD 5 kd n = fd at a1 a2 a3 a4
          generalize (n : Int) = ni at a1 a2 ⊢
          simp_arith [b_fr f6, w2_eq a1, w2_eq a2, a3, a4]
          exact ⟨_, fr_some, rfl⟩
        · rintro _ ⟨s6, f6, rfl⟩
          simp_arith []
          exact ⟨_, _, _, _, _, _, hb, fr_some, fr_some, fr_some, fr_some, f6, rfl⟩
  · rintro _ ⟨b, s2, s3, s4, s5, s6, hb, f2, f3, f4, f5, f6, rfl⟩
    have e := few3_told_bad (w := w) (m := m) (M := 5) (by omega) (d := .tup [.str .set, .tup []]) rfl kindOk_set0
    simp_arith [w2_eq (show callN tbl w m 41 [.tup [.str .set, .tup []], .int 5] = _ from e)]
end
end Cg
set_option linter.all false
set_option maxRecDepth 100000
namespace Cg
theorem plain_law {W0 : Nat} {ns : List Int} (hl : ns.length ≤ 63) : ∃ outs, runF (callN tbl W0 99) W0 ir_law_3 [.scr ns] = .ok (.bool true, outs) := by
  have h := law3_ok (w := W0) (m := 100) (ns := ns) (by omega) hl
  rw [call_at (n := 99) rfl] at h
  rcases w2_cases h with ⟨a, b, e, rfl⟩ | ⟨_, _, z⟩
  · exact ⟨b, e⟩
  · exact z.elim
end Cg
namespace Cg
open PySem PySem.Spec PyProof.Rows L2
theorem fa_ok : FaOk gG faL where
  glo := fun e he => by
    match e, he with
    | 0, _ => simp [faL, clsName]
    | 1, _ => simp [faL, clsName]
    | 2, _ => simp [faL, clsName]
    | 3, _ => simp [faL, clsName]
    | 4, _ => simp [faL, clsName]
  exc := fun e he => by
    match e, he with
    | 0, _ => simp [faL, clsName]
    | 1, _ => simp [faL, clsName]
    | 2, _ => simp [faL, clsName]
    | 3, _ => simp [faL, clsName]
    | 4, _ => simp [faL, clsName]
  blts := fun x hx => by
    simp only [gG, List.mem_cons, List.not_mem_nil, or_false] at hx
    rcases hx with rfl | rfl | rfl | rfl | rfl | rfl | rfl | rfl | rfl | rfl | rfl | rfl | rfl | rfl | rfl <;> simp [faL]
  consts := fun p hp => by
    simp only [gG, List.mem_cons, List.not_mem_nil, or_false] at hp
    rcases hp with rfl | rfl <;> exact ⟨_, rfl, by simp [faL]⟩
  errs := fun p hp => by
    simp only [gG, List.mem_cons, List.not_mem_nil, or_false] at hp
    rcases hp with rfl | rfl | rfl | rfl | rfl <;> exact ⟨rfl, by decide⟩
theorem law_fn {P : Program} {w : World} {K : PySem.W.Frag} {h : Heap} {mg : Str → Option Value} (X : K.In h) (Gn : h.Ns mainGlobals mg) (c : SaysX faL fnL errB K) :
    ∃ fd, (∀ (s : Shared) (u : Value), BindsTo s fd ⟨[u], []⟩ [("_law_script", u)]) ∧ ∀ base : Heap, K.In base → base.Ns mainGlobals mg → (∀ q ∈ tfL, GxR.TabB base mg (He.cT K q).1 (He.cT K q).2) → FnOk P w K mg base (CXw P) 200 (He.fAd K ("law", none)) fd ["_law_script"] (spF (kxOf K w) (tfL.map fun q => (He.cT K q).2) [] ir_law_3.fresh ir_law_3.ps (runF (callN tbl W0 99) W0 ir_law_3)) := by
  obtain ⟨fd, F⟩ := c.2.def_ 19 (d := dd_law) rfl
  have b := FunD.bindsA (ps := ["_law_script"]) F (fun _ _ _ _ _ _ us hl => match us, hl with | [_], _ => rfl)
  refine ⟨fd, fun s u => b s [u] rfl, fun base XB GB TB => ?_⟩
  have lev := levels (P := P) (base := base) (tb := tfL.map fun q => (He.cT K q).2) (g0_of (w := w) XB GB c fa_ok) (funs_ok XB GB TB c) (ehs_ok XB GB TB c) W0 99
  exact fn_weak (fn_step (sc := sc_law) (fn := ir_law_3) lev (fun _ _ _ => id) F ⟨rfl, rfl, rfl, by decide +kernel, rfl, by decide +kernel, by decide +kernel⟩ rfl (fun z => ⟨rfl, absurd z (by decide)⟩) rfl rfl (by decide) ck_law) fun outer H s E u s' z => ⟨w, z⟩
end Cg
open PySem PySem.W PySem.Calls PyProof.Rows
theorem PySem.Challenge.cw_corrigenda_k03_how_many_values_holds : PySem.Challenge.rw_corrigenda_k03_how_many_values.Holds := by
  w_on; o_law
  refine HandSHeadRun.head_any (r := OpenLaw.row PySem.Challenge.rw_corrigenda_k03_how_many_values) (q := view (OpenLaw.row PySem.Challenge.rw_corrigenda_k03_how_many_values).prog [30]) (H := Cg.hkL) (ob := Cg.obL) (M := 3000) (loose := Cg.looseL) (d := HandSHeadRun.topDef (OpenLaw.row PySem.Challenge.rw_corrigenda_k03_how_many_values).prog 30) (kwd := []) Cg.obL_eq
    (by kernel_rfl) (fun s => by kernel_rfl) Cg.runL (by kernel_rfl) (by kernel_rfl) (by kernel_rfl) (by rfl) (by first | assumption | decide +kernel) (by decide +kernel) ⟨rfl, rfl, rfl, rfl, rfl, by decide +kernel⟩ ?hw ?hc
  case hw => w_witness2
  case hc =>
    refine LamX.walk_ofTsE (l := PySem.Challenge.rw_corrigenda_k03_how_many_values) (n := 63) (k := 200) (x := "_law_script") (CX := fun _ => Cg.CXw PySem.Challenge.rw_corrigenda_k03_how_many_values.prog) rfl (by decide) (by kernel_rfl) ⟨rfl, by decide, by decide⟩ ?F fun _ => Cg.cxw_none
    intro w mg fa h Y G hmg0
    obtain ⟨K, KX, c⟩ := Y
    have cs : Cg.SaysX Cg.faL Cg.fnL Cg.errB K := ⟨c.more, c.t.d⟩
    have hmg : mg ("law" : PySem.Str) = some (.ref fa) := by
      have e : (HandSHeadRun.topDef (OpenLaw.row PySem.Challenge.rw_corrigenda_k03_how_many_values).prog 30).name = ("law" : PySem.Str) := by kernel_rfl
      rw [← e]
      exact hmg0
    have e2 := He.glo_ok KX G (cs.2.fact 19 (f := .glo "law") rfl)
    have e3 : fa = He.fAd K ("law", none) := by
      have z := hmg.symm.trans e2
      cases z
      rfl
    subst e3
    obtain ⟨fd, b, hF⟩ := Cg.law_fn (P := PySem.Challenge.rw_corrigenda_k03_how_many_values.prog) (w := w) KX G cs
    exact ⟨K, KX, Cg.law_at (l := PySem.Challenge.rw_corrigenda_k03_how_many_values) KX c b (fun ns hl => Cg.plain_law hl) fun base hb hG hT => hF base hb hG hT⟩
