import PyProof.Rows.All
import PySem.Challenge.RW_checksigns_k80_whole_sheets_with_sums
import Wide.All
import OpenK.AllK
import Wide.FinOn
import HandS.ForMost
import HandS.ForExc
import HandS.CallSlots
import HandS.Lambda
import HandS.TupAny
import HandS.TupMul
import HandS.Wide
import HandS.Deep
import KE.KTupSum
import HandS.IsInst
import HandS.WordsDict
import HandS.Replace
import HandS.Style
import KE.KRevSl
import KE.GoesNew
import HandS.Conv
import HandS.CallLocal
import HandS.Defaults
import HandS.ExcInit
import HandS.HeadWalk
import HandS.ClsMeth
import HandS.ExcIs
import KE.KExcIs
import KE.KStateDown
import HandS.HeadEnd
import HandS.HeadHook1
import HandS.HeadHook2
import HandS.HeadHook3
import HandS.HeadHook4
import HandS.Head0
import HandS.Head1
import HandS.Head2
set_option Elab.async false
section
/-! DpA: plain data D, a small language (E, It, S), its total evaluator. Core Lean only. -/
set_option linter.all false
namespace Dp

/-- plain data: no addresses -/
inductive D where
  | non | bl (b : Bool) | int (i : Int) | str (s : List Nat)
  | tup (xs : List D) | lst (xs : List D)
  | dct (t : Bool) (ks vs : List D)
  | set (xs : List D)
  | obj (c : Nat) (fs : List (Nat × D))
  | fn (f : Nat)
  | scr (xs : List Int)
  | kt (xs : List D)
  deriving Inhabited

/-- an object that is one's own: a list, a dict (t: its keys are tuples), an instance that is being made -/
inductive Ob where
  | l (xs : List D) | d (t : Bool) (ks vs : List D) | i (c : Nat) (fs : List (Nat × D))
  deriving Inhabited

/-- a slot: nothing, a shared value, an own object, a borrowed one (slot 0 of a def that changes its first argument) -/
inductive Sl where
  | un | sh (d : D) | ow (o : Ob) | bo (o : Ob)
  deriving Inhabited
abbrev DSt := List Sl

/-- what an expression gives: a shared value, a new object, the object of a slot -/
inductive RV where
  | val (d : D) | fr (o : Ob) | bor (i : Nat)
  deriving Inhabited

structure Exc where
  cls : Nat
  fs : List (Nat × D)
  deriving Inhabited

inductive Out (α : Type) where
  | ok (a : α) (s : DSt) | exc (x : Exc) (s : DSt) | stuck
  deriving Inhabited

inductive Bop where
  | add | sub | mul | fdiv | mod | pow
  deriving DecidableEq, Inhabited
inductive Cop where
  | eq | ne | lt | le | gt | ge | isin | notin
  deriving DecidableEq, Inhabited
inductive Ty where
  | int | bool | str | tup | lst | dct
  deriving DecidableEq, Inhabited
/-- built-ins of one argument -/
inductive B1 where
  | abs | all | any | int | len | list | tuple | sum | max | min | sorted | set | str | repr | dict | sset | lset
  deriving DecidableEq, Inhabited
/-- built-ins of two -/
inductive B2 where
  | max | min
  deriving DecidableEq, Inhabited
/-- methods that change nothing, one argument -/
inductive M1 where
  | tcount | sindex | join
  deriving DecidableEq, Inhabited
inductive M2 where
  | get
  deriving DecidableEq, Inhabited
/-- methods that change the object of a slot, told as statements -/
inductive Mm where
  | append | extend | update
  deriving DecidableEq, Inhabited
/-- methods that change it and give a value -/
inductive Mp where
  | pop0 | pop1
  deriving DecidableEq, Inhabited

/-- a target: a slot, a tuple of targets -/
inductive Tg where
  | n (i : Nat) | nil | cons (t : Tg) (r : Tg)
  deriving DecidableEq, Inhabited

mutual
inductive E where
  | om | bad
  | v (i : Nat)
  | k (d : D)
  | glb (i : Nat)
  | bin (o : Bop) (a b : E)
  | neg (a : E) | nt (a : E)
  | cmp (o : Cop) (a b : E)
  | chn (o p : Cop) (a b c : E)
  | isn (n : Bool) (a : E)
  | isb (n : Bool) (a : E) (b : Bool)
  | and (a b : E) | or (a b : E)
  | ite (c a b : E)
  | tup (es : Es) | lst (es : Es)
  | dct (t : Bool) (ks vs : Es)
  | sub (a i : E)
  | slc (a lo hi : E)
  | rev (a : E)
  | rl (l : Bool) (it : It)
  | isi (a : E) (ts : List Ty)
  | b1 (f : B1) (a : E)
  | b2 (f : B2) (a b : E)
  | m1 (m : M1) (o a : E)
  | m2 (m : M2) (o a b : E)
  | mp (m : Mp) (i : Nat) (a : E)
  | att (o : E) (f : Nat)
  | call (f : Nat) (es : Es)
  | callm (f : Nat) (i : Nat) (es : Es)
  | callv (i : Nat) (fs : List Nat) (es : Es)
  | mk (c : Nat) (es : Es)
  | tld (f : Nat) (b : E)
  | lc (own : List Nat) (t : Tg) (it : It) (c elt : E)
  | lc2 (own own2 : List Nat) (t : Tg) (it : It) (t2 : Tg) (it2 : It) (elt : E)
  | dc (own : List Nat) (tk : Bool) (t : Tg) (it : It) (c kk vv : E)
inductive Es where
  | nil | cons (e : E) (es : Es)
inductive It where
  | seq (e : E) | rng (a b c : E) | enum (e : E) | zip2 (a b : E) | zip3 (a b c : E) | items (e : E)
end
instance : Inhabited E := ⟨.om⟩
def isOm : E → Bool
  | .om => true
  | _ => false
instance : Inhabited Es := ⟨.nil⟩

mutual
inductive S where
  | set (i : Nat) (e : E)
  | unp (t : Tg) (e : E)
  | par (is : List Nat) (es : Es)
  | seti (i : Nat) (ix e : E)
  | aug (i : Nat) (o : Bop) (e : E)
  | augi (i : Nat) (ix : E) (o : Bop) (e : E)
  | mm (m : Mm) (i : Nat) (e : E)
  | setf (i : Nat) (f : Nat) (e : E)
  | ex (e : E)
  | ret (e : E) | retn
  | ife (c : E) (a b : Ss)
  | for_ (t : Tg) (it : It) (b : Ss)
  | whl (c : E) (b : Ss)
  | rais (c : Nat) (es : Es)
  | pass | brk | cont | bad
inductive Ss where
  | nil | cons (s : S) (r : Ss)
end
instance : Inhabited Ss := ⟨.nil⟩

/-! ### states -/
def frz : Ob → D
  | .l xs => .lst xs
  | .d t ks vs => .dct t ks vs
  | .i c fs => .obj c fs
/-- a value that is kept -/
def use : RV → DSt → Option (D × DSt)
  | .val d, σ => some (d, σ)
  | .fr o, σ => some (frz o, σ)
  | .bor i, σ => match σ[i]? with
    | some (.ow o) => some (frz o, σ.set i (.sh (frz o)))
    | some (.sh d) => some (d, σ)
    | _ => none
/-- a value that is looked at -/
def peek : RV → DSt → Option D
  | .val d, _ => some d
  | .fr o, _ => some (frz o)
  | .bor i, σ => match σ[i]? with
    | some (.ow o) => some (frz o)
    | some (.bo o) => some (frz o)
    | some (.sh d) => some d
    | _ => none
def slotOb (σ : DSt) (i : Nat) : Option Ob := match σ[i]? with
  | some (.ow o) => some o
  | some (.bo o) => some o
  | _ => none
/-- the object of a slot is changed -/
def putOb (σ : DSt) (i : Nat) (o : Ob) : DSt := match σ[i]? with
  | some (.ow _) => σ.set i (.ow o)
  | some (.bo _) => σ.set i (.bo o)
  | _ => σ
/-- x = a value -/
def store (i : Nat) (r : RV) (σ : DSt) : Option DSt := match r with
  | .fr o => match σ[i]? with
    | some (.bo _) => none
    | some _ => some (σ.set i (.ow o))
    | none => none
  | r => match use r σ with
    | some (d, σ1) => match σ1[i]? with
      | some (.bo _) => none
      | some _ => some (σ1.set i (.sh d))
      | none => none
    | none => none

namespace Out
def bind {α β : Type} (x : Out α) (f : α → DSt → Out β) : Out β := match x with
  | .ok a s => f a s
  | .exc e s => .exc e s
  | .stuck => .stuck
def lift {α : Type} (s : DSt) : Option α → Out α
  | some a => .ok a s
  | none => .stuck
/-- kept -/
def used (x : Out RV) : Out D := match x with
  | .ok r s => match use r s with
    | some (d, s') => .ok d s'
    | none => .stuck
  | .exc e s => .exc e s
  | .stuck => .stuck
end Out

/-- one value looked at, two -/
def peek1 {β : Type} (r : RV) (σ : DSt) (k : D → Out β) : Out β := match peek r σ with
  | some x => k x
  | none => .stuck
def peek2 {β : Type} (r q : RV) (σ : DSt) (k : D → D → Out β) : Out β := match peek r σ, peek q σ with
  | some x, some y => k x y
  | _, _ => .stuck
/-! ### operators -/
def sizeLine : Nat := 16777216
def strOk (s : List Nat) : Bool := s.all fun c => decide (c < 1114112)
/-- data of None, bools, ints, texts, lists, tuples, at most so deep -/
def shp : Nat → D → Bool
  | _, .non => true
  | _, .bl _ => true
  | _, .int _ => true
  | _, .str s => strOk s
  | n + 1, .tup xs => xs.all (shp n)
  | n + 1, .lst xs => xs.all (shp n)
  | _, _ => false
mutual
/-- Python's == on such data -/
def eqb : D → D → Bool
  | .non, .non => true
  | .bl a, .bl b => a == b
  | .bl a, .int j => (if a then 1 else 0) == j
  | .int i, .bl b => i == (if b then 1 else 0)
  | .int i, .int j => i == j
  | .str s, .str t => s == t
  | .tup xs, .tup ys => eqbs xs ys
  | .lst xs, .lst ys => eqbs xs ys
  | _, _ => false
def eqbs : List D → List D → Bool
  | [], [] => true
  | x :: xs, y :: ys => eqb x y && eqbs xs ys
  | _, _ => false
end
def eqv (d e : D) : Option Bool := if shp 60 d && shp 60 e then some (eqb d e) else none
def lexInts : List D → Option (List Int)
  | [] => some []
  | .int i :: r => (lexInts r).map (i :: ·)
  | _ :: _ => none
/-- < of lists of ints -/
def ltInts : List Int → List Int → Bool
  | [], [] => false
  | [], _ :: _ => true
  | _ :: _, [] => false
  | x :: xs, y :: ys => if x = y then ltInts xs ys else decide (x < y)
def ltD : D → D → Option Bool
  | .int i, .int j => some (decide (i < j))
  | .str s, .str t => some (decide (s < t))
  | .tup xs, .tup ys => match lexInts xs, lexInts ys with
    | some a, some b => some (ltInts a b)
    | _, _ => none
  | _, _ => none
/-- x in a list of items -/
def inItems (x : D) (ys : List D) : Option Bool := if shp 60 x && ys.all (shp 60) then some (ys.any fun y => eqb y x) else none
def keyOk : Bool → D → Bool
  | false, .int _ => true
  | false, .str _ => true
  | true, .tup xs => xs.all fun x => match x with | .int _ => true | .str _ => true | _ => false
  | _, _ => false
/-- the value of a key -/
def lookK (k : D) : List D → List D → Option D
  | a :: ks, v :: vs => if eqb a k then some v else lookK k ks vs
  | _, _ => none
def flat : D → Bool
  | .non => true
  | .bl _ => true
  | .int _ => true
  | .str _ => true
  | _ => false
def inFlat (x : D) (ys : List D) : Option Bool := if flat x && ys.all flat then some (ys.any fun y => eqb y x) else none
def contD (x : D) : D → Option Bool
  | .tup ys => inFlat x ys
  | .kt ys => inFlat x ys
  | .lst ys => inItems x ys
  | .dct t ks _ => if keyOk t x then some (ks.any fun y => eqb y x) else none
  | .str t => match x with
    | .str [c] => some (decide (c ∈ t))
    | _ => none
  | _ => none
def cmpD : Cop → D → D → Option Bool
  | .eq, a, b => eqv a b
  | .ne, a, b => (eqv a b).map (!·)
  | .lt, a, b => ltD a b
  | .gt, .int i, .int j => some (decide (j < i))
  | .gt, _, _ => none
  | .le, .int i, .int j => some (decide (i ≤ j))
  | .ge, .int i, .int j => some (decide (j ≤ i))
  | .le, _, _ => none
  | .ge, _, _ => none
  | .isin, a, b => contD a b
  | .notin, a, b => (contD a b).map (!·)
def small (i : Int) : Bool := decide (-(2 ^ 64) < i ∧ i < 2 ^ 64)
def binD : Bop → D → D → Option RV
  | .add, .int i, .int j => some (.val (.int (i + j)))
  | .add, .str s, .str t => if s.length + t.length ≤ sizeLine then some (.val (.str (s ++ t))) else none
  | .add, .tup a, .tup b => if a.length + b.length ≤ sizeLine then some (.val (.tup (a ++ b))) else none
  | .add, .lst a, .lst b => if a.length + b.length ≤ sizeLine then some (.fr (.l (a ++ b))) else none
  | .sub, .int i, .int j => some (.val (.int (i - j)))
  | .mul, .int i, .int j => if small i || small j || decide (i.natAbs.log2 + j.natAbs.log2 < 1000000) then some (.val (.int (i * j))) else none
  | .mul, .lst a, .int j => if a.length * j.toNat ≤ sizeLine ∧ -(2 ^ 63) ≤ j ∧ j < 2 ^ 63 then some (.fr (.l (List.replicate j.toNat a).flatten)) else none
  | .mul, .tup a, .int j => if a.isEmpty = false ∧ 2 ≤ j ∧ j ≤ 1000 ∧ a.length ≤ 1000 then some (.val (.tup (List.replicate j.toNat a).flatten)) else none
  | .mul, .str s, .int j => if 1 ≤ j ∧ j ≤ 1000 ∧ s.length ≤ 1000 then some (.val (.str (List.replicate j.toNat s).flatten)) else none
  | .fdiv, .int i, .int j => if 0 < j ∧ j.natAbs.log2 < 9000 then some (.val (.int (i / j))) else none
  | .mod, .int i, .int j => if 0 < j then some (.val (.int (i % j))) else none
  | .pow, .int i, .int j => if 0 ≤ j ∧ j ≤ 1000000 ∧ i.natAbs < 2 ^ 64 then some (.val (.int (i ^ j.toNat))) else none
  | _, _, _ => none
/-- a place, from either end -/
def ixN (n : Nat) (i : Int) : Option Nat := if 0 ≤ i then (if i < n then some i.toNat else none) else if -(n : Int) ≤ i then some (i + n).toNat else none
def atI {α : Type} (xs : List α) (i : Int) : Option α := (ixN xs.length i).bind fun j => xs[j]?
def subD : D → D → Option D
  | .lst xs, .int i => atI xs i
  | .tup xs, .int i => atI xs i
  | .kt xs, .int i => atI xs i
  | .str s, .int i => if s.length ≤ sizeLine then (atI s i).map fun c => .str [c] else none
  | .dct t ks vs, k => if keyOk t k then lookK k ks vs else none
  | _, _ => none
/-- the bounds of a slice -/
def sIx (n d : Nat) : Option Int → Nat
  | none => d
  | some v => if v < 0 then (v + (n : Int)).toNat else min v.toNat n
def cutL {α : Type} (xs : List α) (lo hi : Option Int) : List α := (xs.drop (sIx xs.length 0 lo)).take (sIx xs.length xs.length hi - sIx xs.length 0 lo)
def negD : D → Option D
  | .int i => some (.int (-i))
  | _ => none
def isNon : D → Bool
  | .non => true
  | _ => false
/-- o.f, o an instance of a class that is made -/
def attD (ok : Nat → Bool) : D → Nat → Option D
  | .obj c fs, f => if ok c then fs.lookup f else none
  | _, _ => none
/-- the part of a slice: left out, or an int -/
def part (om : Bool) (x : Out RV) : Out (Option Int) := match om, x with
  | true, .ok _ s => .ok none s
  | false, .ok (.val (.int i)) s => .ok (some i) s
  | _, .exc e s => .exc e s
  | _, _ => .stuck
def slcD : D → Option Int → Option Int → Option RV
  | .lst xs, a, b => some (.fr (.l (cutL xs a b)))
  | .tup xs, a, b => some (.val (.tup (cutL xs a b)))
  | .scr xs, a, b => some (.fr (.l ((cutL xs a b).map .int)))
  | .str s, a, b => if s.length ≤ sizeLine then some (.val (.str (cutL s a b))) else none
  | _, _, _ => none
def revD : D → Option RV
  | .lst xs => some (.fr (.l xs.reverse))
  | .tup xs => some (.val (.tup xs.reverse))
  | _ => none
def boolD : D → Option Bool
  | .bl b => some b
  | _ => none
inductive Kd where
  | non | bl | int | str | tup | lst | dct
  deriving DecidableEq
def kdOf : D → Option Kd
  | .non => some .non
  | .bl _ => some .bl
  | .int _ => some .int
  | .str _ => some .str
  | .tup _ => some .tup
  | .kt _ => some .tup
  | .lst _ => some .lst
  | .dct _ _ _ => some .dct
  | _ => none
def kdTy : Kd → Ty → Bool
  | .bl, .int => true
  | .bl, .bool => true
  | .int, .int => true
  | .str, .str => true
  | .tup, .tup => true
  | .lst, .lst => true
  | .dct, .dct => true
  | _, _ => false
def boolsD : List D → Option (List Bool)
  | [] => some []
  | .bl b :: r => (boolsD r).map (b :: ·)
  | _ :: _ => none
def strsD : List D → Option (List (List Nat))
  | [] => some []
  | .str s :: r => (strsD r).map (s :: ·)
  | _ :: _ => none
def insI (x : Int) : List Int → List Int
  | [] => [x]
  | y :: r => if x < y then x :: y :: r else y :: insI x r
/-- the ints in order -/
def sortI : List Int → List Int
  | [] => []
  | x :: r => insI x (sortI r)
def insT (x : List Int) : List (List Int) → List (List Int)
  | [] => [x]
  | y :: r => if ltInts x y then x :: y :: r else y :: insT x r
def sortT : List (List Int) → List (List Int)
  | [] => []
  | x :: r => insT x (sortT r)
def intsOf (xs : List D) : Option (List Int) := lexInts xs
def tupsOf : List D → Option (List (List Int))
  | [] => some []
  | .tup xs :: r => match lexInts xs, tupsOf r with
    | some a, some b => some (a :: b)
    | _, _ => none
  | _ :: _ => none
def maxI : Int → List Int → Int
  | m, [] => m
  | m, x :: r => maxI (if m < x then x else m) r
def minI : Int → List Int → Int
  | m, [] => m
  | m, x :: r => minI (if x < m then x else m) r
def dedup : List (List Int) → List (List Int)
  | [] => []
  | x :: r => if x ∈ r then dedup r else x :: dedup r
def b1D : B1 → D → Option RV
  | .abs, .int i => some (.val (.int (if i < 0 then -i else i)))
  | .int, .int i => some (.val (.int i))
  | .int, .bl b => some (.val (.int (if b then 1 else 0)))
  | .len, .lst xs => some (.val (.int xs.length))
  | .len, .tup xs => some (.val (.int xs.length))
  | .len, .kt xs => some (.val (.int xs.length))
  | .len, .str s => if s.length ≤ sizeLine then some (.val (.int s.length)) else none
  | .len, .dct false ks _ => some (.val (.int ks.length))
  | .all, .lst xs => (boolsD xs).map fun bs => .val (.bl (bs.all id))
  | .any, .lst xs => (boolsD xs).map fun bs => .val (.bl (bs.any id))
  | .any, .tup xs => (lexInts xs).map fun ns => .val (.bl (ns.any fun i => i != 0))
  | .list, .lst xs => some (.fr (.l xs))
  | .list, .tup xs => some (.fr (.l xs))
  | .tuple, .lst xs => some (.val (.tup xs))
  | .tuple, .tup xs => some (.val (.tup xs))
  | .sum, .lst xs => (intsOf xs).map fun ns => .val (.int ns.sum)
  | .sum, .tup xs => (lexInts xs).map fun ns => .val (.int ns.sum)
  | .max, .lst xs => match intsOf xs with
    | some (m :: r) => some (.val (.int (maxI m r)))
    | _ => none
  | .min, .lst xs => match intsOf xs with
    | some (m :: r) => some (.val (.int (minI m r)))
    | _ => none
  | .sorted, .lst xs => match intsOf xs with
    | some ns => some (.fr (.l ((sortI ns).map .int)))
    | none => match tupsOf xs with
      | some ts => some (.fr (.l ((sortT ts).map fun t => .tup (t.map .int))))
      | none => none
  | .sset, .lst xs => match tupsOf xs with
    | some ts => some (.fr (.l ((sortT (dedup ts)).map fun t => .tup (t.map .int))))
    | none => none
  | .dict, .dct t ks vs => some (.fr (.d t ks vs))
  | _, _ => none
def b2D : B2 → D → D → Option RV
  | .max, .int i, .int j => some (.val (.int (if j > i then j else i)))
  | .min, .int i, .int j => some (.val (.int (if j < i then j else i)))
  | _, _, _ => none
def joinC (sep : List Nat) : List (List Nat) → List Nat
  | [] => []
  | [x] => x
  | p :: q :: r => p ++ (sep ++ joinC sep (q :: r))
def m1D : M1 → D → D → Option RV
  | .tcount, .tup xs, .int i => (lexInts xs).map fun ns => .val (.int (ns.count i))
  | .sindex, .str t, .str [c] => (t.findIdx? (· == c)).map fun (n : Nat) => .val (.int n)
  | .join, .str sep, .lst xs => match strsD xs with
    | some ss => if (ss.map (·.length)).sum + ss.length * sep.length ≤ 16777216 then some (.val (.str (joinC sep ss))) else none
    | none => none
  | _, _, _ => none
/-- the receiver has the method -/
def m1K : M1 → D → Bool
  | .tcount, .tup _ => true
  | .sindex, .str _ => true
  | .join, .str _ => true
  | _, _ => false
def m2K : M2 → D → Bool
  | .get, .dct _ _ _ => true
  | _, _ => false
def m2D : M2 → D → D → D → Option RV
  | .get, .dct t ks vs, k, d => if keyOk t k then some (.val ((lookK k ks vs).getD d)) else none
  | _, _, _, _ => none
/-! ### changes of objects -/
def putK (k v : D) : List D → List D → List D × List D
  | a :: ks, b :: vs => if eqb a k then (a :: ks, v :: vs) else (a :: (putK k v ks vs).1, b :: (putK k v ks vs).2)
  | _, _ => ([k], [v])
def setOb : Ob → D → D → Option Ob
  | .l xs, .int i, v => (ixN xs.length i).map fun j => .l (xs.set j v)
  | _, _, _ => none
def getOb : Ob → D → Option D
  | .l xs, i => subD (.lst xs) i
  | .d t ks vs, k => subD (.dct t ks vs) k
  | _, _ => none
def mmOb : Mm → Ob → D → Option Ob
  | .append, .l xs, v => if xs.length < sizeLine then some (.l (xs ++ [v])) else none
  | .extend, .l xs, .lst ys => if xs.length + ys.length ≤ sizeLine then some (.l (xs ++ ys)) else none
  | _, _, _ => none
def mpOb : Mp → Ob → D → Option (D × Ob)
  | .pop0, .l xs, _ => match xs.getLast? with
    | some y => some (y, .l xs.dropLast)
    | none => none
  | .pop1, .l xs, .int i => match (if xs.length ≤ sizeLine then ixN xs.length i else none) with
    | some j => match xs[j]? with
      | some y => some (y, .l (xs.eraseIdx j))
      | none => none
    | none => none
  | _, _, _ => none
def putF (f : Nat) (v : D) : List (Nat × D) → List (Nat × D)
  | [] => [(f, v)]
  | (g, w) :: r => if g = f then (f, v) :: r else (g, w) :: putF f v r

/-- o.f = v -/
def setFOb (ok : Nat → Bool) : Ob → Nat → D → Option Ob
  | .i c fs, f, v => if ok c ∧ fs.length < 900 then some (.i c (putF f v fs)) else none
  | _, _, _ => none

/-! ### targets, items -/
def asg : Tg → D → DSt → Option DSt
  | .n i, d, σ => store i (.val d) σ
  | .nil, .tup [], σ => some σ
  | .nil, _, _ => none
  | .cons t r, .tup (x :: xs), σ => match asg t x σ with
    | some σ1 => asg r (.tup xs) σ1
    | none => none
  | .cons _ _, _, _ => none
def itemsD : D → Option (List D)
  | .lst xs => some xs
  | .tup xs => some xs
  | .kt xs => some xs
  | .str s => some (s.map fun c => .str [c])
  | _ => none
def rangeD (lo hi st : Int) : List D := (List.range ((hi - lo + st - 1) / st).toNat).map fun (i : Nat) => .int (lo + (i : Int) * st)
def inR (i : Int) : Bool := decide (-(2 ^ 62) ≤ i ∧ i < 2 ^ 62)
def zipD : List D → List D → List D
  | x :: xs, y :: ys => .tup [x, y] :: zipD xs ys
  | _, _ => []
def zip3D : List D → List D → List D → List D
  | x :: xs, y :: ys, z :: zs => .tup [x, y, z] :: zip3D xs ys zs
  | _, _, _ => []
def enumD : Nat → List D → List D
  | _, [] => []
  | i, x :: r => .tup [.int i, x] :: enumD (i + 1) r
def rngO : RV → RV → RV → Option (List D)
  | .val (.int i), .val (.int j), .val (.int k) => if inR i && inR j && decide (0 < k) && decide (k < 1073741824) then some (rangeD i j k) else none
  | _, _, _ => none
def enumO (d : D) : Option (List D) := match itemsD d with
  | some xs => some (enumD 0 xs)
  | none => none
def zipO (d e : D) : Option (List D) := match itemsD d, itemsD e with
  | some xs, some ys => some (zipD xs ys)
  | _, _ => none
def zip3O (d e f : D) : Option (List D) := match itemsD d, itemsD e, itemsD f with
  | some xs, some ys, some zs => some (zip3D xs ys zs)
  | _, _, _ => none
def itemsO : D → Option (List D)
  | _ => none
/-- the slots of a comprehension may be taken and given back -/
def freeB (σ : DSt) (own : List Nat) : Bool := own.all fun v => match σ[v]? with
  | some .un => true
  | some (.sh _) => true
  | _ => false
def wipeD (σ : DSt) : List Nat → DSt
  | [] => σ
  | v :: vs => (wipeD σ vs).set v .un
/-- the slots at vs as they were in σ -/
def backD (σ τ : DSt) : List Nat → DSt
  | [] => τ
  | v :: vs => match σ[v]? with
    | some x => (backD σ τ vs).set v x
    | none => backD σ τ vs

/-! ### functions -/
inductive FR where
  | val (d : D) | fr (o : Ob)
  deriving Inhabited
inductive Fout where
  | ok (r : FR) (m : Option Ob) | exc (x : Exc) (m : Option Ob) | stuck
  deriving Inhabited
abbrev Fsem := Nat → Option Ob → List D → Fout
structure Told where
  okv : D → D
  exv : Exc → Option D
/-- what is told of an exception: a word, a number -/
inductive TW where
  | s (w : List Nat)
  | i (n : Nat)
def TW.d : TW → D
  | .s w => .str w
  | .i n => .int n
structure Tld where
  okw : Option (List Nat)
  exw : Nat → Option TW
def Tld.told (t : Tld) : Told where
  okv := fun d => match t.okw with
    | some s => .str s
    | none => d
  exv := fun x => match x.fs with
    | [] => (t.exw x.cls).map TW.d
    | _ => none
structure Gam where
  fn : Fsem
  glob : Nat → Option D
  told : Nat → Option Told
  initOf : Nat → Option Nat
  excF : Nat → Option (List Nat)
  fuel : Nat

/-- a comprehension's turns: f tells of an item and a state whether it is kept and as what -/
def lcL (f : D → DSt → Out (Option D)) : List D → DSt → Out (List D)
  | [], σ => .ok [] σ
  | x :: xs, σ => match f x σ with
    | .ok (some d) σ1 => match lcL f xs σ1 with
      | .ok ds σ2 => .ok (d :: ds) σ2
      | _ => .stuck
    | .ok none σ1 => lcL f xs σ1
    | _ => .stuck
/-- a turn: the target, the test, the element -/
def lcStep (o : Option DSt) (c : DSt → Out Bool) (e : DSt → Out D) : Out (Option D) := match o with
  | some τ1 => (c τ1).bind fun t τ2 => if t then (e τ2).bind fun d τ3 => .ok (some d) τ3 else .ok none τ2
  | none => .stuck
/-- behind the turns -/
def lcEnd (own : List Nat) (σ1 : DSt) (o : Out (List D)) : Out RV := match o with
  | .ok ds σ2 => if ds.length < sizeLine then .ok (.fr (.l ds)) (backD σ1 σ2 own) else .stuck
  | _ => .stuck
/-- .. of two clauses -/
def lcLL (f : D → DSt → Out (List D)) : List D → DSt → Out (List D)
  | [], σ => .ok [] σ
  | x :: xs, σ => match f x σ with
    | .ok d σ1 => match lcLL f xs σ1 with
      | .ok ds σ2 => .ok (d ++ ds) σ2
      | _ => .stuck
    | _ => .stuck
/-- a turn of the outer one -/
def lc2Step (o : Option DSt) (it : DSt → Out (List D)) (k : List D → DSt → Out (List D)) : Out (List D) := match o with
  | some τ1 => (it τ1).bind k
  | none => .stuck
def pairsOf : List D → Option (List (D × D))
  | [] => some []
  | .tup [k, v] :: r => (pairsOf r).map ((k, v) :: ·)
  | _ :: _ => none
def dictOf (t : Bool) : List (D × D) → List D → List D → Option Ob
  | [], ks, vs => some (.d t ks vs)
  | (k, v) :: r, ks, vs => if keyOk t k ∧ ks.length < sizeLine then dictOf t r (putK k v ks vs).1 (putK k v ks vs).2 else none

def truth (x : Out RV) : Out Bool := match x with
  | .ok (.val (.bl b)) s => .ok b s
  | .ok _ _ => .stuck
  | .exc e s => .exc e s
  | .stuck => .stuck
def rvOf : FR → RV
  | .val d => .val d
  | .fr o => .fr o
/-- behind a call -/
def callN (σ : DSt) : Fout → Out RV
  | .ok r none => .ok (rvOf r) σ
  | .exc x none => .exc x σ
  | _ => .stuck
/-- .. that changed the object of slot i -/
def callM (σ : DSt) (i : Nat) : Fout → Out RV
  | .ok r (some o) => .ok (rvOf r) (putOb σ i o)
  | .exc x (some o) => .exc x (putOb σ i o)
  | _ => .stuck
def Es.len : Es → Nat
  | .nil => 0
  | .cons _ es => es.len + 1
mutual
def ev (G : Gam) : E → DSt → Out RV
  | .om, σ => .ok (.val .non) σ
  | .bad, σ => .stuck
  | .v i, σ => match σ[i]? with
    | some (.sh d) => .ok (.val d) σ
    | some (.ow _) => .ok (.bor i) σ
    | some (.bo _) => .ok (.bor i) σ
    | _ => .stuck
  | .k d, σ => .ok (.val d) σ
  | .glb i, σ => match G.glob i with
    | some d => .ok (.val d) σ
    | none => .stuck
  | .bin o a b, σ => (ev G a σ).bind fun r σ1 => (ev G b σ1).bind fun q σ2 => peek2 r q σ2 fun x y => Out.lift σ2 (binD o x y)
  | .neg a, σ => (ev G a σ).bind fun r σ1 => peek1 r σ1 fun x => Out.lift σ1 ((negD x).map .val)
  | .nt a, σ => (truth (ev G a σ)).bind fun b σ1 => .ok (.val (.bl (!b))) σ1
  | .cmp o a b, σ => (ev G a σ).bind fun r σ1 => (ev G b σ1).bind fun q σ2 => peek2 r q σ2 fun x y => Out.lift σ2 ((cmpD o x y).map fun b => .val (.bl b))
  | .chn o p a b c, σ => (ev G a σ).bind fun r σ1 => (ev G b σ1).bind fun q σ2 => peek2 r q σ2 fun x y => (Out.lift σ2 (cmpD o x y)).bind fun t σ2' =>
      if t then (ev G c σ2').bind fun t σ3 => peek2 q t σ3 fun y z => Out.lift σ3 ((cmpD p y z).map fun b => .val (.bl b)) else .ok (.val (.bl false)) σ2'
  | .isn n a, σ => (ev G a σ).bind fun r σ1 => peek1 r σ1 fun x => .ok (.val (.bl (cond n (isNon x) (!isNon x)))) σ1
  | .isb n a b, σ => (truth (ev G a σ)).bind fun c σ1 => .ok (.val (.bl ((b == c) == n))) σ1
  | .and a b, σ => (truth (ev G a σ)).bind fun t σ1 => if t then ev G b σ1 else .ok (.val (.bl false)) σ1
  | .or a b, σ => (truth (ev G a σ)).bind fun t σ1 => if t then .ok (.val (.bl true)) σ1 else ev G b σ1
  | .ite c a b, σ => (truth (ev G c σ)).bind fun t σ1 => if t then ev G a σ1 else ev G b σ1
  | .tup es, σ => (evs G es σ).bind fun ds σ1 => if ds.length ≤ sizeLine then .ok (.val (.tup ds)) σ1 else .stuck
  | .lst es, σ => (evs G es σ).bind fun ds σ1 => if ds.length ≤ sizeLine then .ok (.fr (.l ds)) σ1 else .stuck
  | .dct t ks vs, σ => (evs G ks σ).bind fun ds σ1 => (evs G vs σ1).bind fun ws σ2 => Out.lift σ2 ((dictOf t (ds.zip ws) [] []).map .fr)
  | .sub a i, σ => (ev G a σ).bind fun r σ1 => (ev G i σ1).bind fun q σ2 => peek2 r q σ2 fun x y => Out.lift σ2 ((subD x y).map .val)
  | .slc a lo hi, σ => (ev G a σ).bind fun r σ1 => (part (isOm lo) (ev G lo σ1)).bind fun l σ2 => (part (isOm hi) (ev G hi σ2)).bind fun h σ3 => peek1 r σ3 fun x => Out.lift σ3 (slcD x l h)
  | .rev a, σ => (ev G a σ).bind fun r σ1 => peek1 r σ1 fun x => Out.lift σ1 (revD x)
  | .rl l it, σ => (evi G it σ).bind fun xs σ1 => if xs.length ≤ sizeLine then (if l then .ok (.fr (.l xs)) σ1 else .ok (.val (.tup xs)) σ1) else .stuck
  | .isi a ts, σ => (ev G a σ).bind fun r σ1 => peek1 r σ1 fun x => Out.lift σ1 ((kdOf x).map fun k => .val (.bl (ts.any (kdTy k))))
  | .b1 f a, σ => (ev G a σ).bind fun r σ1 => peek1 r σ1 fun x => Out.lift σ1 (b1D f x)
  | .b2 f a b, σ => (ev G a σ).bind fun r σ1 => (ev G b σ1).bind fun q σ2 => peek2 r q σ2 fun x y => Out.lift σ2 (b2D f x y)
  | .m1 m o a, σ => (ev G o σ).bind fun r σ1 => peek1 r σ1 fun z => if m1K m z then (ev G a σ1).bind fun q σ2 => peek2 r q σ2 fun x y => Out.lift σ2 (m1D m x y) else .stuck
  | .m2 m o a b, σ => (ev G o σ).bind fun r σ1 => peek1 r σ1 fun z => if !m2K m z then .stuck else (ev G a σ1).bind fun q σ2 => (ev G b σ2).used.bind fun z σ3 => peek2 r q σ3 fun x y => Out.lift σ3 (m2D m x y z)
  | .mp m i a, σ => match slotOb σ i with
    | some (.l _) => (ev G a σ).bind fun q σ1 => match q, slotOb σ1 i with
      | .val y, some o => match mpOb m o y with
        | some (d, o') => .ok (.val d) (putOb σ1 i o')
        | none => .stuck
      | _, _ => .stuck
    | _ => .stuck
  | .att o f, σ => (ev G o σ).bind fun r σ1 => peek1 r σ1 fun x => Out.lift σ1 ((attD (fun c => (G.initOf c).isSome) x f).map .val)
  | .call f es, σ => (evs G es σ).bind fun ds σ1 => callN σ1 (G.fn f none ds)
  | .callm f i es, σ => if (slotOb σ i).isSome then (evs G es σ).bind fun ds σ1 => match slotOb σ1 i with
    | some o => callM σ1 i (G.fn f (some o) ds)
    | none => .stuck
    else .stuck
  | .callv i fs es, σ => match σ[i]? with
    | some (.sh (.fn f)) => if fs.contains f then (evs G es σ).bind fun ds σ1 => callN σ1 (G.fn f none ds) else .stuck
    | _ => .stuck
  | .mk c es, σ => (evs G es σ).bind fun ds σ1 => match G.initOf c with
    | some f => match G.fn f (some (.i c [])) ds with
      | .ok (.val .non) (some (.i c' fs)) => if c' = c then .ok (.fr (.i c fs)) σ1 else .stuck
      | _ => .stuck
    | none => .stuck
  | .tld f b, σ => match G.told f with
    | some t => match (ev G b σ).used with
      | .ok d σ1 => .ok (.val (t.okv d)) σ1
      | .exc x σ1 => match t.exv x with
        | some d => .ok (.val d) σ1
        | none => .stuck
      | .stuck => .stuck
    | none => .stuck
  | .lc own t it c elt, σ => (evi G it σ).bind fun xs σ1 => if freeB σ1 own then lcEnd own σ1 (lcL (fun x τ => lcStep (asg t x (wipeD τ own)) (fun τ1 => truth (ev G c τ1)) (fun τ2 => (ev G elt τ2).used)) xs σ1) else .stuck
  | .lc2 own own2 t it t2 it2 elt, σ => (evi G it σ).bind fun xs σ1 => if freeB σ1 own then lcEnd own σ1 (lcLL (fun x τ => lc2Step (asg t x (wipeD τ own)) (fun τ1 => evi G it2 τ1) fun ys τ2 => lcL (fun y ρ => lcStep (asg t2 y (wipeD ρ own2)) (fun ρ1 => .ok true ρ1) fun ρ2 => (ev G elt ρ2).used) ys τ2) xs σ1) else .stuck
  | .dc own tk t it c kk vv, σ => .stuck
def evs (G : Gam) : Es → DSt → Out (List D)
  | .nil, σ => .ok [] σ
  | .cons e es, σ => (ev G e σ).used.bind fun d σ1 => (evs G es σ1).bind fun ds σ2 => .ok (d :: ds) σ2
def evi (G : Gam) : It → DSt → Out (List D)
  | .seq e, σ => (ev G e σ).used.bind fun d σ1 => Out.lift σ1 (itemsD d)
  | .rng a b c, σ => (ev G a σ).bind fun r σ1 => (ev G b σ1).bind fun q σ2 => (ev G c σ2).bind fun t σ3 => Out.lift σ3 (rngO r q t)
  | .enum e, σ => (ev G e σ).used.bind fun d σ1 => Out.lift σ1 (enumO d)
  | .zip2 a b, σ => (ev G a σ).used.bind fun d σ1 => (ev G b σ1).used.bind fun e σ2 => Out.lift σ2 (zipO d e)
  | .zip3 a b c, σ => (ev G a σ).used.bind fun d σ1 => (ev G b σ1).used.bind fun e σ2 => (ev G c σ2).used.bind fun f σ3 => Out.lift σ3 (zip3O d e f)
  | .items e, σ => (ev G e σ).used.bind fun d σ1 => Out.lift σ1 (itemsO d)
end

/-- kept: what is new stays new -/
def keptF (x : Out RV) : Out RV := match x with
  | .ok (.fr o) σ => .ok (.fr o) σ
  | .ok (.val d) σ => .ok (.val d) σ
  | .ok (.bor i) σ => match use (.bor i) σ with
    | some (d, σ') => .ok (.val d) σ'
    | none => .stuck
  | .exc x s => .exc x s
  | .stuck => .stuck
/-- a row of values, each kept -/
def evrs (G : Gam) : Es → DSt → Out (List RV)
  | .nil, σ => .ok [] σ
  | .cons e es, σ => (keptF (ev G e σ)).bind fun r σ1 => (evrs G es σ1).bind fun rs σ2 => .ok (r :: rs) σ2

inductive Flow where
  | nx | rt (r : RV) | bk | ct
  deriving Inhabited

def forL (f : D → DSt → Out Flow) : List D → DSt → Out Flow
  | [], σ => .ok .nx σ
  | x :: xs, σ => match f x σ with
    | .ok .nx σ1 => forL f xs σ1
    | .ok .ct σ1 => forL f xs σ1
    | .ok .bk σ1 => .ok .nx σ1
    | .ok (.rt r) σ1 => .ok (.rt r) σ1
    | .exc x s => .exc x s
    | .stuck => .stuck
def whlL (c : DSt → Out Bool) (f : DSt → Out Flow) : Nat → DSt → Out Flow
  | 0, _ => .stuck
  | n + 1, σ => match c σ with
    | .ok true σ1 => match f σ1 with
      | .ok .nx σ2 => whlL c f n σ2
      | .ok .ct σ2 => whlL c f n σ2
      | .ok .bk σ2 => .ok .nx σ2
      | .ok (.rt r) σ2 => .ok (.rt r) σ2
      | .exc x s => .exc x s
      | .stuck => .stuck
    | .ok false σ1 => .ok .nx σ1
    | .exc x s => .exc x s
    | .stuck => .stuck
def storeRs : List Nat → List RV → DSt → Option DSt
  | [], [], σ => some σ
  | i :: is, r :: rs, σ => match store i r σ with
    | some σ1 => storeRs is rs σ1
    | none => none
  | _, _, _ => none
/-- a statement's end -/
def storeS : Option DSt → Out Flow
  | some σ => .ok .nx σ
  | none => .stuck
def seqS (o : Out Flow) (k : DSt → Out Flow) : Out Flow := match o with
  | .ok .nx σ => k σ
  | .ok (.rt r) σ => .ok (.rt r) σ
  | .ok .bk σ => .ok .bk σ
  | .ok .ct σ => .ok .ct σ
  | .exc x σ => .exc x σ
  | .stuck => .stuck
def isL : Option Ob → Bool
  | some (.l _) => true
  | _ => false
/-- the object of slot i is changed -/
def chS (i : Nat) (f : Ob → Option Ob) (σ : DSt) : Out Flow := match slotOb σ i with
  | some o => match f o with
    | some o' => .ok .nx (putOb σ i o')
    | none => .stuck
  | none => .stuck
def augS (i : Nat) (o : Bop) (x y : D) (σ : DSt) : Out Flow := match x, y, o with
  | .int a, .int b, .add => .ok .nx (σ.set i (.sh (.int (a + b))))
  | .int a, .int b, .sub => .ok .nx (σ.set i (.sh (.int (a - b))))
  | _, _, _ => .stuck
def raiS (c : Nat) (ds : List D) (σ : DSt) : Option (List Nat) → Out Flow
  | some fs => if fs.length = ds.length then .exc ⟨c, []⟩ σ else .stuck
  | none => .stuck
mutual
def ex (G : Gam) : S → DSt → Out Flow
  | .set i e, σ => (ev G e σ).bind fun r σ1 => storeS (store i r σ1)
  | .unp t e, σ => (ev G e σ).used.bind fun d σ1 => storeS (asg t d σ1)
  | .par is es, σ => (evrs G es σ).bind fun rs σ1 => storeS (storeRs is rs σ1)
  | .seti i ix e, σ => (ev G e σ).used.bind fun d σ1 => if (slotOb σ1 i).isSome then (ev G ix σ1).used.bind fun k σ2 => chS i (fun o => setOb o k d) σ2 else .stuck
  | .aug i o e, σ => match σ[i]? with
    | some (.sh x) => (ev G e σ).used.bind fun y σ1 => augS i o x y σ1
    | _ => .stuck
  | .augi i ix o e, σ => .stuck
  | .mm m i e, σ => if isL (slotOb σ i) then (ev G e σ).used.bind fun d σ1 => chS i (fun o => mmOb m o d) σ1 else .stuck
  | .setf i f e, σ => (ev G e σ).used.bind fun d σ1 => if (slotOb σ1 i).isSome then chS i (fun o => setFOb (fun c => (G.initOf c).isSome) o f d) σ1 else .stuck
  | .ex e, σ => (ev G e σ).bind fun _ σ1 => .ok .nx σ1
  | .ret e, σ => (ev G e σ).bind fun r σ1 => .ok (.rt r) σ1
  | .retn, σ => .ok (.rt (.val .non)) σ
  | .ife c a b, σ => (truth (ev G c σ)).bind fun t σ1 => if t then exs G a σ1 else exs G b σ1
  | .for_ t it b, σ => (evi G it σ).bind fun xs σ1 => forL (fun x τ => seqS (storeS (asg t x τ)) fun τ1 => exs G b τ1) xs σ1
  | .whl c b, σ => whlL (fun τ => truth (ev G c τ)) (fun τ => exs G b τ) G.fuel σ
  | .rais c es, σ => (evs G es σ).bind fun ds σ1 => raiS c ds σ1 (G.excF c)
  | .pass, σ => .ok .nx σ
  | .brk, σ => .ok .bk σ
  | .cont, σ => .ok .ct σ
  | .bad, σ => .stuck
def exs (G : Gam) : Ss → DSt → Out Flow
  | .nil, σ => .ok .nx σ
  | .cons s r, σ => seqS (ex G s σ) fun σ1 => exs G r σ1
end

/-- a def: how many parameters, whether the first is changed, how many slots, the body -/
structure FDef where
  np : Nat
  mu : Bool
  ns : Nat
  body : Ss
def retOf (r : RV) (σ : DSt) : Option FR := match r with
  | .val d => some (.val d)
  | .fr o => some (.fr o)
  | .bor i => match σ[i]? with
    | some (.ow o) => some (.fr o)
    | some (.sh d) => some (.val d)
    | _ => none
def endOf (mu : Bool) (σ : DSt) : Option (Option Ob) := match mu with
  | false => some none
  | true => match σ.head? with
    | some (.bo o) => some (some o)
    | _ => none
def startD (fd : FDef) (m : Option Ob) (ds : List D) : Option DSt := match fd.mu, m with
  | false, none => if ds.length = fd.np then some (ds.map .sh ++ List.replicate (fd.ns - fd.np) .un) else none
  | true, some o => if ds.length + 1 = fd.np then some (.bo o :: (ds.map .sh ++ List.replicate (fd.ns - fd.np) .un)) else none
  | _, _ => none
def finish (mu : Bool) : Out Flow → Fout
  | .ok .nx σ => match endOf mu σ with
    | some m => .ok (.val .non) m
    | none => .stuck
  | .ok (.rt r) σ => match retOf r σ, endOf mu σ with
    | some r, some m => .ok r m
    | _, _ => .stuck
  | .ok _ _ => .stuck
  | .exc x σ => match endOf mu σ with
    | some m => .exc x m
    | none => .stuck
  | .stuck => .stuck
def runDef (G : Gam) (fd : FDef) (m : Option Ob) (ds : List D) : Fout := match startD fd m ds with
  | some σ => finish fd.mu (exs G fd.body σ)
  | none => .stuck
structure Prog where
  defs : List FDef
  glob : List D
  told : List (Nat × Told)
  init : List (Nat × Nat)
  excF : List (Nat × List Nat)
  fuel : Nat
def Prog.gam (P : Prog) (φ : Fsem) : Gam := ⟨φ, fun i => P.glob[i]?, fun f => P.told.lookup f, fun c => P.init.lookup c, fun c => P.excF.lookup c, P.fuel⟩
/-- the defs by levels: a call within a call is one less -/
def sem (P : Prog) : Nat → Fsem
  | 0 => fun _ _ _ => .stuck
  | n + 1 => fun f m ds => match P.defs[f]? with
    | some fd => runDef (P.gam (sem P n)) fd m ds
    | none => .stuck
end Dp
end

section
set_option linter.all false
set_option autoImplicit false
/-! DpW: what an outcome keeps, step by step (rules for plain proofs) -/
namespace Dp
abbrev PQ (α : Type) := α → DSt → Prop
abbrev PX := Exc → DSt → Prop
structure W {α : Type} (x : Out α) (Q : PQ α) (X : PX) : Prop where
  go : match x with
    | .ok a s => Q a s
    | .exc e s => X e s
    | .stuck => False
abbrev FQ := FR → Option Ob → Prop
abbrev FX := Exc → Option Ob → Prop
structure WF (x : Fout) (Q : FQ) (X : FX) : Prop where
  go : match x with
    | .ok r m => Q r m
    | .exc e m => X e m
    | .stuck => False
def noX : PX := fun _ _ => False
def noF : FX := fun _ _ => False
/-- an option that is some -/
structure LF {α : Type} (o : Option α) (k : α → Prop) : Prop where
  go : match o with
    | some a => k a
    | none => False
def T (A B : DSt → Prop) : PQ RV := fun r σ => match r with
  | .val (.bl b) => (b = true → A σ) ∧ (b = false → B σ)
  | _ => False
/-- a check, then more -/
def BT (p A : Prop) : Prop := p ∧ A
theorem BT_of {p A : Prop} (h : p) (h2 : A) : BT p A := ⟨h, h2⟩
/-- behind a statement -/
def K (A : DSt → Prop) (Q : PQ Flow) : PQ Flow := fun f σ => match f with
  | .nx => A σ
  | f => Q f σ
/-- a value kept -/
def U (Q : PQ D) : PQ RV := fun r σ => match use r σ with
  | some (d, σ1) => Q d σ1
  | none => False
def P1 (r : RV) (σ : DSt) (k : D → Prop) : Prop := LF (peek r σ) k
/-- a slot that is not borrowed -/
def Fre (s : Sl) : Prop := ∀ o, s ≠ .bo o
def takeS : Nat → Ss → Ss
  | 0, _ => .nil
  | _ + 1, .nil => .nil
  | n + 1, .cons s r => .cons s (takeS n r)
def dropS : Nat → Ss → Ss
  | 0, b => b
  | _ + 1, .nil => .nil
  | n + 1, .cons _ r => dropS n r
def forBody : S → Ss
  | .for_ _ _ b => b
  | .whl _ b => b
  | _ => .nil
def nthS : Nat → Ss → S
  | 0, .cons s _ => s
  | n + 1, .cons _ r => nthS n r
  | _, .nil => .pass
section
variable {α β : Type} {G : Gam} {X : PX} {σ : DSt}
theorem Fre.un : Fre .un := fun _ h => nomatch h
theorem Fre.sh {d : D} : Fre (.sh d) := fun _ h => nomatch h
theorem Fre.ow {o : Ob} : Fre (.ow o) := fun _ h => nomatch h
theorem LF_some {a : α} {k : α → Prop} (h : k a) : LF (some a) k := ⟨h⟩
theorem LF_eq {o : Option α} {a : α} {k : α → Prop} (e : o = some a) (h : k a) : LF o k := e ▸ ⟨h⟩
theorem W_ok {a : α} {Q : PQ α} (h : Q a σ) : W (.ok a σ) Q X := ⟨h⟩
theorem W_eq {x : Out α} {a : α} {σ' : DSt} {Q : PQ α} (e : x = .ok a σ') (h : Q a σ') : W x Q X := e ▸ ⟨h⟩
theorem W_bind {x : Out α} {f : α → DSt → Out β} {Q : PQ β} (h : W x (fun a s => W (f a s) Q X) X) : W (x.bind f) Q X := by
  cases x
  · exact h.go
  · exact ⟨h.go⟩
  · exact ⟨h.go⟩
theorem W_mono {x : Out α} {Q Q' : PQ α} {X X' : PX} (h : W x Q X) (q : ∀ a s, Q a s → Q' a s) (q2 : ∀ a s, X a s → X' a s) : W x Q' X' := by
  cases x
  · exact ⟨q _ _ h.go⟩
  · exact ⟨q2 _ _ h.go⟩
  · exact ⟨h.go⟩
theorem W_lift {o : Option α} {Q : PQ α} (h : LF o fun a => Q a σ) : W (Out.lift σ o) Q X := by
  cases o <;> exact ⟨h.go⟩
theorem WF_mono {x : Fout} {Q Q' : FQ} {X X' : FX} (h : WF x Q X) (q : ∀ a s, Q a s → Q' a s) (q2 : ∀ a s, X a s → X' a s) : WF x Q' X' := by
  cases x
  · exact ⟨q _ _ h.go⟩
  · exact ⟨q2 _ _ h.go⟩
  · exact ⟨h.go⟩
theorem WF_mono0 {x : Fout} {Q Q' : FQ} {X' : FX} (h : WF x Q noF) (q : ∀ a s, Q a s → Q' a s) : WF x Q' X' := WF_mono h q fun _ _ z => z.elim
theorem WF_eq {x : Fout} {r : FR} {m : Option Ob} {Q : FQ} {X : FX} (e : x = .ok r m) (h : Q r m) : WF x Q X := e ▸ ⟨h⟩
theorem WF_exc {x : Fout} {r : Exc} {m : Option Ob} {Q : FQ} {X : FX} (e : x = .exc r m) (h : X r m) : WF x Q X := e ▸ ⟨h⟩
theorem WF_of {x : Fout} {r : FR} {m : Option Ob} (h : WF x (fun r' m' => r' = r ∧ m' = m) noF) : x = .ok r m := by
  cases x
  · obtain ⟨rfl, rfl⟩ := h.go; rfl
  · exact h.go.elim
  · exact h.go.elim
theorem WF_to {x : Fout} {Q : FQ} (h : WF x Q noF) : ∃ r m, x = .ok r m ∧ Q r m := by
  cases x
  · exact ⟨_, _, rfl, h.go⟩
  · exact h.go.elim
  · exact h.go.elim
theorem P1_val {d : D} {k : D → Prop} (h : k d) : P1 (.val d) σ k := ⟨h⟩
theorem P1_fr {o : Ob} {k : D → Prop} (h : k (frz o)) : P1 (.fr o) σ k := ⟨h⟩
theorem P1_eq {r : RV} {d : D} {k : D → Prop} (e : peek r σ = some d) (h : k d) : P1 r σ k := LF_eq e h
theorem W_peek1 {r : RV} {k : D → Out β} {Q : PQ β} (h : P1 r σ fun x => W (k x) Q X) : W (peek1 r σ k) Q X := by
  unfold peek1
  unfold P1 at h
  cases e : peek r σ with
  | none => rw [e] at h; exact h.go.elim
  | some d => rw [e] at h; exact h.go
theorem W_peek2 {r q : RV} {k : D → D → Out β} {Q : PQ β} (h : P1 r σ fun x => P1 q σ fun y => W (k x y) Q X) : W (peek2 r q σ k) Q X := by
  unfold peek2
  unfold P1 at h
  cases e : peek r σ with
  | none => rw [e] at h; exact h.go.elim
  | some d =>
    rw [e] at h
    have h := h.go
    cases e2 : peek q σ with
    | none => simp only [e2] at h; exact h.go.elim
    | some d2 => simp only [e2] at h; exact h.go
theorem W_truth {x : Out RV} {Q : PQ Bool} (h : W x (T (fun σ => Q true σ) (fun σ => Q false σ)) X) : W (truth x) Q X := by
  cases x with
  | stuck => (first | exact h | exact ⟨h⟩ | exact ⟨h.go⟩ | exact h.go | exact h.elim | exact h.go.elim)
  | exc e s => (first | exact h | exact ⟨h⟩ | exact ⟨h.go⟩ | exact h.go | exact h.elim | exact h.go.elim)
  | ok r s =>
    cases r with
    | fr o => (first | exact h | exact ⟨h⟩ | exact ⟨h.go⟩ | exact h.go | exact h.elim | exact h.go.elim)
    | bor i => (first | exact h | exact ⟨h⟩ | exact ⟨h.go⟩ | exact h.go | exact h.elim | exact h.go.elim)
    | val d =>
      cases d with
      | bl b => cases b; exact ⟨h.go.2 rfl⟩; exact ⟨h.go.1 rfl⟩
      | _ => (first | exact h | exact ⟨h⟩ | exact ⟨h.go⟩ | exact h.go | exact h.elim | exact h.go.elim)
theorem W_used {x : Out RV} {Q : PQ D} (h : W x (U Q) X) : W x.used Q X := by
  cases x with
  | stuck => (first | exact h | exact ⟨h⟩ | exact ⟨h.go⟩ | exact h.go | exact h.elim | exact h.go.elim)
  | exc e s => (first | exact h | exact ⟨h⟩ | exact ⟨h.go⟩ | exact h.go | exact h.elim | exact h.go.elim)
  | ok r s =>
    show W (match use r s with | some (d, s') => Out.ok d s' | none => .stuck) Q X
    have h : U Q r s := h.go
    unfold U at h
    cases e : use r s with
    | none => rw [e] at h; (first | exact h | exact ⟨h⟩ | exact ⟨h.go⟩ | exact h.go | exact h.elim | exact h.go.elim)
    | some p => rw [e] at h; (first | exact h | exact ⟨h⟩ | exact ⟨h.go⟩ | exact h.go | exact h.elim | exact h.go.elim)
theorem U_val {d : D} {Q : PQ D} (h : Q d σ) : U Q (.val d) σ := h
theorem U_fr {o : Ob} {Q : PQ D} (h : Q (frz o) σ) : U Q (.fr o) σ := h
theorem U_eq {r : RV} {d : D} {σ' : DSt} {Q : PQ D} (e : use r σ = some (d, σ')) (h : Q d σ') : U Q r σ := by
  unfold U; rw [e]; (first | exact h | exact ⟨h⟩ | exact ⟨h.go⟩ | exact h.go | exact h.elim | exact h.go.elim)
theorem T_mono {A B A' B' : DSt → Prop} {r : RV} (h : T A B r σ) (ha : ∀ s, A s → A' s) (hb : ∀ s, B s → B' s) : T A' B' r σ := by
  cases r with
  | fr o => exact h
  | bor i => exact h
  | val d =>
    cases d with
    | bl b => exact ⟨fun z => ha _ (h.1 z), fun z => hb _ (h.2 z)⟩
    | _ => exact h
theorem T_true {A B : DSt → Prop} (h : A σ) : T A B (.val (.bl true)) σ := ⟨fun _ => h, fun z => nomatch z⟩
theorem T_false {A B : DSt → Prop} (h : B σ) : T A B (.val (.bl false)) σ := ⟨fun z => (nomatch z), fun _ => h⟩
theorem T_dec {p : Prop} [Decidable p] {A B : DSt → Prop} (h : p → A σ) (h2 : ¬ p → B σ) : T A B (.val (.bl (decide p))) σ := ⟨fun z => h (of_decide_eq_true z), fun z => h2 (of_decide_eq_false z)⟩
theorem T_gen {b : Bool} {A B : DSt → Prop} (h : b = true → A σ) (h2 : b = false → B σ) : T A B (.val (.bl b)) σ := ⟨h, h2⟩
theorem T_not {b : Bool} {A B : DSt → Prop} (h : T B A (.val (.bl b)) σ) : T A B (.val (.bl (!b))) σ := by
  cases b
  · exact T_true (h.2 rfl)
  · exact T_false (h.1 rfl)
theorem T_and {a b : Bool} {A B : DSt → Prop} (h : a = true → b = true → A σ) (h2 : (a && b) = false → B σ) : T A B (.val (.bl (a && b))) σ := by
  cases a <;> cases b
  · exact T_false (h2 rfl)
  · exact T_false (h2 rfl)
  · exact T_false (h2 rfl)
  · exact T_true (h rfl rfl)
theorem T_is {A B : DSt → Prop} {b c : Bool} (e : b = c) (h : T A B (.val (.bl c)) σ) : T A B (.val (.bl b)) σ := e ▸ h
/-! expressions -/
variable {Q : PQ RV}
theorem W_om (h : Q (.val .non) σ) : W (ev G .om σ) Q X := ⟨h⟩
theorem W_v {i : Nat} {d : D} (e : σ[i]? = some (.sh d)) (h : Q (.val d) σ) : W (ev G (.v i) σ) Q X := by
  show W (match σ[i]? with | some (.sh d) => .ok (.val d) σ | some (.ow _) => .ok (.bor i) σ | some (.bo _) => .ok (.bor i) σ | _ => .stuck) Q X
  rw [e]; (first | exact h | exact ⟨h⟩ | exact ⟨h.go⟩ | exact h.go | exact h.elim | exact h.go.elim)
theorem W_vo {i : Nat} {d : Ob} (e : σ[i]? = some (.ow d)) (h : Q (.bor i) σ) : W (ev G (.v i) σ) Q X := by
  show W (match σ[i]? with | some (.sh d) => .ok (.val d) σ | some (.ow _) => .ok (.bor i) σ | some (.bo _) => .ok (.bor i) σ | _ => .stuck) Q X
  rw [e]; (first | exact h | exact ⟨h⟩ | exact ⟨h.go⟩ | exact h.go | exact h.elim | exact h.go.elim)
theorem W_vb {i : Nat} {d : Ob} (e : σ[i]? = some (.bo d)) (h : Q (.bor i) σ) : W (ev G (.v i) σ) Q X := by
  show W (match σ[i]? with | some (.sh d) => .ok (.val d) σ | some (.ow _) => .ok (.bor i) σ | some (.bo _) => .ok (.bor i) σ | _ => .stuck) Q X
  rw [e]; (first | exact h | exact ⟨h⟩ | exact ⟨h.go⟩ | exact h.go | exact h.elim | exact h.go.elim)
theorem W_k {d : D} (h : Q (.val d) σ) : W (ev G (.k d) σ) Q X := ⟨h⟩
theorem W_glb {i : Nat} {d : D} (e : G.glob i = some d) (h : Q (.val d) σ) : W (ev G (.glb i) σ) Q X := by
  show W (match G.glob i with | some d => .ok (.val d) σ | none => .stuck) Q X
  rw [e]; (first | exact h | exact ⟨h⟩ | exact ⟨h.go⟩ | exact h.go | exact h.elim | exact h.go.elim)
theorem W_bin {o : Bop} {a b : E} (h : W (ev G a σ) (fun r σ1 => W (ev G b σ1) (fun q σ2 => P1 r σ2 fun x => P1 q σ2 fun y => LF (binD o x y) fun z => Q z σ2) X) X) : W (ev G (.bin o a b) σ) Q X :=
  W_bind (W_mono h (fun _ _ h => W_bind (W_mono h (fun _ _ h => W_peek2 (by
    unfold P1 at h ⊢
    refine LF_mono2 h fun _ h => LF_mono2 h fun _ h => W_lift h)) fun _ _ z => z)) fun _ _ z => z)
where
  LF_mono2 {α : Type} {o : Option α} {k k' : α → Prop} (h : LF o k) (f : ∀ a, k a → k' a) : LF o k' := by
    cases o
    · exact h.go.elim
    · exact ⟨f _ h.go⟩
theorem LF_mono {o : Option α} {k k' : α → Prop} (h : LF o k) (f : ∀ a, k a → k' a) : LF o k' := by
  cases o
  · exact h.go.elim
  · exact ⟨f _ h.go⟩
theorem LF_map {o : Option α} {f : α → β} {k : β → Prop} (h : LF o fun a => k (f a)) : LF (o.map f) k := by
  cases o <;> (first | exact h | exact ⟨h⟩ | exact ⟨h.go⟩ | exact h.go | exact h.elim | exact h.go.elim)
theorem P1_mono {r : RV} {k k' : D → Prop} (h : P1 r σ k) (f : ∀ a, k a → k' a) : P1 r σ k' := LF_mono h f
theorem W_neg {a : E} (h : W (ev G a σ) (fun r σ1 => P1 r σ1 fun x => LF (negD x) fun z => Q (.val z) σ1) X) : W (ev G (.neg a) σ) Q X :=
  W_bind (W_mono h (fun _ _ h => W_peek1 (P1_mono h fun _ h => W_lift (LF_map h))) fun _ _ z => z)
theorem W_nt {a : E} (h : W (ev G a σ) (T (fun σ1 => Q (.val (.bl false)) σ1) (fun σ1 => Q (.val (.bl true)) σ1)) X) : W (ev G (.nt a) σ) Q X :=
  W_bind (W_truth (W_mono h (fun _ _ h => T_mono h (fun _ h => ⟨h⟩) (fun _ h => ⟨h⟩)) fun _ _ z => z))
theorem W_cmp {o : Cop} {a b : E} (h : W (ev G a σ) (fun r σ1 => W (ev G b σ1) (fun q σ2 => P1 r σ2 fun x => P1 q σ2 fun y => LF (cmpD o x y) fun z => Q (.val (.bl z)) σ2) X) X) : W (ev G (.cmp o a b) σ) Q X :=
  W_bind (W_mono h (fun _ _ h => W_bind (W_mono h (fun _ _ h => W_peek2 (P1_mono h fun _ h => P1_mono h fun _ h => W_lift (LF_map h))) fun _ _ z => z)) fun _ _ z => z)
/-- of a truth value -/
def TB (A B : Prop) (b : Bool) : Prop := (b = true → A) ∧ (b = false → B)
theorem W_chn {o p : Cop} {a b c : E} (h : W (ev G a σ) (fun r σ1 => W (ev G b σ1) (fun q σ2 => P1 r σ2 fun x => P1 q σ2 fun y => LF (cmpD o x y) fun t =>
    TB (W (ev G c σ2) (fun w σ3 => P1 q σ3 fun y => P1 w σ3 fun z => LF (cmpD p y z) fun b => Q (.val (.bl b)) σ3) X) (Q (.val (.bl false)) σ2) t) X) X) : W (ev G (.chn o p a b c) σ) Q X :=
  W_bind (W_mono h (fun _ _ h => W_bind (W_mono h (fun _ _ h => W_peek2 (P1_mono h fun _ h => P1_mono h fun _ h => W_bind (W_lift (LF_mono h fun t h => by
    cases t
    · exact ⟨h.2 rfl⟩
    · exact W_bind (W_mono (h.1 rfl) (fun _ _ h => W_peek2 (P1_mono h fun _ h => P1_mono h fun _ h => W_lift (LF_map h))) fun _ _ z => z))))) fun _ _ z => z)) fun _ _ z => z)
theorem W_isn {n : Bool} {a : E} (h : W (ev G a σ) (fun r σ1 => P1 r σ1 fun x => Q (.val (.bl (cond n (isNon x) (!isNon x)))) σ1) X) : W (ev G (.isn n a) σ) Q X :=
  W_bind (W_mono h (fun _ _ h => W_peek1 (P1_mono h fun _ h => ⟨h⟩)) fun _ _ z => z)
theorem W_isb {n b : Bool} {a : E} (h : W (ev G a σ) (T (fun σ1 => Q (.val (.bl (b == n))) σ1) (fun σ1 => Q (.val (.bl ((!b) == n))) σ1)) X) : W (ev G (.isb n a b) σ) Q X :=
  W_bind (W_truth (W_mono h (fun r σ h => by
    cases r with
    | fr o => (first | exact h | exact ⟨h⟩ | exact ⟨h.go⟩ | exact h.go | exact h.elim | exact h.go.elim)
    | bor i => (first | exact h | exact ⟨h⟩ | exact ⟨h.go⟩ | exact h.go | exact h.elim | exact h.go.elim)
    | val d =>
      cases d with
      | bl c => cases c <;> cases b <;> exact ⟨fun z => ⟨h.1 z⟩, fun z => ⟨h.2 z⟩⟩
      | _ => exact h) fun _ _ z => z))
theorem T_bind {A B : DSt → Prop} {k : Bool → DSt → Out β} {Q : PQ β} {r : RV} (h : T A B r σ) (ha : ∀ s, A s → W (k true s) Q X) (hb : ∀ s, B s → W (k false s) Q X) : T (fun σ => W (k true σ) Q X) (fun σ => W (k false σ) Q X) r σ := by
  cases r with
  | fr o => (first | exact h | exact ⟨h⟩ | exact ⟨h.go⟩ | exact h.go | exact h.elim | exact h.go.elim)
  | bor i => (first | exact h | exact ⟨h⟩ | exact ⟨h.go⟩ | exact h.go | exact h.elim | exact h.go.elim)
  | val d =>
    cases d with
    | bl b => exact ⟨fun z => ha _ (h.1 z), fun z => hb _ (h.2 z)⟩
    | _ => (first | exact h | exact ⟨h⟩ | exact ⟨h.go⟩ | exact h.go | exact h.elim | exact h.go.elim)
theorem W_tbind {x : Out RV} {A B : DSt → Prop} {k : Bool → DSt → Out β} {Q : PQ β} (h : W x (T A B) X) (ha : ∀ s, A s → W (k true s) Q X) (hb : ∀ s, B s → W (k false s) Q X) : W ((truth x).bind k) Q X :=
  W_bind (W_truth (W_mono h (fun _ _ h => T_bind h ha hb) fun _ _ z => z))
theorem W_and {a b : E} (h : W (ev G a σ) (T (fun σ1 => W (ev G b σ1) Q X) (fun σ1 => Q (.val (.bl false)) σ1)) X) : W (ev G (.and a b) σ) Q X := W_tbind h (fun _ h => h) (fun _ h => ⟨h⟩)
theorem W_or {a b : E} (h : W (ev G a σ) (T (fun σ1 => Q (.val (.bl true)) σ1) (fun σ1 => W (ev G b σ1) Q X)) X) : W (ev G (.or a b) σ) Q X := W_tbind h (fun _ h => ⟨h⟩) (fun _ h => h)
theorem W_ite {c a b : E} (h : W (ev G c σ) (T (fun σ1 => W (ev G a σ1) Q X) (fun σ1 => W (ev G b σ1) Q X)) X) : W (ev G (.ite c a b) σ) Q X := W_tbind h (fun _ h => h) (fun _ h => h)
theorem W_tup {es : Es} (h : W (evs G es σ) (fun ds σ1 => BT (ds.length ≤ sizeLine) (Q (.val (.tup ds)) σ1)) X) : W (ev G (.tup es) σ) Q X :=
  W_bind (W_mono h (fun ds _ h => by show W (if ds.length ≤ sizeLine then _ else _) _ _; rw [if_pos h.1]; exact ⟨h.2⟩) fun _ _ z => z)
theorem W_lst {es : Es} (h : W (evs G es σ) (fun ds σ1 => BT (ds.length ≤ sizeLine) (Q (.fr (.l ds)) σ1)) X) : W (ev G (.lst es) σ) Q X :=
  W_bind (W_mono h (fun ds _ h => by show W (if ds.length ≤ sizeLine then _ else _) _ _; rw [if_pos h.1]; exact ⟨h.2⟩) fun _ _ z => z)
theorem W_sub {a i : E} (h : W (ev G a σ) (fun r σ1 => W (ev G i σ1) (fun q σ2 => P1 r σ2 fun x => P1 q σ2 fun y => LF (subD x y) fun z => Q (.val z) σ2) X) X) : W (ev G (.sub a i) σ) Q X :=
  W_bind (W_mono h (fun _ _ h => W_bind (W_mono h (fun _ _ h => W_peek2 (P1_mono h fun _ h => P1_mono h fun _ h => W_lift (LF_map h))) fun _ _ z => z)) fun _ _ z => z)
/-- a slice's part -/
def PT (om : Bool) (Q : PQ (Option Int)) : PQ RV := fun r σ => match om, r with
  | true, _ => Q none σ
  | false, .val (.int i) => Q (some i) σ
  | _, _ => False
theorem W_part {om : Bool} {x : Out RV} {Q : PQ (Option Int)} (h : W x (PT om Q) X) : W (part om x) Q X := by
  cases om <;> cases x with
  | stuck => (first | exact h | exact ⟨h⟩ | exact ⟨h.go⟩ | exact h.go | exact h.elim | exact h.go.elim)
  | exc e s => (first | exact h | exact ⟨h⟩ | exact ⟨h.go⟩ | exact h.go | exact h.elim | exact h.go.elim)
  | ok r s => cases r with
    | fr o => (first | exact h | exact ⟨h⟩ | exact ⟨h.go⟩ | exact h.go | exact h.elim | exact h.go.elim)
    | bor i => (first | exact h | exact ⟨h⟩ | exact ⟨h.go⟩ | exact h.go | exact h.elim | exact h.go.elim)
    | val d => cases d <;> (first | exact h | exact ⟨h⟩ | exact ⟨h.go⟩ | exact h.go | exact h.elim | exact h.go.elim)
theorem PT_om {om : Bool} {Q : PQ (Option Int)} {r : RV} (e : om = true) (h : Q none σ) : PT om Q r σ := e ▸ h
theorem PT_int {om : Bool} {Q : PQ (Option Int)} {i : Int} (e : om = false) (h : Q (some i) σ) : PT om Q (.val (.int i)) σ := e ▸ h
theorem W_slc {a lo hi : E} (h : W (ev G a σ) (fun r σ1 => W (ev G lo σ1) (PT (isOm lo) fun l σ2 => W (ev G hi σ2) (PT (isOm hi) fun h σ3 => P1 r σ3 fun x => LF (slcD x l h) fun z => Q z σ3) X) X) X) : W (ev G (.slc a lo hi) σ) Q X :=
  W_bind (W_mono h (fun r _ h => W_bind (W_part (W_mono h (fun q _ h => PT_mono h fun l σ2 h => W_bind (W_part (W_mono h (fun q _ h => PT_mono h fun l2 σ3 h => W_peek1 (P1_mono h fun _ h => W_lift h)) fun _ _ z => z))) fun _ _ z => z))) fun _ _ z => z)
where
  PT_mono {om : Bool} {Q Q' : PQ (Option Int)} {r : RV} {σ : DSt} (h : PT om Q r σ) (f : ∀ l s, Q l s → Q' l s) : PT om Q' r σ := by
    cases om
    · cases r with
      | fr o => (first | exact h | exact ⟨h⟩ | exact ⟨h.go⟩ | exact h.go | exact h.elim | exact h.go.elim)
      | bor i => (first | exact h | exact ⟨h⟩ | exact ⟨h.go⟩ | exact h.go | exact h.elim | exact h.go.elim)
      | val d => cases d <;> first | exact f _ _ h | exact h
    · exact f _ _ h
theorem W_rev {a : E} (h : W (ev G a σ) (fun r σ1 => P1 r σ1 fun x => LF (revD x) fun z => Q z σ1) X) : W (ev G (.rev a) σ) Q X :=
  W_bind (W_mono h (fun _ _ h => W_peek1 (P1_mono h fun _ h => W_lift h)) fun _ _ z => z)
theorem W_rl {l : Bool} {it : It} (h : W (evi G it σ) (fun xs σ1 => BT (xs.length ≤ sizeLine) (Q (if l then .fr (.l xs) else .val (.tup xs)) σ1)) X) : W (ev G (.rl l it) σ) Q X :=
  W_bind (W_mono h (fun xs _ h => by
    show W (if xs.length ≤ sizeLine then _ else _) _ _
    rw [if_pos h.1]
    cases l <;> exact ⟨h.2⟩) fun _ _ z => z)
theorem W_rlT {it : It} (h : W (evi G it σ) (fun xs σ1 => BT (xs.length ≤ sizeLine) (Q (.fr (.l xs)) σ1)) X) : W (ev G (.rl true it) σ) Q X := W_rl h
theorem W_rlF {it : It} (h : W (evi G it σ) (fun xs σ1 => BT (xs.length ≤ sizeLine) (Q (.val (.tup xs)) σ1)) X) : W (ev G (.rl false it) σ) Q X := W_rl h
theorem W_isi {a : E} {ts : List Ty} (h : W (ev G a σ) (fun r σ1 => P1 r σ1 fun x => LF (kdOf x) fun k => Q (.val (.bl (ts.any (kdTy k)))) σ1) X) : W (ev G (.isi a ts) σ) Q X :=
  W_bind (W_mono h (fun _ _ h => W_peek1 (P1_mono h fun _ h => W_lift (LF_map h))) fun _ _ z => z)
theorem W_b1 {f : B1} {a : E} (h : W (ev G a σ) (fun r σ1 => P1 r σ1 fun x => LF (b1D f x) fun z => Q z σ1) X) : W (ev G (.b1 f a) σ) Q X :=
  W_bind (W_mono h (fun _ _ h => W_peek1 (P1_mono h fun _ h => W_lift h)) fun _ _ z => z)
theorem W_b2 {f : B2} {a b : E} (h : W (ev G a σ) (fun r σ1 => W (ev G b σ1) (fun q σ2 => P1 r σ2 fun x => P1 q σ2 fun y => LF (b2D f x y) fun z => Q z σ2) X) X) : W (ev G (.b2 f a b) σ) Q X :=
  W_bind (W_mono h (fun _ _ h => W_bind (W_mono h (fun _ _ h => W_peek2 (P1_mono h fun _ h => P1_mono h fun _ h => W_lift h)) fun _ _ z => z)) fun _ _ z => z)
theorem W_m1 {m : M1} {o a : E} (h : W (ev G o σ) (fun r σ1 => P1 r σ1 fun z => BT (m1K m z = true) (W (ev G a σ1) (fun q σ2 => P1 r σ2 fun x => P1 q σ2 fun y => LF (m1D m x y) fun z => Q z σ2) X)) X) : W (ev G (.m1 m o a) σ) Q X :=
  W_bind (W_mono h (fun _ _ h => W_peek1 (P1_mono h fun z h => by
    show W (if m1K m z then _ else _) _ _
    rw [if_pos h.1]
    exact W_bind (W_mono h.2 (fun _ _ h => W_peek2 (P1_mono h fun _ h => P1_mono h fun _ h => W_lift h)) fun _ _ z => z))) fun _ _ z => z)
/-- behind a call; behind one that changed the object of slot i -/
def CN (Q : PQ RV) (σ : DSt) : FQ := fun r m => match m, r with
  | none, .val d => Q (.val d) σ
  | none, .fr o => Q (.fr o) σ
  | _, _ => False
def CNX (X : PX) (σ : DSt) : FX := fun x m => match m with
  | none => X x σ
  | _ => False
def CM (Q : PQ RV) (σ : DSt) (i : Nat) : FQ := fun r m => match m, r with
  | some o, .val d => Q (.val d) (putOb σ i o)
  | some o, .fr d => Q (.fr d) (putOb σ i o)
  | _, _ => False
def CMX (X : PX) (σ : DSt) (i : Nat) : FX := fun x m => match m with
  | some o => X x (putOb σ i o)
  | _ => False
theorem CN_val {d : D} (h : Q (.val d) σ) : CN Q σ (.val d) none := h
theorem CN_fr {o : Ob} (h : Q (.fr o) σ) : CN Q σ (.fr o) none := h
theorem CNX_of {x : Exc} (h : X x σ) : CNX X σ x none := h
theorem CM_val0 {d : D} {o o' : Ob} (h : Q (.val d) (.bo o' :: σ)) : CM Q (.bo o :: σ) 0 (.val d) (some o') := h
theorem CM_val0o {d : D} {o o' : Ob} (h : Q (.val d) (.ow o' :: σ)) : CM Q (.ow o :: σ) 0 (.val d) (some o') := h
theorem CM_val1o {d : D} {s : Sl} {o o' : Ob} (h : Q (.val d) (s :: .ow o' :: σ)) : CM Q (s :: .ow o :: σ) 1 (.val d) (some o') := h
theorem CM_fr0 {d o o' : Ob} (h : Q (.fr d) (.bo o' :: σ)) : CM Q (.bo o :: σ) 0 (.fr d) (some o') := h
theorem CM_fr0o {d o o' : Ob} (h : Q (.fr d) (.ow o' :: σ)) : CM Q (.ow o :: σ) 0 (.fr d) (some o') := h
theorem CM_fr1o {d : Ob} {s : Sl} {o o' : Ob} (h : Q (.fr d) (s :: .ow o' :: σ)) : CM Q (s :: .ow o :: σ) 1 (.fr d) (some o') := h
theorem CMX_of {x : Exc} {i : Nat} {o : Ob} (h : X x (putOb σ i o)) : CMX X σ i x (some o) := h
theorem W_callN {x : Fout} (h : WF x (CN Q σ) (CNX X σ)) : W (callN σ x) Q X := by
  cases x with
  | ok r m => cases m <;> cases r <;> (first | exact h | exact ⟨h⟩ | exact ⟨h.go⟩ | exact h.go | exact h.elim | exact h.go.elim)
  | exc r m => cases m <;> (first | exact h | exact ⟨h⟩ | exact ⟨h.go⟩ | exact h.go | exact h.elim | exact h.go.elim)
  | stuck => (first | exact h | exact ⟨h⟩ | exact ⟨h.go⟩ | exact h.go | exact h.elim | exact h.go.elim)
theorem W_call {f : Nat} {es : Es} (h : W (evs G es σ) (fun ds σ1 => WF (G.fn f none ds) (CN Q σ1) (CNX X σ1)) X) : W (ev G (.call f es) σ) Q X :=
  W_bind (W_mono h (fun _ _ h => W_callN h) fun _ _ z => z)
theorem W_callv {f i : Nat} {fs : List Nat} {es : Es} (s : σ[i]? = some (.sh (.fn f))) (c : fs.contains f = true) (h : W (evs G es σ) (fun ds σ1 => WF (G.fn f none ds) (CN Q σ1) (CNX X σ1)) X) : W (ev G (.callv i fs es) σ) Q X := by
  show W (match σ[i]? with | some (.sh (.fn f)) => if fs.contains f then (evs G es σ).bind fun ds σ1 => callN σ1 (G.fn f none ds) else .stuck | _ => .stuck) Q X
  rw [s]
  simp only
  rw [if_pos c]
  exact W_bind (W_mono h (fun _ _ h => W_callN h) fun _ _ z => z)
theorem W_callm {f i : Nat} {es : Es} (s : (slotOb σ i).isSome = true) (h : W (evs G es σ) (fun ds σ1 => LF (slotOb σ1 i) fun o => WF (G.fn f (some o) ds) (CM Q σ1 i) (CMX X σ1 i)) X) : W (ev G (.callm f i es) σ) Q X := by
  show W (if (slotOb σ i).isSome then _ else _) _ _
  rw [if_pos s]
  refine W_bind (W_mono h (fun ds σ1 h => ?_) fun _ _ z => z)
  cases e : slotOb σ1 i with
  | none => rw [e] at h; (first | exact h | exact ⟨h⟩ | exact ⟨h.go⟩ | exact h.go | exact h.elim | exact h.go.elim)
  | some o =>
    rw [e] at h
    have h : WF (G.fn f (some o) ds) _ _ := h.go
    show W (callM σ1 i (G.fn f (some o) ds)) _ _
    cases e2 : G.fn f (some o) ds with
    | stuck => rw [e2] at h; (first | exact h | exact ⟨h⟩ | exact ⟨h.go⟩ | exact h.go | exact h.elim | exact h.go.elim)
    | ok r m => rw [e2] at h; cases m <;> cases r <;> (first | exact h | exact ⟨h⟩ | exact ⟨h.go⟩ | exact h.go | exact h.elim | exact h.go.elim)
    | exc r m => rw [e2] at h; cases m <;> (first | exact h | exact ⟨h⟩ | exact ⟨h.go⟩ | exact h.go | exact h.elim | exact h.go.elim)
theorem W_tld {f : Nat} {b : E} {t : Told} (e : G.told f = some t) (h : W (ev G b σ) (U fun d σ1 => Q (.val (t.okv d)) σ1) (fun x σ1 => LF (t.exv x) fun d => Q (.val d) σ1)) : W (ev G (.tld f b) σ) Q X := by
  show W (match G.told f with | some t => _ | none => .stuck) _ _
  rw [e]
  have h := W_used h
  simp only
  cases e2 : (ev G b σ).used with
  | stuck => rw [e2] at h; (first | exact h | exact ⟨h⟩ | exact ⟨h.go⟩ | exact h.go | exact h.elim | exact h.go.elim)
  | ok d s => rw [e2] at h; (first | exact h | exact ⟨h⟩ | exact ⟨h.go⟩ | exact h.go | exact h.elim | exact h.go.elim)
  | exc x s =>
    rw [e2] at h
    have h : LF (t.exv x) fun d => Q (.val d) s := h.go
    simp only
    cases e3 : t.exv x with
    | none => rw [e3] at h; (first | exact h | exact ⟨h⟩ | exact ⟨h.go⟩ | exact h.go | exact h.elim | exact h.go.elim)
    | some d => rw [e3] at h; (first | exact h | exact ⟨h⟩ | exact ⟨h.go⟩ | exact h.go | exact h.elim | exact h.go.elim)
theorem W_esnil {Q : PQ (List D)} (h : Q [] σ) : W (evs G .nil σ) Q X := ⟨h⟩
theorem W_escons {Q : PQ (List D)} {e : E} {es : Es} (h : W (ev G e σ) (U fun d σ1 => W (evs G es σ1) (fun ds σ2 => Q (d :: ds) σ2) X) X) : W (evs G (.cons e es) σ) Q X :=
  W_bind (W_used (W_mono h (fun r s h => by
    unfold U at h ⊢
    cases e : use r s with
    | none => rw [e] at h; (first | exact h | exact ⟨h⟩ | exact ⟨h.go⟩ | exact h.go | exact h.elim | exact h.go.elim)
    | some p => rw [e] at h; exact W_bind (W_mono h (fun _ _ h => ⟨h⟩) fun _ _ z => z)) fun _ _ z => z))
/-! instances -/
theorem W_att {o : E} {f : Nat} (h : W (ev G o σ) (fun r σ1 => P1 r σ1 fun x => LF (attD (fun c => (G.initOf c).isSome) x f) fun z => Q (.val z) σ1) X) : W (ev G (.att o f) σ) Q X :=
  W_bind (W_mono h (fun _ _ h => W_peek1 (P1_mono h fun _ h => W_lift (LF_map h))) fun _ _ z => z)
theorem LF_att {ok : Nat → Bool} {c f : Nat} {fs : List (Nat × D)} {d : D} {k : D → Prop} (h : ok c = true) (e : fs.lookup f = some d) (q : k d) : LF (attD ok (.obj c fs) f) k := by
  show LF (if ok c then fs.lookup f else none) k
  rw [if_pos h, e]; exact ⟨q⟩
theorem W_mk {c : Nat} {es : Es} {f : Nat} (e : G.initOf c = some f) (h : W (evs G es σ) (fun ds σ1 => WF (G.fn f (some (.i c [])) ds) (fun r m => r = .val .non ∧ ∃ fs, m = some (.i c fs) ∧ Q (.fr (.i c fs)) σ1) noF) X) : W (ev G (.mk c es) σ) Q X := by
  refine W_bind (W_mono h (fun ds σ1 h => ?_) fun _ _ z => z)
  show W (match G.initOf c with
    | some f => (match G.fn f (some (.i c [])) ds with
      | .ok (.val .non) (some (.i c' fs)) => if c' = c then Out.ok (RV.fr (.i c fs)) σ1 else .stuck
      | _ => .stuck)
    | none => .stuck) _ _
  rw [e]
  simp only
  cases e2 : G.fn f (some (.i c [])) ds with
  | stuck => rw [e2] at h; exact h.go.elim
  | ok r m =>
    rw [e2] at h
    obtain ⟨rfl, fs, rfl, q⟩ := h.go
    simp only
    rw [if_pos trivial]; exact ⟨q⟩
  | exc x m => rw [e2] at h; exact h.go.elim
/-! iterables -/
theorem U_mono {Q Q' : PQ D} {r : RV} (h : U Q r σ) (f : ∀ d s, Q d s → Q' d s) : U Q' r σ := by
  unfold U at h ⊢
  cases e : use r σ with
  | none => rw [e] at h; (first | exact h | exact ⟨h⟩ | exact ⟨h.go⟩ | exact h.go | exact h.elim | exact h.go.elim)
  | some p => rw [e] at h; exact f _ _ h
variable {Qi : PQ (List D)}
theorem W_seq {e : E} (h : W (ev G e σ) (U fun d σ1 => LF (itemsD d) fun xs => Qi xs σ1) X) : W (evi G (.seq e) σ) Qi X :=
  W_bind (W_used (W_mono h (fun _ _ h => U_mono h fun _ _ h => W_lift h) fun _ _ z => z))
theorem W_rng {a b c : E} (h : W (ev G a σ) (fun r σ1 => W (ev G b σ1) (fun q σ2 => W (ev G c σ2) (fun t σ3 => LF (rngO r q t) fun xs => Qi xs σ3) X) X) X) : W (evi G (.rng a b c) σ) Qi X :=
  W_bind (W_mono h (fun _ _ h => W_bind (W_mono h (fun _ _ h => W_bind (W_mono h (fun _ _ h => W_lift h) fun _ _ z => z)) fun _ _ z => z)) fun _ _ z => z)
theorem W_enum {e : E} (h : W (ev G e σ) (U fun d σ1 => LF (enumO d) fun xs => Qi xs σ1) X) : W (evi G (.enum e) σ) Qi X :=
  W_bind (W_used (W_mono h (fun _ _ h => U_mono h fun _ _ h => W_lift h) fun _ _ z => z))
theorem W_zip2 {a b : E} (h : W (ev G a σ) (U fun d σ1 => W (ev G b σ1) (U fun e σ2 => LF (zipO d e) fun xs => Qi xs σ2) X) X) : W (evi G (.zip2 a b) σ) Qi X :=
  W_bind (W_used (W_mono h (fun _ _ h => U_mono h fun _ _ h => W_bind (W_used (W_mono h (fun _ _ h => U_mono h fun _ _ h => W_lift h) fun _ _ z => z))) fun _ _ z => z))
theorem LF_rng {i j k : Int} {κ : List D → Prop} (h : inR i = true ∧ inR j = true ∧ 0 < k ∧ k < 1073741824) (q : κ (rangeD i j k)) : LF (rngO (.val (.int i)) (.val (.int j)) (.val (.int k))) κ := by
  unfold rngO
  simp [h]; exact ⟨q⟩
/-! statements -/
variable {Qs : PQ Flow}
theorem W_nil (h : Qs .nx σ) : W (exs G .nil σ) Qs X := ⟨h⟩
theorem W_cons {s : S} {r : Ss} (h : W (ex G s σ) (K (fun σ1 => W (exs G r σ1) Qs X) Qs) X) : W (exs G (.cons s r) σ) Qs X := by
  show W (seqS (ex G s σ) fun σ1 => exs G r σ1) Qs X
  cases e : ex G s σ with
  | stuck => rw [e] at h; (first | exact h | exact ⟨h⟩ | exact ⟨h.go⟩ | exact h.go | exact h.elim | exact h.go.elim)
  | exc x s => rw [e] at h; (first | exact h | exact ⟨h⟩ | exact ⟨h.go⟩ | exact h.go | exact h.elim | exact h.go.elim)
  | ok f s => rw [e] at h; cases f <;> (first | exact h | exact ⟨h⟩ | exact ⟨h.go⟩ | exact h.go | exact h.elim | exact h.go.elim)
/-- a middle: what stands between -/
theorem W_mid {s : S} {r : Ss} (M : DSt → Prop) (h : W (ex G s σ) (K M Qs) X) (h2 : ∀ s, M s → W (exs G r s) Qs X) : W (exs G (.cons s r) σ) Qs X :=
  W_cons (W_mono h (fun f s h => by cases f <;> first | exact h2 _ h | exact h) fun _ _ z => z)
/-- the first statements, then the rest -/
theorem W_cut (n : Nat) {b : Ss} (M : DSt → Prop) (h : W (exs G (takeS n b) σ) (K M Qs) X) (h2 : ∀ s, M s → W (exs G (dropS n b) s) Qs X) : W (exs G b σ) Qs X := by
  induction n generalizing b σ with
  | zero => exact h2 _ h.go
  | succ n ih =>
    cases b with
    | nil => exact h2 _ h.go
    | cons s r =>
      refine W_cons ?_
      have h : W (seqS (ex G s σ) fun σ1 => exs G (takeS n r) σ1) (K M Qs) X := h
      cases e : ex G s σ with
      | stuck => rw [e] at h; exact h.go.elim
      | exc x s => rw [e] at h; exact ⟨h.go⟩
      | ok f s =>
        rw [e] at h
        cases f with
        | nx => exact ⟨ih h h2⟩
        | rt r => exact ⟨h.go⟩
        | bk => exact ⟨h.go⟩
        | ct => exact ⟨h.go⟩
theorem K_nx {A : DSt → Prop} (h : A σ) : K A Qs .nx σ := h
theorem K_rt {A : DSt → Prop} {r : RV} (h : Qs (.rt r) σ) : K A Qs (.rt r) σ := h
theorem K_bk {A : DSt → Prop} (h : Qs .bk σ) : K A Qs .bk σ := h
theorem K_ct {A : DSt → Prop} (h : Qs .ct σ) : K A Qs .ct σ := h
def ST (o : Option DSt) (A : DSt → Prop) : Prop := LF o A
theorem W_storeS {o : Option DSt} (h : LF o fun σ => Qs .nx σ) : W (storeS o) Qs X := by
  cases o <;> (first | exact h | exact ⟨h⟩ | exact ⟨h.go⟩ | exact h.go | exact h.elim | exact h.go.elim)
theorem W_set {i : Nat} {e : E} (h : W (ev G e σ) (fun r σ1 => LF (store i r σ1) fun σ2 => Qs .nx σ2) X) : W (ex G (.set i e) σ) Qs X :=
  W_bind (W_mono h (fun _ _ h => W_storeS h) fun _ _ z => z)
theorem LF_store {i : Nat} {d : D} {s : Sl} {k : DSt → Prop} (e : σ[i]? = some s) (f : Fre s) (h : k (σ.set i (.sh d))) : LF (store i (.val d) σ) k := by
  unfold store
  simp only [use]
  rw [e]
  cases s with
  | bo o => exact absurd rfl (f o)
  | _ => (first | exact h | exact ⟨h⟩ | exact ⟨h.go⟩ | exact h.go | exact h.elim | exact h.go.elim)
theorem LF_storeO {i : Nat} {d : Ob} {s : Sl} {k : DSt → Prop} (e : σ[i]? = some s) (f : Fre s) (h : k (σ.set i (.ow d))) : LF (store i (.fr d) σ) k := by
  unfold store
  simp only
  rw [e]
  cases s with
  | bo o => exact absurd rfl (f o)
  | _ => (first | exact h | exact ⟨h⟩ | exact ⟨h.go⟩ | exact h.go | exact h.elim | exact h.go.elim)
theorem LF_storeB {i j : Nat} {d : D} {s : Sl} {σ1 : DSt} {k : DSt → Prop} (u : use (.bor j) σ = some (d, σ1)) (e : σ1[i]? = some s) (f : Fre s) (h : k (σ1.set i (.sh d))) : LF (store i (.bor j) σ) k := by
  unfold store
  simp only
  rw [u]
  simp only
  rw [e]
  cases s with
  | bo o => exact absurd rfl (f o)
  | _ => (first | exact h | exact ⟨h⟩ | exact ⟨h.go⟩ | exact h.go | exact h.elim | exact h.go.elim)
theorem W_unp {t : Tg} {e : E} (h : W (ev G e σ) (U fun d σ1 => LF (asg t d σ1) fun σ2 => Qs .nx σ2) X) : W (ex G (.unp t e) σ) Qs X :=
  W_bind (W_used (W_mono h (fun _ _ h => U_mono h fun _ _ h => W_storeS h) fun _ _ z => z))
theorem LF_asgn {i : Nat} {d : D} {k : DSt → Prop} (h : LF (store i (.val d) σ) k) : LF (asg (.n i) d σ) k := h
theorem LF_asgnil {k : DSt → Prop} (h : k σ) : LF (asg .nil (.tup []) σ) k := ⟨h⟩
theorem LF_asgcons {t r : Tg} {x : D} {xs : List D} {k : DSt → Prop} (h : LF (asg t x σ) fun σ1 => LF (asg r (.tup xs) σ1) k) : LF (asg (.cons t r) (.tup (x :: xs)) σ) k := by
  show LF (match asg t x σ with | some σ1 => asg r (.tup xs) σ1 | none => none) k
  cases e : asg t x σ with
  | none => rw [e] at h; (first | exact h | exact ⟨h⟩ | exact ⟨h.go⟩ | exact h.go | exact h.elim | exact h.go.elim)
  | some s => rw [e] at h; (first | exact h | exact ⟨h⟩ | exact ⟨h.go⟩ | exact h.go | exact h.elim | exact h.go.elim)
theorem W_par {is : List Nat} {es : Es} (h : W (evrs G es σ) (fun rs σ1 => LF (storeRs is rs σ1) fun σ2 => Qs .nx σ2) X) : W (ex G (.par is es) σ) Qs X :=
  W_bind (W_mono h (fun _ _ h => W_storeS h) fun _ _ z => z)
/-- a value kept whole -/
def UK (Q : PQ RV) : PQ RV := fun r σ => match r with
  | .fr o => Q (.fr o) σ
  | .val d => Q (.val d) σ
  | .bor i => match use (.bor i) σ with
    | some (d, σ1) => Q (.val d) σ1
    | none => False
theorem UK_val {d : D} {Q : PQ RV} (h : Q (.val d) σ) : UK Q (.val d) σ := h
theorem UK_fr {o : Ob} {Q : PQ RV} (h : Q (.fr o) σ) : UK Q (.fr o) σ := h
theorem UK_bor {i : Nat} {Q : PQ RV} (h : U (fun d s => Q (.val d) s) (.bor i) σ) : UK Q (.bor i) σ := h
theorem W_ernil {Q : PQ (List RV)} (h : Q [] σ) : W (evrs G .nil σ) Q X := ⟨h⟩
theorem W_ercons {Q : PQ (List RV)} {e : E} {es : Es} (h : W (ev G e σ) (UK fun r σ1 => W (evrs G es σ1) (fun rs σ2 => Q (r :: rs) σ2) X) X) : W (evrs G (.cons e es) σ) Q X := by
  show W ((keptF (ev G e σ)).bind fun r σ1 => (evrs G es σ1).bind fun rs σ2 => .ok (r :: rs) σ2) Q X
  refine W_bind ?_
  cases e2 : ev G e σ with
  | stuck => rw [e2] at h; exact ⟨h.go⟩
  | exc x s => rw [e2] at h; exact ⟨h.go⟩
  | ok r s =>
    rw [e2] at h
    have h := h.go
    cases r with
    | fr o => exact ⟨W_bind (W_mono h (fun _ _ h => ⟨h⟩) fun _ _ z => z)⟩
    | val d => exact ⟨W_bind (W_mono h (fun _ _ h => ⟨h⟩) fun _ _ z => z)⟩
    | bor i =>
      have h : (match use (.bor i) s with | some (d, σ1) => W (evrs G es σ1) (fun rs σ2 => Q (.val d :: rs) σ2) X | none => False) := h
      show W (match use (.bor i) s with | some (d, σ') => Out.ok (RV.val d) σ' | none => .stuck) _ X
      cases e3 : use (.bor i) s with
      | none => rw [e3] at h; exact h.elim
      | some p =>
        rw [e3] at h
        exact ⟨W_bind (W_mono h (fun _ _ h => ⟨h⟩) fun _ _ z => z)⟩
theorem LF_dsnil {k : DSt → Prop} (h : k σ) : LF (storeRs [] [] σ) k := ⟨h⟩
theorem LF_dscons {i : Nat} {is : List Nat} {d : RV} {ds : List RV} {k : DSt → Prop} (h : LF (store i d σ) fun σ1 => LF (storeRs is ds σ1) k) : LF (storeRs (i :: is) (d :: ds) σ) k := by
  show LF (match store i d σ with | some σ1 => storeRs is ds σ1 | none => none) k
  cases e : store i d σ with
  | none => rw [e] at h; exact h.go.elim
  | some s => rw [e] at h; exact h.go
theorem W_chS {i : Nat} {f : Ob → Option Ob} {o : Ob} (e : slotOb σ i = some o) (h : LF (f o) fun o' => Qs .nx (putOb σ i o')) : W (chS i f σ) Qs X := by
  unfold chS
  rw [e]
  simp only
  cases e : f o with
  | none => rw [e] at h; (first | exact h | exact ⟨h⟩ | exact ⟨h.go⟩ | exact h.go | exact h.elim | exact h.go.elim)
  | some s => rw [e] at h; (first | exact h | exact ⟨h⟩ | exact ⟨h.go⟩ | exact h.go | exact h.elim | exact h.go.elim)
theorem W_seti {i : Nat} {ix e : E} (h : W (ev G e σ) (U fun d σ1 => BT ((slotOb σ1 i).isSome = true) (W (ev G ix σ1) (U fun k σ2 => LF (slotOb σ2 i) fun o => LF (setOb o k d) fun o' => Qs .nx (putOb σ2 i o')) X)) X) : W (ex G (.seti i ix e) σ) Qs X :=
  W_bind (W_used (W_mono h (fun _ _ h => U_mono h fun d σ1 h => by
    show W (if (slotOb σ1 i).isSome then _ else _) _ _
    rw [if_pos h.1]
    exact W_bind (W_used (W_mono h.2 (fun _ _ h => U_mono h fun k σ2 h => by
      cases e : slotOb σ2 i with
      | none => rw [e] at h; exact h.go.elim
      | some s => rw [e] at h; exact W_chS e h.go) fun _ _ z => z))) fun _ _ z => z))
theorem W_setf {i f : Nat} {e : E} (h : W (ev G e σ) (U fun d σ1 => BT ((slotOb σ1 i).isSome = true) (LF (slotOb σ1 i) fun o => LF (setFOb (fun c => (G.initOf c).isSome) o f d) fun o' => Qs .nx (putOb σ1 i o'))) X) : W (ex G (.setf i f e) σ) Qs X :=
  W_bind (W_used (W_mono h (fun _ _ h => U_mono h fun d σ1 h => by
    show W (if (slotOb σ1 i).isSome then _ else _) _ _
    rw [if_pos h.1]
    have h := h.2
    cases e : slotOb σ1 i with
    | none => rw [e] at h; exact h.go.elim
    | some s => rw [e] at h; exact W_chS e h.go) fun _ _ z => z))
theorem LF_setf {ok : Nat → Bool} {c f : Nat} {fs : List (Nat × D)} {d : D} {k : Ob → Prop} (h : ok c = true) (hl : fs.length < 900) (q : k (.i c (putF f d fs))) : LF (setFOb ok (.i c fs) f d) k := by
  show LF (if ok c = true ∧ fs.length < 900 then _ else _) k
  rw [if_pos ⟨h, hl⟩]; exact ⟨q⟩
theorem W_mm {m : Mm} {i : Nat} {e : E} (l : isL (slotOb σ i) = true) (h : W (ev G e σ) (U fun d σ1 => LF (slotOb σ1 i) fun o => LF (mmOb m o d) fun o' => Qs .nx (putOb σ1 i o')) X) : W (ex G (.mm m i e) σ) Qs X := by
  show W (if isL (slotOb σ i) then _ else _) _ _
  rw [if_pos l]
  exact W_bind (W_used (W_mono h (fun _ _ h => U_mono h fun d σ2 h => by
      cases e : slotOb σ2 i with
      | none => rw [e] at h; exact h.go.elim
      | some s => rw [e] at h; exact W_chS e h.go) fun _ _ z => z))
theorem LF_setob {xs : List D} {v : D} {i : Int} {j : Nat} {k : Ob → Prop} (e : ixN xs.length i = some j) (h : k (.l (xs.set j v))) : LF (setOb (.l xs) (.int i) v) k := by
  show LF ((ixN xs.length i).map fun j => .l (xs.set j v)) k
  rw [e]; exact ⟨h⟩
theorem LF_append {xs : List D} {v : D} {k : Ob → Prop} (l : xs.length < sizeLine) (h : k (.l (xs ++ [v]))) : LF (mmOb .append (.l xs) v) k := by
  show LF (if xs.length < sizeLine then _ else _) k
  rw [if_pos l]; (first | exact h | exact ⟨h⟩ | exact ⟨h.go⟩ | exact h.go | exact h.elim | exact h.go.elim)
theorem LF_extend {xs ys : List D} {k : Ob → Prop} (l : xs.length + ys.length ≤ sizeLine) (h : k (.l (xs ++ ys))) : LF (mmOb .extend (.l xs) (.lst ys)) k := by
  show LF (if xs.length + ys.length ≤ sizeLine then _ else _) k
  rw [if_pos l]; (first | exact h | exact ⟨h⟩ | exact ⟨h.go⟩ | exact h.go | exact h.elim | exact h.go.elim)
theorem W_aug {i : Nat} {o : Bop} {e : E} {x : D} (e1 : σ[i]? = some (.sh x)) (h : W (ev G e σ) (U fun y σ1 => W (augS i o x y σ1) Qs X) X) : W (ex G (.aug i o e) σ) Qs X := by
  show W (match σ[i]? with | some (.sh x) => (ev G e σ).used.bind fun y σ1 => augS i o x y σ1 | _ => .stuck) _ _
  rw [e1]
  exact W_bind (W_used (W_mono h (fun _ _ h => h) fun _ _ z => z))
theorem W_ex {e : E} (h : W (ev G e σ) (fun _ σ1 => Qs .nx σ1) X) : W (ex G (.ex e) σ) Qs X := W_bind (W_mono h (fun _ _ h => ⟨h⟩) fun _ _ z => z)
theorem W_ret {e : E} (h : W (ev G e σ) (fun r σ1 => Qs (.rt r) σ1) X) : W (ex G (.ret e) σ) Qs X := W_bind (W_mono h (fun _ _ h => ⟨h⟩) fun _ _ z => z)
theorem W_retn (h : Qs (.rt (.val .non)) σ) : W (ex G .retn σ) Qs X := ⟨h⟩
theorem W_ife {c : E} {a b : Ss} (h : W (ev G c σ) (T (fun σ1 => W (exs G a σ1) Qs X) (fun σ1 => W (exs G b σ1) Qs X)) X) : W (ex G (.ife c a b) σ) Qs X := W_tbind h (fun _ h => h) (fun _ h => h)
theorem W_pass (h : Qs .nx σ) : W (ex G .pass σ) Qs X := ⟨h⟩
theorem W_brk (h : Qs .bk σ) : W (ex G .brk σ) Qs X := ⟨h⟩
theorem W_cont (h : Qs .ct σ) : W (ex G .cont σ) Qs X := ⟨h⟩
theorem W_rais {c : Nat} {es : Es} {fs : List Nat} (e : G.excF c = some fs) (h : W (evs G es σ) (fun ds σ1 => BT (fs.length = ds.length) (X ⟨c, []⟩ σ1)) X) : W (ex G (.rais c es) σ) Qs X := by
  refine W_bind (W_mono h (fun ds σ1 h => ?_) fun _ _ z => z)
  show W (raiS c ds σ1 (G.excF c)) Qs X
  rw [e]
  show W (if fs.length = ds.length then _ else _) _ _
  rw [if_pos h.1]; exact ⟨h.2⟩
/-! loops -/
/-- a loop's turns: I k is what holds behind k of the items -/
def LQ (I : DSt → Prop) (Q : PQ Flow) : PQ Flow := fun f σ => match f with
  | .nx => I σ
  | .ct => I σ
  | .bk => Q .nx σ
  | .rt r => Q (.rt r) σ
theorem forL_inv {f : D → DSt → Out Flow} (xs : List D) (I : Nat → DSt → Prop) {σ : DSt} (h0 : I 0 σ) (hs : ∀ k x σ, xs[k]? = some x → I k σ → W (f x σ) (LQ (I (k + 1)) Qs) X) (he : ∀ σ, I xs.length σ → Qs .nx σ) : W (forL f xs σ) Qs X := by
  induction xs generalizing I σ with
  | nil => exact ⟨he _ h0⟩
  | cons x xs ih =>
    have h1 := hs 0 x σ rfl h0
    unfold forL
    cases e : f x σ with
    | stuck => rw [e] at h1; exact h1.go.elim
    | exc x s => rw [e] at h1; exact ⟨h1.go⟩
    | ok fl s =>
      rw [e] at h1
      have h1 := h1.go
      cases fl with
      | nx => exact ih (fun k => I (k + 1)) h1 (fun k y τ hy hi => hs (k + 1) y τ hy hi) he
      | ct => exact ih (fun k => I (k + 1)) h1 (fun k y τ hy hi => hs (k + 1) y τ hy hi) he
      | bk => exact ⟨h1⟩
      | rt r => exact ⟨h1⟩
theorem W_for {t : Tg} {it : It} {b : Ss} (h : W (evi G it σ) (fun xs σ1 => W (forL (fun x τ => seqS (storeS (asg t x τ)) fun τ1 => exs G b τ1) xs σ1) Qs X) X) : W (ex G (.for_ t it b) σ) Qs X := W_bind h
/-- a loop by an invariant -/
theorem W_forI {t : Tg} {b : Ss} {xs : List D} (I : Nat → DSt → Prop) (h0 : I 0 σ) (hs : ∀ k x σ, xs[k]? = some x → I k σ → LF (asg t x σ) fun σ1 => W (exs G b σ1) (LQ (I (k + 1)) Qs) X) (he : ∀ σ, I xs.length σ → Qs .nx σ) : W (forL (fun x τ => seqS (storeS (asg t x τ)) fun τ1 => exs G b τ1) xs σ) Qs X :=
  forL_inv xs I h0 (fun k x σ hx hi => by
    have h := hs k x σ hx hi
    show W (seqS (storeS (asg t x σ)) fun τ1 => exs G b τ1) _ _
    cases e : asg t x σ with
    | none => rw [e] at h; (first | exact h | exact ⟨h⟩ | exact ⟨h.go⟩ | exact h.go | exact h.elim | exact h.go.elim)
    | some s => rw [e] at h; exact h.go) he
theorem LQ_nx {I : DSt → Prop} (h : I σ) : LQ I Qs .nx σ := h
theorem LQ_ct {I : DSt → Prop} (h : I σ) : LQ I Qs .ct σ := h
theorem LQ_bk {I : DSt → Prop} (h : Qs .nx σ) : LQ I Qs .bk σ := h
theorem LQ_rt {I : DSt → Prop} {r : RV} (h : Qs (.rt r) σ) : LQ I Qs (.rt r) σ := h
/-- a while loop: I with a measure -/
theorem whlL_inv {c : DSt → Out Bool} {f : DSt → Out Flow} (I : Nat → DSt → Prop) (hs : ∀ k σ, I k σ → W (c σ) (fun b σ1 => (b = true → W (f σ1) (LQ (fun σ2 => ∃ j, j < k ∧ I j σ2) Qs) X) ∧ (b = false → Qs .nx σ1)) X) : ∀ (n k : Nat) (σ : DSt), k < n → I k σ → W (whlL c f n σ) Qs X
  | 0, k, σ, hk, _ => absurd hk (by omega)
  | n + 1, k, σ, hk, hi => by
    have h := hs k σ hi
    unfold whlL
    cases e : c σ with
    | stuck => rw [e] at h; (first | exact h | exact ⟨h⟩ | exact ⟨h.go⟩ | exact h.go | exact h.elim | exact h.go.elim)
    | exc x s => rw [e] at h; (first | exact h | exact ⟨h⟩ | exact ⟨h.go⟩ | exact h.go | exact h.elim | exact h.go.elim)
    | ok b s =>
      rw [e] at h
      cases b with
      | false => exact ⟨h.go.2 rfl⟩
      | true =>
        have h1 := h.go.1 rfl
        simp only
        cases e2 : f s with
        | stuck => rw [e2] at h1; exact h1.go.elim
        | exc x s => rw [e2] at h1; exact ⟨h1.go⟩
        | ok fl s =>
          rw [e2] at h1
          have h1 := h1.go
          cases fl with
          | nx => obtain ⟨j, hj, h1⟩ := h1; exact whlL_inv I hs n j s (by omega) h1
          | ct => obtain ⟨j, hj, h1⟩ := h1; exact whlL_inv I hs n j s (by omega) h1
          | bk => exact ⟨h1⟩
          | rt r => exact ⟨h1⟩
theorem W_whl {c : E} {b : Ss} (I : Nat → DSt → Prop) (k : Nat) (hk : k < G.fuel) (h0 : I k σ) (hs : ∀ k σ, I k σ → W (ev G c σ) (T (fun σ1 => W (exs G b σ1) (LQ (fun σ2 => ∃ j, j < k ∧ I j σ2) Qs) X) (fun σ1 => Qs .nx σ1)) X) : W (ex G (.whl c b) σ) Qs X :=
  whlL_inv I (fun k σ hi => W_truth (W_mono (hs k σ hi) (fun r s h => by
    cases r with
    | fr o => (first | exact h | exact ⟨h⟩ | exact ⟨h.go⟩ | exact h.go | exact h.elim | exact h.go.elim)
    | bor i => (first | exact h | exact ⟨h⟩ | exact ⟨h.go⟩ | exact h.go | exact h.elim | exact h.go.elim)
    | val d =>
      cases d with
      | bl b => cases b; exact T_false ⟨fun z => (nomatch z), fun _ => h.2 rfl⟩; exact T_true ⟨fun _ => h.1 rfl, fun z => (nomatch z)⟩
      | _ => exact h) fun _ _ z => z)) G.fuel k σ hk h0
/-! comprehensions -/
theorem lcL_inv {f : D → DSt → Out (Option D)} (xs : List D) (I : Nat → List D → DSt → Prop) {σ : DSt} {Q : PQ (List D)} (pre : List D) (k0 : Nat) (h0 : I k0 pre σ)
    (hs : ∀ k x pre σ, xs[k]? = some x → I (k0 + k) pre σ → W (f x σ) (fun o σ1 => match o with | some d => I (k0 + k + 1) (pre ++ [d]) σ1 | none => I (k0 + k + 1) pre σ1) noX) (he : ∀ ds σ, I (k0 + xs.length) (pre ++ ds) σ → Q ds σ) : W (lcL f xs σ) Q noX := by
  induction xs generalizing pre k0 σ Q with
  | nil => exact ⟨he [] σ (by rw [List.append_nil]; exact h0)⟩
  | cons x xs ih =>
    have h1 := hs 0 x pre σ rfl h0
    unfold lcL
    cases e : f x σ with
    | stuck => rw [e] at h1; exact h1.go.elim
    | exc x s => rw [e] at h1; exact h1.go.elim
    | ok o s =>
      rw [e] at h1
      have h1 := h1.go
      have hs' : ∀ k y pre τ, xs[k]? = some y → I (k0 + 1 + k) pre τ → W (f y τ) (fun o σ1 => match o with | some d => I (k0 + 1 + k + 1) (pre ++ [d]) σ1 | none => I (k0 + 1 + k + 1) pre σ1) noX := fun k y pre τ hy hi => by
        have := hs (k + 1) y pre τ hy (by rw [show k0 + (k + 1) = k0 + 1 + k by omega]; exact hi)
        rw [show k0 + (k + 1) = k0 + 1 + k by omega] at this
        exact this
      cases o with
      | none => exact ih pre (k0 + 1) h1 hs' (fun ds τ h => he ds τ (by rw [List.length_cons, show k0 + (xs.length + 1) = k0 + 1 + xs.length by omega]; exact h))
      | some d =>
        have := ih (Q := fun ds τ => Q (d :: ds) τ) (pre ++ [d]) (k0 + 1) h1 hs' (fun ds τ h => he (d :: ds) τ (by
          rw [List.length_cons, show k0 + (xs.length + 1) = k0 + 1 + xs.length by omega]
          rw [List.append_assoc] at h
          exact h))
        show W (match lcL f xs s with | .ok ds σ2 => .ok (d :: ds) σ2 | _ => .stuck) Q noX
        cases e2 : lcL f xs s with
        | stuck => rw [e2] at this; exact this.go.elim
        | exc x s => rw [e2] at this; exact this.go.elim
        | ok ds s => rw [e2] at this; exact ⟨this.go⟩
theorem W_lc {own : List Nat} {t : Tg} {it : It} {c elt : E} (h : W (evi G it σ) (fun xs σ1 => BT (freeB σ1 own = true) (W (lcL (fun x τ => lcStep (asg t x (wipeD τ own)) (fun τ1 => truth (ev G c τ1)) (fun τ2 => (ev G elt τ2).used)) xs σ1) (fun ds σ2 => BT (ds.length < sizeLine) (Q (.fr (.l ds)) (backD σ1 σ2 own))) noX)) X) : W (ev G (.lc own t it c elt) σ) Q X :=
  W_bind (W_mono h (fun xs σ1 h => by
    show W (if freeB σ1 own then _ else _) _ _
    rw [if_pos h.1]
    have h2 := h.2
    cases e : lcL (fun x τ => lcStep (asg t x (wipeD τ own)) (fun τ1 => truth (ev G c τ1)) (fun τ2 => (ev G elt τ2).used)) xs σ1 with
    | stuck => rw [e] at h2; exact h2.go.elim
    | exc x s => rw [e] at h2; exact h2.go.elim
    | ok ds s =>
      rw [e] at h2
      have h2 := h2.go
      show W (if ds.length < sizeLine then _ else _) _ _
      rw [if_pos h2.1]; exact ⟨h2.2⟩) fun _ _ z => z)
/-- a comprehension by an invariant -/
theorem W_lcI {own : List Nat} {t : Tg} {c elt : E} {xs : List D} {Q : PQ (List D)} (I : Nat → List D → DSt → Prop) (h0 : I 0 [] σ)
    (hs : ∀ k x pre σ, xs[k]? = some x → I k pre σ → LF (asg t x (wipeD σ own)) fun σ1 => W (ev G c σ1) (T (fun σ2 => W (ev G elt σ2) (U fun d σ3 => I (k + 1) (pre ++ [d]) σ3) noX) (fun σ2 => I (k + 1) pre σ2)) noX)
    (he : ∀ ds σ, I xs.length ds σ → Q ds σ) : W (lcL (fun x τ => lcStep (asg t x (wipeD τ own)) (fun τ1 => truth (ev G c τ1)) (fun τ2 => (ev G elt τ2).used)) xs σ) Q noX :=
  lcL_inv xs I [] 0 h0 (fun k x pre σ hx hi => by
    rw [show 0 + k = k by omega] at hi ⊢
    have h := hs k x pre σ hx hi
    show W (lcStep (asg t x (wipeD σ own)) _ _) _ _
    cases e : asg t x (wipeD σ own) with
    | none => rw [e] at h; (first | exact h | exact ⟨h⟩ | exact ⟨h.go⟩ | exact h.go | exact h.elim | exact h.go.elim)
    | some s =>
      rw [e] at h
      exact W_tbind h.go (fun _ h => W_bind (W_used (W_mono h (fun _ _ h => U_mono h fun _ _ h => ⟨h⟩) fun _ _ z => z))) (fun _ h => ⟨h⟩)) (fun ds σ h => he ds σ (by rw [show 0 + xs.length = xs.length by omega] at h; exact h))
/-! comprehensions of two clauses -/
theorem lcLL_inv {f : D → DSt → Out (List D)} (xs : List D) (I : Nat → List D → DSt → Prop) {σ : DSt} {Q : PQ (List D)} (pre : List D) (k0 : Nat) (h0 : I k0 pre σ)
    (hs : ∀ k x pre σ, xs[k]? = some x → I (k0 + k) pre σ → W (f x σ) (fun ds σ1 => I (k0 + k + 1) (pre ++ ds) σ1) noX) (he : ∀ ds σ, I (k0 + xs.length) (pre ++ ds) σ → Q ds σ) : W (lcLL f xs σ) Q noX := by
  induction xs generalizing pre k0 σ Q with
  | nil => exact ⟨he [] σ (by rw [List.append_nil]; exact h0)⟩
  | cons x xs ih =>
    have h1 := hs 0 x pre σ rfl h0
    unfold lcLL
    cases e : f x σ with
    | stuck => rw [e] at h1; exact h1.go.elim
    | exc x s => rw [e] at h1; exact h1.go.elim
    | ok d s =>
      rw [e] at h1
      have h1 := h1.go
      have hs' : ∀ k y pre τ, xs[k]? = some y → I (k0 + 1 + k) pre τ → W (f y τ) (fun ds σ1 => I (k0 + 1 + k + 1) (pre ++ ds) σ1) noX := fun k y pre τ hy hi => by
        have := hs (k + 1) y pre τ hy (by rw [show k0 + (k + 1) = k0 + 1 + k by omega]; exact hi)
        rw [show k0 + (k + 1) = k0 + 1 + k by omega] at this
        exact this
      have := ih (Q := fun ds τ => Q (d ++ ds) τ) (pre ++ d) (k0 + 1) h1 hs' (fun ds τ h => he (d ++ ds) τ (by
        rw [List.length_cons, show k0 + (xs.length + 1) = k0 + 1 + xs.length by omega]
        rw [List.append_assoc] at h
        exact h))
      show W (match lcLL f xs s with | .ok ds σ2 => .ok (d ++ ds) σ2 | _ => .stuck) Q noX
      cases e2 : lcLL f xs s with
      | stuck => rw [e2] at this; exact this.go.elim
      | exc x s => rw [e2] at this; exact this.go.elim
      | ok ds s => rw [e2] at this; exact ⟨this.go⟩
theorem W_lc2 {own own2 : List Nat} {t t2 : Tg} {it it2 : It} {elt : E} (h : W (evi G it σ) (fun xs σ1 => BT (freeB σ1 own = true) (W (lcLL (fun x τ => lc2Step (asg t x (wipeD τ own)) (fun τ1 => evi G it2 τ1) fun ys τ2 => lcL (fun y ρ => lcStep (asg t2 y (wipeD ρ own2)) (fun ρ1 => .ok true ρ1) fun ρ2 => (ev G elt ρ2).used) ys τ2) xs σ1) (fun ds σ2 => BT (ds.length < sizeLine) (Q (.fr (.l ds)) (backD σ1 σ2 own))) noX)) X) : W (ev G (.lc2 own own2 t it t2 it2 elt) σ) Q X :=
  W_bind (W_mono h (fun xs σ1 h => by
    show W (if freeB σ1 own then _ else _) _ _
    rw [if_pos h.1]
    have h2 := h.2
    cases e : lcLL (fun x τ => lc2Step (asg t x (wipeD τ own)) (fun τ1 => evi G it2 τ1) fun ys τ2 => lcL (fun y ρ => lcStep (asg t2 y (wipeD ρ own2)) (fun ρ1 => .ok true ρ1) fun ρ2 => (ev G elt ρ2).used) ys τ2) xs σ1 with
    | stuck => rw [e] at h2; exact h2.go.elim
    | exc x s => rw [e] at h2; exact h2.go.elim
    | ok ds s =>
      rw [e] at h2
      have h2 := h2.go
      show W (if ds.length < sizeLine then _ else _) _ _
      rw [if_pos h2.1]; exact ⟨h2.2⟩) fun _ _ z => z)
/-- of two names, the parts change nothing: the inner list of an outer item, the elements -/
theorem W_lc2M {v u : Nat} {it2 : It} {elt : E} {xs : List D} {Q : PQ (List D)} (ys : D → List D) (g : D → D → D) {s0 s1 : Sl} (hv : σ[v]? = some s0) (hf : Fre s0) (hu : σ[u]? = some s1) (hf1 : Fre s1) (huv : u ≠ v)
    (hi : ∀ (k : Nat) x, xs[k]? = some x → W (evi G it2 ((σ.set u .un).set v (.sh x))) (fun l τ => l = ys x ∧ τ = (σ.set u .un).set v (.sh x)) noX)
    (h : ∀ (k : Nat) x (j : Nat) y, xs[k]? = some x → (ys x)[j]? = some y → W (ev G elt ((σ.set u (.sh y)).set v (.sh x))) (U fun d τ => d = g x y ∧ τ = (σ.set u (.sh y)).set v (.sh x)) noX)
    (q : ∀ s t, Fre s → Fre t → Q (xs.flatMap fun x => (ys x).map (g x)) ((σ.set u s).set v t)) :
    W (lcLL (fun x τ => lc2Step (asg (.n v) x (wipeD τ [v, u])) (fun τ1 => evi G it2 τ1) fun ys τ2 => lcL (fun y ρ => lcStep (asg (.n u) y (wipeD ρ [u])) (fun ρ1 => .ok true ρ1) fun ρ2 => (ev G elt ρ2).used) ys τ2) xs σ) Q noX := by
  have hl : v < σ.length := (List.getElem?_eq_some_iff.mp hv).1
  have hl2 : u < σ.length := (List.getElem?_eq_some_iff.mp hu).1
  refine lcLL_inv xs (fun k ds τ => ds = (xs.take k).flatMap (fun x => (ys x).map (g x)) ∧ ∃ s t, Fre s ∧ Fre t ∧ τ = (σ.set u s).set v t) [] 0 ⟨rfl, s1, s0, hf1, hf, ?_⟩ ?_ ?_
  · rw [show σ.set u s1 = σ from by obtain ⟨hh, e⟩ := List.getElem?_eq_some_iff.mp hu; subst e; exact List.set_getElem_self hh]
    obtain ⟨hh, e⟩ := List.getElem?_eq_some_iff.mp hv; subst e; exact (List.set_getElem_self hh).symm
  · rintro k x pre τ hx ⟨rfl, s, t, fs, ft, rfl⟩
    rw [Nat.zero_add]
    have ew : wipeD ((σ.set u s).set v t) [v, u] = (σ.set u .un).set v .un := by
      show ((((σ.set u s).set v t).set u .un).set v .un) = _
      rw [List.set_comm _ _ huv.symm, List.set_set, List.set_set]
    have ea : asg (.n v) x ((σ.set u .un).set v .un) = some ((σ.set u .un).set v (.sh x)) := by
      show store v (.val x) _ = _
      unfold store
      simp only [use]
      rw [List.getElem?_set_self (by rw [List.length_set]; exact hl)]
      simp only
      rw [List.set_set]
    rw [ew, ea]
    refine W_bind (W_mono (hi k x hx) (fun l τ ⟨e1, e2⟩ => ?_) fun _ _ z => z)
    subst e1 e2
    refine lcL_inv (ys x) (fun j ds τ => ds = ((ys x).take j).map (g x) ∧ ∃ s, Fre s ∧ τ = (σ.set u s).set v (.sh x)) [] 0 ⟨rfl, .un, .un, rfl⟩ ?_ ?_
    · rintro j y pre τ hy ⟨rfl, s, fs, rfl⟩
      rw [Nat.zero_add]
      have ew2 : wipeD ((σ.set u s).set v (.sh x)) [u] = (σ.set u .un).set v (.sh x) := by
        show ((σ.set u s).set v (.sh x)).set u .un = _
        rw [List.set_comm _ _ huv.symm, List.set_set]
      have ea2 : asg (.n u) y ((σ.set u .un).set v (.sh x)) = some ((σ.set u (.sh y)).set v (.sh x)) := by
        show store u (.val y) _ = _
        unfold store
        simp only [use]
        rw [List.getElem?_set_ne huv.symm, List.getElem?_set_self hl2]
        simp only
        rw [List.set_comm _ _ huv.symm, List.set_set]
      rw [ew2, ea2]
      show W ((ev G elt ((σ.set u (.sh y)).set v (.sh x))).used.bind fun d τ3 => Out.ok (some d) τ3) _ _
      refine W_bind (W_used (W_mono (h k x j y hx hy) (fun r τ hh => U_mono hh fun d τ ⟨e1, e2⟩ => ?_) fun _ _ z => z))
      subst e1 e2
      refine ⟨?_⟩
      show _ ∧ _
      refine ⟨?_, .sh y, .sh, rfl⟩
      rw [List.take_add_one, hy, List.map_append]; rfl
    · rintro ds τ ⟨e, s, fs, rfl⟩
      rw [Nat.zero_add, List.take_length] at e
      simp only [List.nil_append] at e
      subst e
      refine ⟨?_, s, .sh x, fs, .sh, rfl⟩
      rw [List.take_add_one, hx, List.flatMap_append]
      simp
  · rintro ds τ ⟨e, s, t, fs, ft, rfl⟩
    rw [Nat.zero_add, List.take_length] at e
    simp only [List.nil_append] at e
    subst e
    exact q s t fs ft
/-! defs -/
theorem WF_def {fd : FDef} {m : Option Ob} {ds : List D} {σ : DSt} {Qf : FQ} {Xf : FX} (e : startD fd m ds = some σ)
    (h : W (exs G fd.body σ) (fun f σ1 => match f with | .nx => LF (endOf fd.mu σ1) fun m => Qf (.val .non) m | .rt r => LF (retOf r σ1) fun r => LF (endOf fd.mu σ1) fun m => Qf r m | _ => False) (fun x σ1 => LF (endOf fd.mu σ1) fun m => Xf x m)) : WF (runDef G fd m ds) Qf Xf := by
  unfold runDef
  rw [e]
  show WF (finish fd.mu (exs G fd.body σ)) Qf Xf
  cases e2 : exs G fd.body σ with
  | stuck => rw [e2] at h; (first | exact h | exact ⟨h⟩ | exact ⟨h.go⟩ | exact h.go | exact h.elim | exact h.go.elim)
  | exc x s =>
    rw [e2] at h
    have h : LF (endOf fd.mu s) fun m => Xf x m := h.go
    show WF (match endOf fd.mu s with | some m => .exc x m | none => .stuck) _ _
    cases e3 : endOf fd.mu s with
    | none => rw [e3] at h; (first | exact h | exact ⟨h⟩ | exact ⟨h.go⟩ | exact h.go | exact h.elim | exact h.go.elim)
    | some m => rw [e3] at h; (first | exact h | exact ⟨h⟩ | exact ⟨h.go⟩ | exact h.go | exact h.elim | exact h.go.elim)
  | ok f s =>
    rw [e2] at h
    cases f with
    | nx =>
      have h : LF (endOf fd.mu s) fun m => Qf (.val .non) m := h.go
      show WF (match endOf fd.mu s with | some m => .ok (.val .non) m | none => .stuck) _ _
      cases e3 : endOf fd.mu s with
      | none => rw [e3] at h; (first | exact h | exact ⟨h⟩ | exact ⟨h.go⟩ | exact h.go | exact h.elim | exact h.go.elim)
      | some m => rw [e3] at h; (first | exact h | exact ⟨h⟩ | exact ⟨h.go⟩ | exact h.go | exact h.elim | exact h.go.elim)
    | rt r =>
      have h : LF (retOf r s) fun r => LF (endOf fd.mu s) fun m => Qf r m := h.go
      show WF (match retOf r s, endOf fd.mu s with | some r, some m => .ok r m | _, _ => .stuck) _ _
      cases e4 : retOf r s with
      | none => rw [e4] at h; (first | exact h | exact ⟨h⟩ | exact ⟨h.go⟩ | exact h.go | exact h.elim | exact h.go.elim)
      | some r =>
        rw [e4] at h
        have h : LF (endOf fd.mu s) fun m => Qf r m := h.go
        cases e3 : endOf fd.mu s with
        | none => rw [e3] at h; (first | exact h | exact ⟨h⟩ | exact ⟨h.go⟩ | exact h.go | exact h.elim | exact h.go.elim)
        | some m => rw [e3] at h; (first | exact h | exact ⟨h⟩ | exact ⟨h.go⟩ | exact h.go | exact h.elim | exact h.go.elim)
    | bk => (first | exact h | exact ⟨h⟩ | exact ⟨h.go⟩ | exact h.go | exact h.elim | exact h.go.elim)
    | ct => (first | exact h | exact ⟨h⟩ | exact ⟨h.go⟩ | exact h.go | exact h.elim | exact h.go.elim)
end
end Dp
namespace Dp
section
variable {G : Gam} {X : PX} {σ : DSt}
theorem P1_frl {xs : List D} {k : D → Prop} (h : k (.lst xs)) : P1 (.fr (.l xs)) σ k := ⟨h⟩
theorem P1_frd {t : Bool} {xs ys : List D} {k : D → Prop} (h : k (.dct t xs ys)) : P1 (.fr (.d t xs ys)) σ k := ⟨h⟩
theorem P1_fri {c : Nat} {xs : List (Nat × D)} {k : D → Prop} (h : k (.obj c xs)) : P1 (.fr (.i c xs)) σ k := ⟨h⟩
theorem P1_bor {i : Nat} {o : Ob} {k : D → Prop} (e : σ[i]? = some (.ow o)) (h : k (frz o)) : P1 (.bor i) σ k := by
  unfold P1 peek; simp only; rw [e]; (first | exact h | exact ⟨h⟩ | exact ⟨h.go⟩ | exact h.go | exact h.elim | exact h.go.elim)
theorem P1_bob {i : Nat} {o : Ob} {k : D → Prop} (e : σ[i]? = some (.bo o)) (h : k (frz o)) : P1 (.bor i) σ k := by
  unfold P1 peek; simp only; rw [e]; (first | exact h | exact ⟨h⟩ | exact ⟨h.go⟩ | exact h.go | exact h.elim | exact h.go.elim)
theorem P1_bosh {i : Nat} {o : D} {k : D → Prop} (e : σ[i]? = some (.sh o)) (h : k o) : P1 (.bor i) σ k := by
  unfold P1 peek; simp only; rw [e]; (first | exact h | exact ⟨h⟩ | exact ⟨h.go⟩ | exact h.go | exact h.elim | exact h.go.elim)
theorem P1_borl {i : Nat} {xs : List D} {k : D → Prop} (e : σ[i]? = some (.ow (.l xs))) (h : k (.lst xs)) : P1 (.bor i) σ k := P1_bor e h
theorem P1_bobl {i : Nat} {xs : List D} {k : D → Prop} (e : σ[i]? = some (.bo (.l xs))) (h : k (.lst xs)) : P1 (.bor i) σ k := P1_bob e h
theorem U_bor {i : Nat} {o : Ob} {k : PQ D} (e : σ[i]? = some (.ow o)) (h : k (frz o) (σ.set i (.sh (frz o)))) : U k (.bor i) σ := by
  unfold U use; simp only; rw [e]; (first | exact h | exact ⟨h⟩ | exact ⟨h.go⟩ | exact h.go | exact h.elim | exact h.go.elim)
theorem U_bosh {i : Nat} {o : D} {k : PQ D} (e : σ[i]? = some (.sh o)) (h : k o σ) : U k (.bor i) σ := by
  unfold U use; simp only; rw [e]; (first | exact h | exact ⟨h⟩ | exact ⟨h.go⟩ | exact h.go | exact h.elim | exact h.go.elim)
theorem U_frl {xs : List D} {Q : PQ D} (h : Q (.lst xs) σ) : U Q (.fr (.l xs)) σ := h
theorem LF_stored {i j : Nat} {o : Ob} {s : Sl} {k : DSt → Prop} (u : σ[j]? = some (.ow o)) (e : (σ.set j (.sh (frz o)))[i]? = some s) (f : Fre s) (h : k ((σ.set j (.sh (frz o))).set i (.sh (frz o)))) : LF (store i (.bor j) σ) k :=
  LF_storeB (σ1 := σ.set j (.sh (frz o))) (by unfold use; simp only; rw [u]) e f h
variable {k : RV → Prop} {kb : Bool → Prop} {i j : Int}
theorem LF_add (h : k (.val (.int (i + j)))) : LF (binD .add (.int i) (.int j)) k := ⟨h⟩
theorem LF_sub (h : k (.val (.int (i - j)))) : LF (binD .sub (.int i) (.int j)) k := ⟨h⟩
theorem LF_mul (c : small i = true ∨ small j = true ∨ i.natAbs.log2 + j.natAbs.log2 < 1000000) (h : k (.val (.int (i * j)))) : LF (binD .mul (.int i) (.int j)) k := by
  show LF (if (small i || small j || decide (i.natAbs.log2 + j.natAbs.log2 < 1000000)) = true then _ else _) k
  rw [if_pos (by rcases c with c | c | c <;> simp [c])]; (first | exact h | exact ⟨h⟩ | exact ⟨h.go⟩ | exact h.go | exact h.elim | exact h.go.elim)
theorem LF_mod (c : 0 < j) (h : k (.val (.int (i % j)))) : LF (binD .mod (.int i) (.int j)) k := by
  show LF (if 0 < j then _ else _) k
  rw [if_pos c]; (first | exact h | exact ⟨h⟩ | exact ⟨h.go⟩ | exact h.go | exact h.elim | exact h.go.elim)
theorem LF_fdiv (c : 0 < j) (c2 : j.natAbs.log2 < 9000) (h : k (.val (.int (i / j)))) : LF (binD .fdiv (.int i) (.int j)) k := by
  show LF (if 0 < j ∧ j.natAbs.log2 < 9000 then _ else _) k
  rw [if_pos ⟨c, c2⟩]; (first | exact h | exact ⟨h⟩ | exact ⟨h.go⟩ | exact h.go | exact h.elim | exact h.go.elim)
theorem LF_pow (c : 0 ≤ j ∧ j ≤ 1000000 ∧ i.natAbs < 2 ^ 64) (h : k (.val (.int (i ^ j.toNat)))) : LF (binD .pow (.int i) (.int j)) k := by
  show LF (if 0 ≤ j ∧ j ≤ 1000000 ∧ i.natAbs < 2 ^ 64 then _ else _) k
  rw [if_pos c]; (first | exact h | exact ⟨h⟩ | exact ⟨h.go⟩ | exact h.go | exact h.elim | exact h.go.elim)
theorem LF_adds {s t : List Nat} (c : s.length + t.length ≤ sizeLine) (h : k (.val (.str (s ++ t)))) : LF (binD .add (.str s) (.str t)) k := by
  show LF (if s.length + t.length ≤ sizeLine then _ else _) k
  rw [if_pos c]; (first | exact h | exact ⟨h⟩ | exact ⟨h.go⟩ | exact h.go | exact h.elim | exact h.go.elim)
theorem LF_addt {s t : List D} (c : s.length + t.length ≤ sizeLine) (h : k (.val (.tup (s ++ t)))) : LF (binD .add (.tup s) (.tup t)) k := by
  show LF (if s.length + t.length ≤ sizeLine then _ else _) k
  rw [if_pos c]; (first | exact h | exact ⟨h⟩ | exact ⟨h.go⟩ | exact h.go | exact h.elim | exact h.go.elim)
theorem LF_addl {s t : List D} (c : s.length + t.length ≤ sizeLine) (h : k (.fr (.l (s ++ t)))) : LF (binD .add (.lst s) (.lst t)) k := by
  show LF (if s.length + t.length ≤ sizeLine then _ else _) k
  rw [if_pos c]; (first | exact h | exact ⟨h⟩ | exact ⟨h.go⟩ | exact h.go | exact h.elim | exact h.go.elim)
theorem LF_mull {s : List D} (c : s.length * j.toNat ≤ sizeLine ∧ -(2 ^ 63) ≤ j ∧ j < 2 ^ 63) (h : k (.fr (.l (List.replicate j.toNat s).flatten))) : LF (binD .mul (.lst s) (.int j)) k := by
  show LF (if s.length * j.toNat ≤ sizeLine ∧ -(2 ^ 63) ≤ j ∧ j < 2 ^ 63 then _ else _) k
  rw [if_pos c]; (first | exact h | exact ⟨h⟩ | exact ⟨h.go⟩ | exact h.go | exact h.elim | exact h.go.elim)
theorem LF_mult {s : List D} (c : s.isEmpty = false ∧ 2 ≤ j ∧ j ≤ 1000 ∧ s.length ≤ 1000) (h : k (.val (.tup (List.replicate j.toNat s).flatten))) : LF (binD .mul (.tup s) (.int j)) k := by
  show LF (if s.isEmpty = false ∧ 2 ≤ j ∧ j ≤ 1000 ∧ s.length ≤ 1000 then _ else _) k
  rw [if_pos c]; (first | exact h | exact ⟨h⟩ | exact ⟨h.go⟩ | exact h.go | exact h.elim | exact h.go.elim)
theorem LF_eqi (h : kb (decide (i = j))) : LF (cmpD .eq (.int i) (.int j)) kb := ⟨h⟩
theorem LF_nei (h : kb (!decide (i = j))) : LF (cmpD .ne (.int i) (.int j)) kb := ⟨h⟩
theorem LF_lti (h : kb (decide (i < j))) : LF (cmpD .lt (.int i) (.int j)) kb := ⟨h⟩
theorem LF_lei (h : kb (decide (i ≤ j))) : LF (cmpD .le (.int i) (.int j)) kb := ⟨h⟩
theorem LF_gti (h : kb (decide (j < i))) : LF (cmpD .gt (.int i) (.int j)) kb := ⟨h⟩
theorem LF_gei (h : kb (decide (j ≤ i))) : LF (cmpD .ge (.int i) (.int j)) kb := ⟨h⟩
theorem LF_eqb {a b : Bool} (h : kb (a == b)) : LF (cmpD .eq (.bl a) (.bl b)) kb := ⟨h⟩
theorem LF_neb {a b : Bool} (h : kb (!(a == b))) : LF (cmpD .ne (.bl a) (.bl b)) kb := ⟨h⟩
theorem LF_eqd {a b : D} (c : shp 60 a = true) (c2 : shp 60 b = true) (h : kb (eqb a b)) : LF (cmpD .eq a b) kb := by
  show LF (if (shp 60 a && shp 60 b) = true then _ else _) kb
  rw [if_pos (by simp [c, c2])]; (first | exact h | exact ⟨h⟩ | exact ⟨h.go⟩ | exact h.go | exact h.elim | exact h.go.elim)
theorem LF_ned {a b : D} (c : shp 60 a = true) (c2 : shp 60 b = true) (h : kb (!(eqb a b))) : LF (cmpD .ne a b) kb := by
  show LF ((if (shp 60 a && shp 60 b) = true then _ else _ : Option Bool).map (!·)) kb
  rw [if_pos (by simp [c, c2])]; (first | exact h | exact ⟨h⟩ | exact ⟨h.go⟩ | exact h.go | exact h.elim | exact h.go.elim)
theorem LF_instr {c : Nat} {t : List Nat} (h : kb (decide (c ∈ t))) : LF (cmpD .isin (.str [c]) (.str t)) kb := ⟨h⟩
theorem LF_ninstr {c : Nat} {t : List Nat} (h : kb (!decide (c ∈ t))) : LF (cmpD .notin (.str [c]) (.str t)) kb := ⟨h⟩
theorem ixN_ok {n : Nat} (h0 : 0 ≤ i) (h1 : i < n) : ixN n i = some i.toNat := by
  unfold ixN; rw [if_pos h0, if_pos h1]
theorem ixN_nat {n m : Nat} (h1 : m < n) : ixN n (m : Int) = some m := by
  rw [ixN_ok (by omega) (by omega)]; rfl
theorem atI_ok {α : Type} {xs : List α} {d : α} (h0 : 0 ≤ i) (h : xs[i.toNat]? = some d) : atI xs i = some d := by
  have hl : i.toNat < xs.length := (List.getElem?_eq_some_iff.mp h).1
  unfold atI
  rw [ixN_ok h0 (by omega)]
  first | exact h | exact ⟨h⟩ | exact ⟨h.go⟩ | exact h.go | exact h.elim | exact h.go.elim
theorem atI_nat {α : Type} {xs : List α} {m : Nat} {d : α} (h : xs[m]? = some d) : atI xs (m : Int) = some d := atI_ok (by omega) h
variable {kd : D → Prop}
theorem LF_subl {xs : List D} {d : D} (h0 : 0 ≤ i) (e : xs[i.toNat]? = some d) (h : kd d) : LF (subD (.lst xs) (.int i)) kd := LF_eq (atI_ok h0 e) h
theorem LF_subt {xs : List D} {d : D} (h0 : 0 ≤ i) (e : xs[i.toNat]? = some d) (h : kd d) : LF (subD (.tup xs) (.int i)) kd := LF_eq (atI_ok h0 e) h
theorem LF_subs {s : List Nat} {c : Nat} (l : s.length ≤ sizeLine) (h0 : 0 ≤ i) (e : s[i.toNat]? = some c) (h : kd (.str [c])) : LF (subD (.str s) (.int i)) kd := by
  show LF (if s.length ≤ sizeLine then _ else _) kd
  rw [if_pos l, atI_ok h0 e]; (first | exact h | exact ⟨h⟩ | exact ⟨h.go⟩ | exact h.go | exact h.elim | exact h.go.elim)
theorem LF_lens {s : List Nat} (l : s.length ≤ sizeLine) (h : k (.val (.int s.length))) : LF (b1D .len (.str s)) k := by
  show LF (if s.length ≤ sizeLine then _ else _) k
  rw [if_pos l]; (first | exact h | exact ⟨h⟩ | exact ⟨h.go⟩ | exact h.go | exact h.elim | exact h.go.elim)
theorem LF_slcs {s : List Nat} {a b : Option Int} (l : s.length ≤ sizeLine) (h : k (.val (.str (cutL s a b)))) : LF (slcD (.str s) a b) k := by
  show LF (if s.length ≤ sizeLine then _ else _) k
  rw [if_pos l]; (first | exact h | exact ⟨h⟩ | exact ⟨h.go⟩ | exact h.go | exact h.elim | exact h.go.elim)
theorem WF_fn {P : Prog} {φ : Fsem} {f : Nat} {m : Option Ob} {ds : List D} {Q : FQ} {Xf : FX} (h : WF (φ f m ds) Q Xf) : WF ((P.gam φ).fn f m ds) Q Xf := h
theorem and_i {a b : Prop} (h : a) (h2 : b) : a ∧ b := ⟨h, h2⟩
theorem TB_dec {p A B : Prop} [Decidable p] (h : p → A) (h2 : ¬ p → B) : TB A B (decide p) := ⟨fun z => h (of_decide_eq_true z), fun z => h2 (of_decide_eq_false z)⟩
end
end Dp
namespace Dp
/-- a def's end: one that changes nothing, one that changes its first argument -/
def FN (Q : FQ) : PQ Flow := fun f σ => match f with
  | .nx => Q (.val .non) none
  | .rt r => LF (retOf r σ) fun r => Q r none
  | _ => False
def FM (Q : FQ) : PQ Flow := fun f σ => match f, σ with
  | .nx, .bo o :: _ => Q (.val .non) (some o)
  | .rt r, .bo o :: _ => LF (retOf r σ) fun r => Q r (some o)
  | _, _ => False
def FNX (X : FX) : PX := fun x _ => X x none
def FMX (X : FX) : PX := fun x σ => match σ with
  | .bo o :: _ => X x (some o)
  | _ => False
section
variable {P : Prog} {n f : Nat} {fd : FDef} {m : Option Ob} {ds : List D} {σ : DSt} {Q : FQ} {X : FX}
theorem WF_semN (d : P.defs[f]? = some fd) (e : startD fd m ds = some σ) (u : fd.mu = false) (h : W (exs (P.gam (sem P n)) fd.body σ) (FN Q) (FNX X)) : WF (sem P (n + 1) f m ds) Q X := by
  show WF (match P.defs[f]? with | some fd => runDef (P.gam (sem P n)) fd m ds | none => .stuck) Q X
  rw [d]
  refine WF_def e (W_mono h (fun fl s h => ?_) (fun x s h => ?_))
  · cases fl with
    | nx => rw [u]; exact ⟨h⟩
    | rt r => exact LF_mono (k := fun r => Q r none) h fun r h => by rw [u]; exact ⟨h⟩
    | bk => exact h
    | ct => exact h
  · rw [u]; exact ⟨h⟩
theorem WF_semM (d : P.defs[f]? = some fd) (e : startD fd m ds = some σ) (u : fd.mu = true) (h : W (exs (P.gam (sem P n)) fd.body σ) (FM Q) (FMX X)) : WF (sem P (n + 1) f m ds) Q X := by
  show WF (match P.defs[f]? with | some fd => runDef (P.gam (sem P n)) fd m ds | none => .stuck) Q X
  rw [d]
  refine WF_def e (W_mono h (fun fl s h => ?_) (fun x s h => ?_))
  · cases s with
    | nil => cases fl <;> exact h.elim
    | cons s0 s =>
      cases s0 with
      | bo o =>
        cases fl with
        | nx => rw [u]; exact ⟨h⟩
        | rt r => exact LF_mono (k := fun r => Q r (some o)) h fun r h => by rw [u]; exact ⟨h⟩
        | bk => exact h
        | ct => exact h
      | _ => cases fl <;> exact h.elim
  · cases s with
    | nil => exact h.elim
    | cons s0 s => cases s0 with
      | bo o => rw [u]; exact ⟨h⟩
      | _ => exact h.elim
theorem FN_nx (h : Q (.val .non) none) : FN Q .nx σ := h
theorem FN_val {d : D} (h : Q (.val d) none) : FN Q (.rt (.val d)) σ := ⟨h⟩
theorem FN_fr {o : Ob} (h : Q (.fr o) none) : FN Q (.rt (.fr o)) σ := ⟨h⟩
theorem FN_bor {i : Nat} {o : Ob} (e : σ[i]? = some (.ow o)) (h : Q (.fr o) none) : FN Q (.rt (.bor i)) σ := by
  show LF (match σ[i]? with | some (.ow o) => some (FR.fr o) | some (.sh d) => some (.val d) | _ => none) _
  rw [e]; exact ⟨h⟩
theorem FN_bosh {i : Nat} {o : D} (e : σ[i]? = some (.sh o)) (h : Q (.val o) none) : FN Q (.rt (.bor i)) σ := by
  show LF (match σ[i]? with | some (.ow o) => some (FR.fr o) | some (.sh d) => some (.val d) | _ => none) _
  rw [e]; exact ⟨h⟩
theorem FM_nx {b : Ob} (h : Q (.val .non) (some b)) : FM Q .nx (.bo b :: σ) := h
theorem FM_val {b : Ob} {d : D} (h : Q (.val d) (some b)) : FM Q (.rt (.val d)) (.bo b :: σ) := ⟨h⟩
theorem FM_fr {b : Ob} {o : Ob} (h : Q (.fr o) (some b)) : FM Q (.rt (.fr o)) (.bo b :: σ) := ⟨h⟩
theorem FM_bor {b : Ob} {i : Nat} {o : Ob} (e : σ[i]? = some (.ow o)) (h : Q (.fr o) (some b)) : FM Q (.rt (.bor (i + 1))) (.bo b :: σ) := by
  show LF (match σ[i]? with | some (.ow o) => some (FR.fr o) | some (.sh d) => some (.val d) | _ => none) _
  rw [e]; exact ⟨h⟩
theorem FNX_of {x : Exc} (h : X x none) : FNX X x σ := h
theorem FMX_of {b : Ob} {x : Exc} (h : X x (some b)) : FMX X x (.bo b :: σ) := h
end
end Dp
namespace Dp
/-! ranges -/
theorem rng_len (lo hi : Int) : (rangeD lo hi 1).length = (hi - lo).toNat := by
  unfold rangeD; rw [List.length_map, List.length_range]
  simp only [Int.ediv_one]; omega
theorem rng_len0 (n : Nat) : (rangeD 0 n 1).length = n := by rw [rng_len]; omega
theorem rng_at {lo hi st : Int} {k : Nat} {x : D} (h : (rangeD lo hi st)[k]? = some x) : x = .int (lo + k * st) ∧ k < ((hi - lo + st - 1) / st).toNat := by
  unfold rangeD at h
  rw [List.getElem?_map] at h
  obtain ⟨y, h1, h2⟩ := Option.map_eq_some_iff.mp h
  obtain ⟨h3, h4⟩ := List.getElem?_eq_some_iff.mp h1
  rw [List.getElem_range] at h4
  rw [List.length_range] at h3
  subst h4
  exact ⟨h2.symm, h3⟩
theorem rng_at1 {lo hi : Int} {k : Nat} {x : D} (h : (rangeD lo hi 1)[k]? = some x) : x = .int (lo + k) ∧ lo + k < hi := by
  obtain ⟨e, h⟩ := rng_at h
  rw [Int.mul_one] at e
  simp only [Int.ediv_one] at h
  exact ⟨e, by omega⟩
theorem rng_at0 {n k : Nat} {x : D} (h : (rangeD 0 n 1)[k]? = some x) : x = .int k ∧ k < n := by
  obtain ⟨e, h⟩ := rng_at1 h
  rw [Int.zero_add] at e
  exact ⟨e, by omega⟩
theorem inR_ok {i : Int} (h : -(2 ^ 62) ≤ i ∧ i < 2 ^ 62) : inR i = true := decide_eq_true h
theorem rngc {i j k : Int} (h : -(2 ^ 62) ≤ i ∧ i < 2 ^ 62) (h2 : -(2 ^ 62) ≤ j ∧ j < 2 ^ 62) (h3 : 0 < k) (h4 : k < 1073741824) : inR i = true ∧ inR j = true ∧ 0 < k ∧ k < 1073741824 := ⟨inR_ok h, inR_ok h2, h3, h4⟩
theorem small_of {i : Int} (h : -(2 ^ 64) < i ∧ i < 2 ^ 64) : small i = true := decide_eq_true h
theorem emod_ok (a b : Int) (hb : 0 < b) : 0 ≤ a % b ∧ a % b < b := ⟨Int.emod_nonneg a (by omega), Int.emod_lt_of_pos a hb⟩
theorem small_mod (a b : Int) (hb : 0 < b) (h : b ≤ 2 ^ 64) : small (a % b) = true := by
  have := emod_ok a b hb
  exact decide_eq_true ⟨by omega, by omega⟩
theorem log_le {a b : Nat} (h : a < 2 ^ b) (hb : 0 < b) : a.log2 < b := by
  by_cases z : a = 0
  · subst z; simpa using hb
  · exact (Nat.log2_lt z).mpr h
/-- the hand of drawn numbers -/
def Hand (o : Ob) : Prop := ∃ (cs : List Int) (i r s k : Int), o = .l [.lst (cs.map .int), .int i, .int r, .int s, .int k] ∧ (∀ c ∈ cs, 0 ≤ c) ∧ 0 ≤ i ∧ 0 ≤ r
theorem hand_of {cs : List Int} {i r s k : Int} (h : ∀ c ∈ cs, 0 ≤ c) (hi : 0 ≤ i) (hr : 0 ≤ r) : Hand (.l [.lst (cs.map .int), .int i, .int r, .int s, .int k]) := ⟨cs, i, r, s, k, rfl, h, hi, hr⟩
theorem strsD_map (l : List (List Nat)) : strsD (l.map .str) = some l := by
  induction l with
  | nil => rfl
  | cons x xs ih => rw [List.map_cons, strsD, ih]; rfl
theorem joinC_nil (l : List (List Nat)) : joinC [] l = l.flatten := by
  induction l with
  | nil => rfl
  | cons x xs ih =>
    cases xs with
    | nil => simp [joinC]
    | cons y ys => rw [joinC, ih]; simp
theorem LF_join {sep : List Nat} {xs : List D} {ss : List (List Nat)} {k : RV → Prop} (e : strsD xs = some ss) (l : (ss.map (·.length)).sum + ss.length * sep.length ≤ 16777216) (h : k (.val (.str (joinC sep ss)))) : LF (m1D .join (.str sep) (.lst xs)) k := by
  show LF (match strsD xs with | some ss => if (ss.map (·.length)).sum + ss.length * sep.length ≤ 16777216 then some (RV.val (.str (joinC sep ss))) else none | none => none) k
  rw [e]
  simp only
  rw [if_pos l]; exact ⟨h⟩
theorem sum_const {α : Type} (l : List α) (f : α → Nat) (c : Nat) (h : ∀ x ∈ l, f x = c) : (l.map f).sum = l.length * c := by
  induction l with
  | nil => simp
  | cons x xs ih =>
    rw [List.map_cons, List.sum_cons, h x (by simp), ih fun y hy => h y (by simp [hy]), List.length_cons, Nat.succ_mul]; omega
/-- a sign's place -/
def ix (l : List Nat) (c : Nat) : Nat := (l.findIdx? (· == c)).getD 0
theorem ix_at {l : List Nat} {c : Nat} (h : c ∈ l) : l.findIdx? (· == c) = some (ix l c) := by
  unfold ix
  cases e : l.findIdx? (· == c) with
  | none => rw [List.findIdx?_eq_none_iff] at e; have := e c h; simp at this
  | some i => rfl
theorem LF_sindex {t : List Nat} {c : Nat} {k : RV → Prop} (h : c ∈ t) (q : k (.val (.int (ix t c : Int)))) : LF (m1D .sindex (.str t) (.str [c])) k := by
  show LF ((t.findIdx? (· == c)).map fun (n : Nat) => RV.val (.int n)) k
  rw [ix_at h]; exact ⟨q⟩
theorem sIx_neg {n d : Nat} {v : Int} (h : v < 0) : sIx n d (some v) = (v + (n : Int)).toNat := by
  show (if v < 0 then _ else _) = _
  rw [if_pos h]
theorem sIx_pos {n d : Nat} {v : Int} (h : 0 ≤ v) : sIx n d (some v) = min v.toNat n := by
  show (if v < 0 then _ else _) = _
  rw [if_neg (by omega)]
theorem sIx_none {n d : Nat} : sIx n d none = d := rfl
/-- the first ones, all but the first ones -/
theorem cut_to {α : Type} {xs : List α} {v : Int} (h : 0 ≤ v) : cutL xs none (some v) = xs.take v.toNat := by
  unfold cutL
  rw [sIx_none, sIx_pos h, List.drop_zero, Nat.sub_zero]
  by_cases z : v.toNat ≤ xs.length
  · rw [Nat.min_eq_left z]
  · rw [Nat.min_eq_right (by omega), List.take_of_length_le (Nat.le_refl _), List.take_of_length_le (by omega)]
theorem cut_from {α : Type} {xs : List α} {v : Int} (h : 0 ≤ v) : cutL xs (some v) none = xs.drop v.toNat := by
  unfold cutL
  rw [sIx_none, sIx_pos h]
  by_cases z : v.toNat ≤ xs.length
  · rw [Nat.min_eq_left z, List.take_of_length_le (by rw [List.length_drop]; omega)]
  · rw [Nat.min_eq_right (by omega), List.drop_of_length_le (Nat.le_refl _), List.drop_of_length_le (by omega), List.take_nil]
theorem cut_toN {α : Type} {xs : List α} {v : Int} (h : v < 0) : cutL xs none (some v) = xs.take (v + (xs.length : Int)).toNat := by
  unfold cutL
  rw [sIx_none, sIx_neg h, List.drop_zero, Nat.sub_zero]
theorem cut_fromN {α : Type} {xs : List α} {v : Int} (h : v < 0) : cutL xs (some v) none = xs.drop (v + (xs.length : Int)).toNat := by
  unfold cutL
  rw [sIx_none, sIx_neg h, List.take_of_length_le (by rw [List.length_drop]; omega)]
theorem cut_len {α : Type} (xs : List α) (a b : Option Int) : (cutL xs a b).length ≤ xs.length := by
  unfold cutL
  rw [List.length_take, List.length_drop]; omega
/-- plain things, at most so deep -/
def okD : Nat → D → Bool
  | _, .non => true
  | _, .bl _ => true
  | _, .int _ => true
  | _, .str s => strOk s
  | k + 1, .tup xs => decide (xs.length < sizeLine) && xs.all (okD k)
  | k + 1, .lst xs => decide (xs.length < sizeLine) && xs.all (okD k)
  | _, _ => false
theorem zipD_at {xs ys : List D} {k : Nat} {x : D} (h : (zipD xs ys)[k]? = some x) : ∃ a b, x = .tup [a, b] ∧ xs[k]? = some a ∧ ys[k]? = some b := by
  induction xs generalizing ys k with
  | nil => cases h
  | cons a xs ih =>
    cases ys with
    | nil => cases h
    | cons b ys =>
      cases k with
      | zero => exact ⟨a, b, (Option.some.inj h).symm, rfl, rfl⟩
      | succ k => exact ih h
theorem zipD_len (xs ys : List D) : (zipD xs ys).length = min xs.length ys.length := by
  induction xs generalizing ys with
  | nil => simp [zipD]
  | cons a xs ih =>
    cases ys with
    | nil => simp [zipD]
    | cons b ys => simp [zipD, ih]
theorem boolsD_true (n : Nat) : boolsD (List.replicate n (.bl true)) = some (List.replicate n true) := by
  induction n with
  | zero => rfl
  | succ n ih => rw [List.replicate_succ, boolsD, ih]; rfl
theorem LF_alltrue {n : Nat} {k : RV → Prop} (h : k (.val (.bl true))) : LF (b1D .all (.lst (List.replicate n (.bl true)))) k := by
  show LF ((boolsD (List.replicate n (.bl true))).map fun bs => RV.val (.bl (bs.all id))) k
  rw [boolsD_true]
  show LF (some (RV.val (.bl ((List.replicate n true).all id)))) k
  rw [show (List.replicate n true).all id = true by simp]
  exact ⟨h⟩
mutual
theorem eqb_self : ∀ (d : D) (k : Nat), shp k d = true → eqb d d = true
  | .non, _, _ => rfl
  | .bl b, _, _ => by simp [eqb]
  | .int i, _, _ => by simp [eqb]
  | .str s, _, _ => by simp [eqb]
  | .tup xs, 0, h => by cases h
  | .lst xs, 0, h => by cases h
  | .tup xs, k + 1, h => by rw [eqb]; exact eqbs_self xs k (by simpa [shp] using h)
  | .lst xs, k + 1, h => by rw [eqb]; exact eqbs_self xs k (by simpa [shp] using h)
  | .dct _ _ _, k, h => by cases k <;> cases h
  | .set _, k, h => by cases k <;> cases h
  | .obj _ _, k, h => by cases k <;> cases h
  | .fn _, k, h => by cases k <;> cases h
  | .scr _, k, h => by cases k <;> cases h
  | .kt _, k, h => by cases k <;> cases h
theorem eqbs_self : ∀ (xs : List D) (k : Nat), (∀ x ∈ xs, shp k x = true) → eqbs xs xs = true
  | [], _, _ => rfl
  | x :: xs, k, h => by
    rw [eqbs, eqb_self x k (h x (by simp)), eqbs_self xs k fun y hy => h y (by simp [hy])]
    rfl
end
section
variable {G : Gam} {σ : DSt} {Q : PQ (List D)}
theorem set_set {v : Nat} {a b : Sl} : (σ.set v a).set v b = σ.set v b := by rw [List.set_set]
theorem set_self {v : Nat} {s : Sl} (h : σ[v]? = some s) : σ.set v s = σ := by
  obtain ⟨hl, e⟩ := List.getElem?_eq_some_iff.mp h
  subst e
  exact List.set_getElem_self hl
/-- a comprehension of one name whose parts change nothing: kept, and as what -/
theorem W_lcP {v : Nat} {c elt : E} {xs : List D} (g : D → Option D) {s0 : Sl} (hv : σ[v]? = some s0) (hf : Fre s0)
    (h : ∀ (k : Nat) x, xs[k]? = some x → W (ev G c (σ.set v (.sh x))) (T (fun τ => τ = σ.set v (.sh x) ∧ W (ev G elt (σ.set v (.sh x))) (U fun d τ' => g x = some d ∧ τ' = σ.set v (.sh x)) noX) (fun τ => g x = none ∧ τ = σ.set v (.sh x))) noX)
    (q : ∀ s, Fre s → Q (xs.filterMap g) (σ.set v s)) : W (lcL (fun x τ => lcStep (asg (.n v) x (wipeD τ [v])) (fun τ1 => truth (ev G c τ1)) (fun τ2 => (ev G elt τ2).used)) xs σ) Q noX := by
  have hl : v < σ.length := (List.getElem?_eq_some_iff.mp hv).1
  refine W_lcI (fun k ds τ => ds = (xs.take k).filterMap g ∧ ∃ s, Fre s ∧ τ = σ.set v s) ⟨rfl, s0, hf, (set_self hv).symm⟩ ?_ ?_
  · rintro k x pre τ hx ⟨rfl, s, fs, rfl⟩
    have ew : wipeD (σ.set v s) [v] = σ.set v .un := by show ((σ.set v s).set v .un) = _; exact set_set
    rw [ew]
    refine LF_asgn (LF_store (s := .un) (by rw [List.getElem?_set_self hl]) Fre.un ?_)
    rw [set_set]
    refine W_mono (h k x hx) (fun r τ ht => T_mono ht (fun τ ⟨e, he⟩ => ?_) (fun τ ⟨e, e2⟩ => ?_)) fun _ _ z => z
    · subst e
      refine W_mono he (fun r τ hu => U_mono hu fun d τ ⟨e1, e2⟩ => ⟨?_, .sh x, .sh, e2⟩) fun _ _ z => z
      rw [List.take_add_one, hx, List.filterMap_append]
      simp [e1]
    · refine ⟨?_, .sh x, .sh, e2⟩
      rw [List.take_add_one, hx, List.filterMap_append]
      simp [e]
  · rintro ds τ ⟨rfl, s, fs, rfl⟩
    rw [List.take_of_length_le (Nat.le_refl _)]
    exact q s fs
theorem W_lcM {v : Nat} {elt : E} {xs : List D} (g : D → D) {s0 : Sl} (hv : σ[v]? = some s0) (hf : Fre s0)
    (h : ∀ (k : Nat) x, xs[k]? = some x → W (ev G elt (σ.set v (.sh x))) (U fun d τ' => d = g x ∧ τ' = σ.set v (.sh x)) noX)
    (q : ∀ s, Fre s → Q (xs.map g) (σ.set v s)) : W (lcL (fun x τ => lcStep (asg (.n v) x (wipeD τ [v])) (fun τ1 => truth (ev G (.k (.bl true)) τ1)) (fun τ2 => (ev G elt τ2).used)) xs σ) Q noX := by
  refine W_lcP (fun x => some (g x)) hv hf (fun k x hx => W_k (T_true ⟨rfl, W_mono (h k x hx) (fun r τ hu => U_mono hu fun d τ ⟨e1, e2⟩ => ⟨by rw [e1], e2⟩) fun _ _ z => z⟩)) fun s fs => ?_
  have e : xs.filterMap (fun x => some (g x)) = xs.map g := by
    induction xs with
    | nil => rfl
    | cons x xs ih => simp
  rw [e]
  exact q s fs
end
theorem boolsD_map (bs : List Bool) : boolsD (bs.map .bl) = some bs := by
  induction bs with
  | nil => rfl
  | cons b bs ih => rw [List.map_cons, boolsD, ih]; rfl
theorem LF_all {bs : List Bool} {k : RV → Prop} (h : k (.val (.bl (bs.all id)))) : LF (b1D .all (.lst (bs.map .bl))) k := by
  show LF ((boolsD (bs.map .bl)).map fun bs => RV.val (.bl (bs.all id))) k
  rw [boolsD_map]; exact ⟨h⟩
theorem LF_any {bs : List Bool} {k : RV → Prop} (h : k (.val (.bl (bs.any id)))) : LF (b1D .any (.lst (bs.map .bl))) k := by
  show LF ((boolsD (bs.map .bl)).map fun bs => RV.val (.bl (bs.any id))) k
  rw [boolsD_map]; exact ⟨h⟩
theorem LF_muls {s : List Nat} {j : Int} {k : RV → Prop} (c : 1 ≤ j ∧ j ≤ 1000 ∧ s.length ≤ 1000) (h : k (.val (.str (List.replicate j.toNat s).flatten))) : LF (binD .mul (.str s) (.int j)) k := by
  show LF (if 1 ≤ j ∧ j ≤ 1000 ∧ s.length ≤ 1000 then _ else _) k
  rw [if_pos c]; exact ⟨h⟩
/-! x.pop(i) -/
section
variable {G : Gam} {X : PX} {σ : DSt}
def MP (m : Mp) (i : Nat) (Q : PQ RV) : PQ RV := fun q σ => match q, slotOb σ i with
  | .val y, some o => LF (mpOb m o y) fun p => Q (.val p.1) (putOb σ i p.2)
  | _, _ => False
theorem MP_val {m : Mp} {i : Nat} {Q : PQ RV} {y : D} {o : Ob} (e : slotOb σ i = some o) (h : LF (mpOb m o y) fun p => Q (.val p.1) (putOb σ i p.2)) : MP m i Q (.val y) σ := by
  unfold MP; rw [e]; exact h
theorem W_mp {m : Mp} {i : Nat} {a : E} {Q : PQ RV} {xs : List D} (e : slotOb σ i = some (.l xs)) (h : W (ev G a σ) (MP m i Q) X) : W (ev G (.mp m i a) σ) Q X := by
  show W (match slotOb σ i with
    | some (.l _) => (ev G a σ).bind fun q σ1 => match q, slotOb σ1 i with
      | .val y, some o => match mpOb m o y with
        | some (d, o') => Out.ok (.val d) (putOb σ1 i o')
        | none => .stuck
      | _, _ => .stuck
    | _ => .stuck) Q X
  rw [e]
  refine W_bind (W_mono h (fun q σ1 h => ?_) fun _ _ z => z)
  cases q with
  | fr _ => exact h.elim
  | bor _ => exact h.elim
  | val y =>
    cases e1 : slotOb σ1 i with
    | none => unfold MP at h; simp only [e1] at h
    | some o =>
      unfold MP at h
      simp only [e1] at h
      cases e2 : mpOb m o y with
      | none => rw [e2] at h; exact h.go.elim
      | some p => rw [e2] at h; simp only [e2]; exact ⟨h.go⟩
theorem LF_pop {xs : List D} {i : Int} {y : D} {k : D × Ob → Prop} (hl : xs.length ≤ sizeLine) (h0 : 0 ≤ i) (e : xs[i.toNat]? = some y) (h : k (y, .l (xs.eraseIdx i.toNat))) : LF (mpOb .pop1 (.l xs) (.int i)) k := by
  have hlt : i < xs.length := by
    have := (List.getElem?_eq_some_iff.mp e).1
    omega
  refine LF_eq ?_ h
  show (match (if xs.length ≤ sizeLine then ixN xs.length i else none) with
    | some j => (match xs[j]? with
      | some y => some (y, Ob.l (xs.eraseIdx j))
      | none => none)
    | none => none) = _
  rw [if_pos hl, ixN, if_pos h0, if_pos hlt]
  simp only [e]
end
end Dp
end

section
set_option Elab.async false
set_option linter.all false
set_option maxRecDepth 100000
set_option maxHeartbeats 0
set_option autoImplicit false
/-! the law k80: its data (printed by lawgen.py) -/
namespace DpK
open Dp
/-- CheckError.__init__ -/
abbrev b0 : Ss := .nil
def d0 : FDef := ⟨1, true, 1, b0⟩
/-- TooMany.__init__ -/
abbrev b1 : Ss := .nil
def d1 : FDef := ⟨2, true, 2, b1⟩
/-- is_integer -/
abbrev b2 : Ss := (.cons (.ret (.and (.isi (.v 0) [.int]) (.nt (.isi (.v 0) [.bool])))) .nil)
def d2 : FDef := ⟨1, false, 1, b2⟩
/-- is_within -/
abbrev b3 : Ss := (.cons (.ret (.and (.call 2 (.cons (.v 0) .nil)) (.chn .le .le (.v 1) (.v 0) (.v 2)))) .nil)
def d3 : FDef := ⟨3, false, 3, b3⟩
/-- is_tuple -/
abbrev b4 : Ss := (.cons (.ret (.and (.isi (.v 0) [.tup]) (.cmp .eq (.b1 .len (.v 0)) (.v 1)))) .nil)
def d4 : FDef := ⟨2, false, 2, b4⟩
/-- is_sized -/
abbrev b5 : Ss := (.cons (.ret (.and (.isi (.v 0) [.tup]) (.chn .le .le (.v 1) (.b1 .len (.v 0)) (.v 2)))) .nil)
def d5 : FDef := ⟨3, false, 3, b5⟩
/-- check_number -/
abbrev b6 : Ss := (.cons (.ife (.nt (.call 3 (.cons (.v 0) (.cons (.v 1) (.cons (.v 2) .nil))))) (.cons (.rais 1 .nil) .nil) .nil) .nil)
def d6 : FDef := ⟨3, false, 3, b6⟩
/-- is_sheet -/
abbrev b7 : Ss := (.cons (.ex (.call 6 (.cons (.v 0) (.cons (.k (.int 2)) (.cons (.k (.int 36)) .nil))))) (.cons (.ret (.call 8 (.cons (.v 0) (.cons (.v 1) .nil)))) .nil))
def d7 : FDef := ⟨2, false, 2, b7⟩
/-- raw_is_sheet -/
abbrev b8 : Ss := (.cons (.ife (.or (.nt (.call 5 (.cons (.v 1) (.cons (.k (.int 1)) (.cons (.glb 0) .nil))))) (.or (.nt (.isi (.sub (.v 1) (.k (.int 0))) [.tup])) (.nt (.chn .le .le (.k (.int 1)) (.b1 .len (.sub (.v 1) (.k (.int 0)))) (.glb 0))))) (.cons (.ret (.k (.bl false))) .nil) .nil) (.cons (.for_ (.n 2) (.seq (.v 1)) (.cons (.ife (.or (.nt (.call 4 (.cons (.v 2) (.cons (.b1 .len (.sub (.v 1) (.k (.int 0)))) .nil)))) (.nt (.b1 .all (.lc [3] (.n 3) (.seq (.v 2)) (.k (.bl true)) (.call 3 (.cons (.v 3) (.cons (.k (.int 0)) (.cons (.bin .sub (.v 0) (.k (.int 1))) .nil)))))))) (.cons (.ret (.k (.bl false))) .nil) .nil) .nil)) (.cons (.ret (.k (.bl true))) .nil)))
def d8 : FDef := ⟨2, false, 4, b8⟩
/-- check_sheet -/
abbrev b9 : Ss := (.cons (.ex (.call 6 (.cons (.v 0) (.cons (.k (.int 2)) (.cons (.k (.int 36)) .nil))))) (.cons (.ife (.nt (.call 8 (.cons (.v 0) (.cons (.v 1) .nil)))) (.cons (.rais 3 .nil) .nil) .nil) .nil))
def d9 : FDef := ⟨2, false, 2, b9⟩
/-- with_sums -/
abbrev b10 : Ss := (.cons (.ex (.call 9 (.cons (.v 0) (.cons (.v 1) .nil)))) (.cons (.ife (.or (.cmp .eq (.b1 .len (.v 1)) (.glb 0)) (.cmp .eq (.b1 .len (.sub (.v 1) (.k (.int 0)))) (.glb 0))) (.cons (.rais 2 (.cons (.glb 0) .nil)) .nil) .nil) (.cons (.set 2 (.lc [3] (.n 3) (.seq (.v 1)) (.k (.bl true)) (.bin .add (.v 3) (.tup (.cons (.bin .mod (.neg (.b1 .sum (.v 3))) (.v 0)) .nil))))) (.cons (.set 4 (.b1 .tuple (.lc [5] (.n 5) (.rng (.k (.int 0)) (.b1 .len (.sub (.v 2) (.k (.int 0)))) (.k (.int 1))) (.k (.bl true)) (.bin .mod (.neg (.b1 .sum (.lc [3] (.n 3) (.seq (.v 2)) (.k (.bl true)) (.sub (.v 3) (.v 5))))) (.v 0))))) (.cons (.ret (.bin .add (.b1 .tuple (.v 2)) (.tup (.cons (.v 4) .nil)))) .nil)))))
def d10 : FDef := ⟨2, false, 6, b10⟩
/-- left -/
abbrev b11 : Ss := (.cons (.ex (.call 9 (.cons (.v 0) (.cons (.v 1) .nil)))) (.cons (.ret (.call 12 (.cons (.v 0) (.cons (.v 1) .nil)))) .nil))
def d11 : FDef := ⟨2, false, 2, b11⟩
/-- raw_left -/
abbrev b12 : Ss := (.cons (.set 2 (.b1 .tuple (.lc [3] (.n 3) (.seq (.v 1)) (.k (.bl true)) (.bin .mod (.b1 .sum (.v 3)) (.v 0))))) (.cons (.ret (.tup (.cons (.v 2) (.cons (.b1 .tuple (.lc [4] (.n 4) (.rng (.k (.int 0)) (.b1 .len (.sub (.v 1) (.k (.int 0)))) (.k (.int 1))) (.k (.bl true)) (.bin .mod (.b1 .sum (.lc [3] (.n 3) (.seq (.v 1)) (.k (.bl true)) (.sub (.v 3) (.v 4)))) (.v 0)))) .nil)))) .nil))
def d12 : FDef := ⟨2, false, 5, b12⟩
/-- is_good -/
abbrev b13 : Ss := (.cons (.ex (.call 6 (.cons (.v 0) (.cons (.k (.int 2)) (.cons (.k (.int 36)) .nil))))) (.cons (.ife (.nt (.call 8 (.cons (.v 0) (.cons (.v 1) .nil)))) (.cons (.ret (.k (.bl false))) .nil) .nil) (.cons (.unp (.cons (.n 2) (.cons (.n 3) .nil)) (.call 12 (.cons (.v 0) (.cons (.v 1) .nil)))) (.cons (.ret (.and (.nt (.b1 .any (.v 2))) (.nt (.b1 .any (.v 3))))) .nil))))
def d13 : FDef := ⟨2, false, 4, b13⟩
/-- fewest_unseen -/
abbrev b14 : Ss := (.cons (.ex (.call 6 (.cons (.v 0) (.cons (.k (.int 2)) (.cons (.k (.int 36)) .nil))))) (.cons (.ret (.k (.int 4))) .nil))
def d14 : FDef := ⟨1, false, 1, b14⟩
/-- good_many -/
abbrev b15 : Ss := (.cons (.ex (.call 6 (.cons (.v 0) (.cons (.k (.int 2)) (.cons (.k (.int 36)) .nil))))) (.cons (.ex (.call 6 (.cons (.v 1) (.cons (.k (.int 1)) (.cons (.glb 0) .nil))))) (.cons (.ex (.call 6 (.cons (.v 2) (.cons (.k (.int 1)) (.cons (.glb 0) .nil))))) (.cons (.set 3 (.k (.int 1))) (.cons (.for_ (.n 4) (.rng (.k (.int 0)) (.bin .mul (.bin .sub (.v 1) (.k (.int 1))) (.bin .sub (.v 2) (.k (.int 1)))) (.k (.int 1))) (.cons (.set 3 (.bin .mul (.v 3) (.v 0))) .nil)) (.cons (.ret (.v 3)) .nil))))))
def d15 : FDef := ⟨3, false, 5, b15⟩
/-- turned -/
abbrev b16 : Ss := (.cons (.ex (.call 9 (.cons (.v 0) (.cons (.v 1) .nil)))) (.cons (.ret (.b1 .tuple (.lc [3] (.n 3) (.rng (.k (.int 0)) (.b1 .len (.sub (.v 1) (.k (.int 0)))) (.k (.int 1))) (.k (.bl true)) (.b1 .tuple (.lc [2] (.n 2) (.seq (.v 1)) (.k (.bl true)) (.sub (.v 2) (.v 3))))))) .nil))
def d16 : FDef := ⟨2, false, 4, b16⟩
/-- _law_draw -/
abbrev b17 : Ss := (.cons (.ife (.and (.cmp .eq (.sub (.v 0) (.k (.int 2))) (.k (.int 0))) (.cmp .lt (.sub (.v 0) (.k (.int 1))) (.b1 .len (.sub (.v 0) (.k (.int 0)))))) (.cons (.set 2 (.sub (.sub (.v 0) (.k (.int 0))) (.sub (.v 0) (.k (.int 1))))) (.cons (.seti 0 (.k (.int 1)) (.bin .add (.sub (.v 0) (.k (.int 1))) (.k (.int 1)))) (.cons (.seti 0 (.k (.int 3)) (.bin .mod (.b1 .int (.bin .add (.bin .add (.bin .mul (.sub (.v 0) (.k (.int 3))) (.k (.int 69621))) (.v 2)) (.k (.int 43)))) (.k (.int 2147483629)))) (.cons (.ife (.cmp .ge (.v 2) (.bin .pow (.k (.int 10)) (.k (.int 18)))) (.cons (.seti 0 (.k (.int 2)) (.v 2)) .nil) .nil) .nil)))) .nil) (.cons (.ife (.cmp .gt (.sub (.v 0) (.k (.int 2))) (.k (.int 0))) (.cons (.set 3 (.bin .mod (.b1 .int (.sub (.v 0) (.k (.int 2)))) (.v 1))) (.cons (.seti 0 (.k (.int 2)) (.bin .fdiv (.sub (.v 0) (.k (.int 2))) (.v 1))) (.cons (.ret (.v 3)) .nil))) .nil) (.cons (.seti 0 (.k (.int 4)) (.bin .add (.sub (.v 0) (.k (.int 4))) (.k (.int 1)))) (.cons (.set 4 (.bin .mod (.b1 .int (.bin .mul (.b1 .int (.bin .add (.sub (.v 0) (.k (.int 3))) (.bin .mul (.k (.int 7919)) (.sub (.v 0) (.k (.int 4)))))) (.k (.int 48271)))) (.k (.int 2147483647)))) (.cons (.set 4 (.bin .mod (.b1 .int (.bin .mul (.v 4) (.bin .add (.bin .fdiv (.v 4) (.k (.int 1009))) (.k (.int 69621))))) (.k (.int 2147483647)))) (.cons (.set 4 (.bin .mod (.b1 .int (.bin .mul (.v 4) (.bin .add (.bin .fdiv (.v 4) (.k (.int 2003))) (.k (.int 40692))))) (.k (.int 2147483399)))) (.cons (.ret (.bin .mod (.b1 .int (.bin .fdiv (.v 4) (.k (.int 16)))) (.v 1))) .nil)))))))
def d17 : FDef := ⟨2, true, 5, b17⟩
/-- _law_some -/
abbrev b18 : Ss := (.cons (.ret (.sub (.v 1) (.callm 17 0 (.cons (.b1 .len (.v 1)) .nil)))) .nil)
def d18 : FDef := ⟨2, true, 2, b18⟩
/-- _law_mixed -/
abbrev b19 : Ss := (.cons (.par [2, 3] (.cons (.b1 .list (.v 1)) (.cons (.lst .nil) .nil))) (.cons (.whl (.cmp .gt (.b1 .len (.v 2)) (.k (.int 0))) (.cons (.mm .append 3 (.mp .pop1 2 (.callm 17 0 (.cons (.b1 .len (.v 2)) .nil)))) .nil)) (.cons (.ret (.v 3)) .nil)))
def d19 : FDef := ⟨2, true, 4, b19⟩
/-- _law_is -/
abbrev b20 : Ss := (.cons (.ife (.isi (.v 1) [.tup, .lst]) (.cons (.ife (.or (.cmp .ne (.isi (.v 0) [.tup]) (.isi (.v 1) [.tup])) (.cmp .ne (.isi (.v 0) [.lst]) (.isi (.v 1) [.lst]))) (.cons (.ret (.k (.bl false))) .nil) .nil) (.cons (.ret (.and (.cmp .eq (.b1 .len (.v 0)) (.b1 .len (.v 1))) (.b1 .all (.lc [2, 3] (.cons (.n 2) (.cons (.n 3) .nil)) (.zip2 (.v 0) (.v 1)) (.k (.bl true)) (.call 20 (.cons (.v 2) (.cons (.v 3) .nil))))))) .nil)) .nil) (.cons (.ife (.or (.isn true (.v 1)) (.isn true (.v 0))) (.cons (.ret (.and (.isn true (.v 1)) (.isn true (.v 0)))) .nil) .nil) (.cons (.ife (.or (.cmp .ne (.isi (.v 0) [.bool]) (.isi (.v 1) [.bool])) (.cmp .ne (.isi (.v 0) [.int]) (.isi (.v 1) [.int]))) (.cons (.ret (.k (.bl false))) .nil) .nil) (.cons (.ret (.and (.cmp .eq (.isi (.v 0) [.str]) (.isi (.v 1) [.str])) (.cmp .eq (.v 0) (.v 1)))) .nil))))
def d20 : FDef := ⟨2, false, 4, b20⟩
/-- _law_hand -/
abbrev b21 : Ss := (.cons (.set 1 (.lc [2] (.n 2) (.seq (.slc (.v 0) .om (.k (.int 63)))) (.k (.bl true)) (.b1 .abs (.b1 .int (.v 2))))) (.cons (.ret (.lst (.cons (.v 1) (.cons (.k (.int 0)) (.cons (.k (.int 0)) (.cons (.bin .add (.k (.int 461)) (.bin .mul (.k (.int 3)) (.b1 .len (.v 1)))) (.cons (.k (.int 0)) .nil))))))) .nil))
def d21 : FDef := ⟨1, false, 3, b21⟩
/-- _law_deep -/
abbrev b22 : Ss := (.cons (.set 1 (.callm 18 0 (.cons (.lst (.cons (.k .non) (.cons (.neg (.k (.int 1))) (.cons (.k (.str [65])) .nil)))) .nil))) (.cons (.for_ (.n 2) (.rng (.k (.int 0)) (.bin .add (.k (.int 5)) (.callm 17 0 (.cons (.k (.int 7)) .nil))) (.k (.int 1))) (.cons (.set 1 (.callm 18 0 (.cons (.lst (.cons (.tup (.cons (.v 1) .nil)) (.cons (.lst (.cons (.v 1) .nil)) .nil))) .nil))) .nil)) (.cons (.ret (.v 1)) .nil)))
def d22 : FDef := ⟨1, true, 3, b22⟩
/-- _law_none -/
abbrev b23 : Ss := (.cons (.ret (.callm 18 0 (.cons (.lst (.cons (.k .non) (.cons (.k (.bl true)) (.cons (.k (.str [51])) (.cons (.tup (.cons (.k (.str [63])) .nil)) (.cons (.lst (.cons (.k (.str [63])) .nil)) (.cons (.dct false .nil .nil) (.cons (.neg (.k (.int 1))) (.cons (.callm 22 0 .nil) .nil))))))))) .nil))) .nil)
def d23 : FDef := ⟨1, true, 1, b23⟩
/-- _law_sheet -/
abbrev b24 : Ss := (.cons (.ret (.b1 .tuple (.lc [5] (.n 5) (.rng (.k (.int 0)) (.v 2) (.k (.int 1))) (.k (.bl true)) (.b1 .tuple (.lc [4] (.n 4) (.rng (.k (.int 0)) (.v 3) (.k (.int 1))) (.k (.bl true)) (.callm 17 0 (.cons (.v 1) .nil))))))) .nil)
def d24 : FDef := ⟨4, true, 6, b24⟩
/-- _law_rests -/
abbrev b25 : Ss := (.cons (.set 2 (.b1 .tuple (.lc [3] (.n 3) (.seq (.v 1)) (.k (.bl true)) (.bin .mod (.b1 .int (.b1 .sum (.v 3))) (.v 0))))) (.cons (.ret (.tup (.cons (.v 2) (.cons (.b1 .tuple (.lc [4] (.n 4) (.rng (.k (.int 0)) (.b1 .len (.sub (.v 1) (.k (.int 0)))) (.k (.int 1))) (.k (.bl true)) (.bin .mod (.b1 .int (.b1 .sum (.lc [3] (.n 3) (.seq (.v 1)) (.k (.bl true)) (.sub (.v 3) (.v 4))))) (.v 0)))) .nil)))) .nil))
def d25 : FDef := ⟨2, false, 5, b25⟩
/-- _law_fits -/
abbrev b26 : Ss := (.cons (.unp (.cons (.n 2) (.cons (.n 3) .nil)) (.call 25 (.cons (.v 0) (.cons (.v 1) .nil)))) (.cons (.ret (.and (.nt (.b1 .any (.v 2))) (.nt (.b1 .any (.v 3))))) .nil))
def d26 : FDef := ⟨2, false, 4, b26⟩
/-- _law_with -/
abbrev b27 : Ss := (.cons (.set 4 (.sub (.v 0) (.v 1))) (.cons (.ret (.bin .add (.bin .add (.slc (.v 0) .om (.v 1)) (.tup (.cons (.bin .add (.bin .add (.slc (.v 4) .om (.v 2)) (.tup (.cons (.v 3) .nil))) (.slc (.v 4) (.bin .add (.v 2) (.k (.int 1))) .om)) .nil))) (.slc (.v 0) (.bin .add (.v 1) (.k (.int 1))) .om))) .nil))
def d27 : FDef := ⟨4, false, 5, b27⟩
/-- _law_summed -/
abbrev b28 : Ss := (.cons (.set 2 (.lc [3] (.n 3) (.seq (.v 1)) (.k (.bl true)) (.bin .add (.v 3) (.tup (.cons (.bin .mod (.b1 .int (.bin .sub (.k (.int 0)) (.b1 .sum (.v 3)))) (.v 0)) .nil))))) (.cons (.set 4 (.lc [5] (.n 5) (.rng (.k (.int 0)) (.b1 .len (.sub (.v 2) (.k (.int 0)))) (.k (.int 1))) (.k (.bl true)) (.bin .mod (.b1 .int (.bin .sub (.k (.int 0)) (.b1 .sum (.lc [3] (.n 3) (.seq (.v 2)) (.k (.bl true)) (.sub (.v 3) (.v 5)))))) (.v 0)))) (.cons (.ret (.b1 .tuple (.bin .add (.v 2) (.lst (.cons (.b1 .tuple (.v 4)) .nil))))) .nil)))
def d28 : FDef := ⟨2, false, 6, b28⟩
/-- _law_spoiled -/
abbrev b29 : Ss := (.cons (.set 4 (.lst .nil)) (.cons (.for_ (.n 5) (.rng (.k (.int 0)) (.b1 .len (.v 2)) (.k (.int 1))) (.cons (.mm .extend 4 (.lc [6] (.n 6) (.rng (.k (.int 0)) (.b1 .len (.sub (.v 2) (.k (.int 0)))) (.k (.int 1))) (.k (.bl true)) (.tup (.cons (.v 5) (.cons (.v 6) .nil))))) .nil)) (.cons (.for_ (.cons (.n 5) (.cons (.n 6) .nil)) (.seq (.slc (.callm 19 0 (.cons (.v 4) .nil)) .om (.v 3))) (.cons (.set 2 (.call 27 (.cons (.v 2) (.cons (.v 5) (.cons (.v 6) (.cons (.bin .mod (.b1 .int (.bin .add (.bin .add (.sub (.sub (.v 2) (.v 5)) (.v 6)) (.k (.int 1))) (.callm 17 0 (.cons (.bin .sub (.v 1) (.k (.int 1))) .nil)))) (.v 1)) .nil)))))) .nil)) (.cons (.ret (.v 2)) .nil))))
def d29 : FDef := ⟨4, true, 7, b29⟩
/-- _law_base -/
abbrev b30 : Ss := (.cons (.ret (.callm 18 0 (.cons (.lst (.cons (.k (.int 2)) (.cons (.k (.int 3)) (.cons (.k (.int 5)) (.cons (.k (.int 10)) .nil))))) .nil))) .nil)
def d30 : FDef := ⟨1, true, 1, b30⟩
/-- _law_no_sheet -/
abbrev b31 : Ss := (.cons (.set 2 (.lst (.cons (.k .non) (.cons (.tup .nil) (.cons (.tup (.cons (.tup .nil) .nil)) (.cons (.tup (.cons (.tup (.cons (.k (.int 0)) (.cons (.k (.int 0)) .nil))) (.cons (.tup (.cons (.k (.int 0)) .nil)) .nil))) (.cons (.tup (.cons (.lst (.cons (.k (.int 0)) (.cons (.k (.int 0)) .nil))) (.cons (.lst (.cons (.k (.int 0)) (.cons (.k (.int 0)) .nil))) .nil))) (.cons (.lst (.cons (.tup (.cons (.k (.int 0)) (.cons (.k (.int 0)) .nil))) .nil)) (.cons (.tup (.cons (.tup (.cons (.v 1) .nil)) .nil)) (.cons (.tup (.cons (.tup (.cons (.k (.bl true)) .nil)) .nil)) (.cons (.tup (.cons (.tup (.cons (.neg (.k (.int 1))) .nil)) .nil)) .nil))))))))))) (.cons (.ret (.callm 18 0 (.cons (.bin .add (.v 2) (.lst (.cons (.tup (.cons (.tup (.cons (.k (.str [48])) .nil)) .nil)) (.cons (.tup (.cons (.bin .mul (.tup (.cons (.k (.int 0)) .nil)) (.k (.int 9))) .nil)) (.cons (.bin .mul (.tup (.cons (.tup (.cons (.k (.int 0)) .nil)) .nil)) (.k (.int 9))) (.cons (.dct false .nil .nil) (.cons (.k (.int 0)) (.cons (.k (.str [48, 48])) (.cons (.callm 22 0 .nil) .nil))))))))) .nil))) .nil))
def d31 : FDef := ⟨2, true, 3, b31⟩
/-- _law_no_base -/
abbrev b32 : Ss := (.cons (.ret (.callm 18 0 (.cons (.lst (.cons (.k (.int 1)) (.cons (.k (.int 37)) (.cons (.k (.int 0)) (.cons (.callm 23 0 .nil) .nil))))) .nil))) .nil)
def d32 : FDef := ⟨1, true, 1, b32⟩
/-- _law_word -/
abbrev b33 : Ss := (.cons (.set 1 (.k (.str [108, 101, 116]))) (.cons .bad (.cons (.ret (.v 1)) .nil)))
def d33 : FDef := ⟨1, false, 4, b33⟩
/-- _law_all_sheets -/
abbrev b34 : Ss := (.cons (.set 3 (.lst (.cons (.tup .nil) .nil))) (.cons (.for_ (.n 4) (.rng (.k (.int 0)) (.bin .mul (.v 1) (.v 2)) (.k (.int 1))) (.cons (.set 5 (.lst .nil)) (.cons (.for_ (.n 6) (.seq (.v 3)) (.cons (.mm .extend 5 (.lc [7] (.n 7) (.rng (.k (.int 0)) (.v 0) (.k (.int 1))) (.k (.bl true)) (.bin .add (.v 6) (.tup (.cons (.v 7) .nil))))) .nil)) (.cons (.set 3 (.v 5)) .nil)))) (.cons (.ret (.lc [6] (.n 6) (.seq (.v 3)) (.k (.bl true)) (.b1 .tuple (.lc [8] (.n 8) (.rng (.k (.int 0)) (.v 1) (.k (.int 1))) (.k (.bl true)) (.slc (.v 6) (.bin .mul (.v 8) (.v 2)) (.bin .add (.bin .mul (.v 8) (.v 2)) (.v 2))))))) .nil)))
def d34 : FDef := ⟨3, false, 9, b34⟩
/-- _law_are_refused -/
abbrev b35 : Ss := (.cons (.unp (.cons (.n 2) (.cons (.n 3) .nil)) (.tup (.cons (.callm 32 0 .nil) (.cons (.callm 31 0 (.cons (.v 1) .nil)) .nil)))) (.cons (.set 4 (.lst .nil)) (.cons (.for_ (.n 5) (.seq (.tup (.cons (.k (.fn 11)) (.cons (.k (.fn 10)) (.cons (.k (.fn 16)) .nil))))) (.cons (.set 4 (.bin .add (.v 4) (.lc [6] (.n 6) (.seq (.tup (.cons (.v 2) (.cons (.v 1) .nil)))) (.k (.bl true)) (.tld 33 (.callv 5 [11, 16, 10] (.cons (.v 6) (.cons (.v 3) .nil))))))) .nil)) (.cons (.set 7 (.callm 18 0 (.cons (.lst (.cons (.tup (.cons (.bin .mul (.tup (.cons (.k (.int 0)) .nil)) (.k (.int 8))) .nil)) (.cons (.bin .mul (.tup (.cons (.tup (.cons (.k (.int 0)) .nil)) .nil)) (.k (.int 8))) .nil))) .nil))) (.cons (.mm .append 4 (.tld 33 (.call 10 (.cons (.v 1) (.cons (.v 7) .nil))))) (.cons (.mm .append 4 (.tld 33 (.call 13 (.cons (.v 2) (.cons (.tup (.cons (.tup (.cons (.k (.int 0)) .nil)) .nil)) .nil))))) (.cons (.ret (.and (.cmp .eq (.v 4) (.bin .add (.bin .mul (.lst (.cons (.k (.int 0)) (.cons (.k (.int 1)) .nil))) (.k (.int 3))) (.lst (.cons (.k (.int 2)) (.cons (.k (.int 0)) .nil))))) (.and (.isb true (.call 13 (.cons (.v 1) (.cons (.v 3) .nil))) false) (.isb true (.call 7 (.cons (.v 1) (.cons (.v 3) .nil))) false)))) .nil)))))))
def d35 : FDef := ⟨2, true, 8, b35⟩
/-- law -/
abbrev b36 : Ss := (.cons (.set 1 (.call 21 (.cons (.v 0) .nil))) (.cons (.set 2 (.lst (.cons (.call 11 (.cons (.k (.int 10)) (.cons (.tup (.cons (.tup (.cons (.k (.int 1)) (.cons (.k (.int 2)) .nil))) (.cons (.tup (.cons (.k (.int 3)) (.cons (.k (.int 4)) .nil))) .nil))) .nil))) (.cons (.call 10 (.cons (.k (.int 10)) (.cons (.tup (.cons (.tup (.cons (.k (.int 1)) (.cons (.k (.int 2)) .nil))) (.cons (.tup (.cons (.k (.int 3)) (.cons (.k (.int 4)) .nil))) .nil))) .nil))) (.cons (.call 13 (.cons (.k (.int 2)) (.cons (.tup (.cons (.tup (.cons (.k (.int 1)) (.cons (.k (.int 1)) .nil))) (.cons (.tup (.cons (.k (.int 1)) (.cons (.k (.int 1)) .nil))) .nil))) .nil))) .nil))))) (.cons (.mm .append 2 (.call 14 (.cons (.k (.int 7)) .nil))) (.cons (.ife (.nt (.call 20 (.cons (.v 2) (.cons (.lst (.cons (.tup (.cons (.tup (.cons (.k (.int 3)) (.cons (.k (.int 7)) .nil))) (.cons (.tup (.cons (.k (.int 4)) (.cons (.k (.int 6)) .nil))) .nil))) (.cons (.tup (.cons (.tup (.cons (.k (.int 1)) (.cons (.k (.int 2)) (.cons (.k (.int 7)) .nil)))) (.cons (.tup (.cons (.k (.int 3)) (.cons (.k (.int 4)) (.cons (.k (.int 3)) .nil)))) (.cons (.tup (.cons (.k (.int 6)) (.cons (.k (.int 4)) (.cons (.k (.int 0)) .nil)))) .nil)))) (.cons (.k (.bl true)) (.cons (.k (.int 4)) .nil))))) .nil)))) (.cons (.ret (.k (.bl false))) .nil) .nil) (.cons (.ife (.cmp .ne (.lst (.cons (.call 15 (.cons (.k (.int 10)) (.cons (.k (.int 2)) (.cons (.k (.int 3)) .nil)))) (.cons (.call 15 (.cons (.k (.int 5)) (.cons (.k (.int 1)) (.cons (.k (.int 8)) .nil)))) (.cons (.call 15 (.cons (.k (.int 2)) (.cons (.k (.int 3)) (.cons (.k (.int 3)) .nil)))) .nil)))) (.lst (.cons (.k (.int 100)) (.cons (.k (.int 1)) (.cons (.k (.int 16)) .nil))))) (.cons (.ret (.k (.bl false))) .nil) .nil) (.cons (.for_ (.n 3) (.rng (.k (.int 0)) (.k (.int 6)) (.k (.int 1))) (.cons (.set 4 (.callm 30 1 .nil)) (.cons (.set 5 (.callm 24 1 (.cons (.v 4) (.cons (.bin .add (.k (.int 1)) (.callm 17 1 (.cons (.k (.int 5)) .nil))) (.cons (.bin .add (.k (.int 1)) (.callm 17 1 (.cons (.k (.int 5)) .nil))) .nil))))) (.cons (.set 6 (.call 28 (.cons (.v 4) (.cons (.v 5) .nil)))) (.cons (.ife (.nt (.call 20 (.cons (.lst (.cons (.call 11 (.cons (.v 4) (.cons (.v 5) .nil))) (.cons (.call 10 (.cons (.v 4) (.cons (.v 5) .nil))) .nil))) (.cons (.lst (.cons (.call 25 (.cons (.v 4) (.cons (.v 5) .nil))) (.cons (.v 6) .nil))) .nil)))) (.cons (.ret (.k (.bl false))) .nil) .nil) (.cons (.for_ (.n 7) (.seq (.tup (.cons (.v 5) (.cons (.v 6) (.cons (.callm 29 1 (.cons (.v 4) (.cons (.v 6) (.cons (.callm 17 1 (.cons (.k (.int 4)) .nil)) .nil)))) .nil))))) (.cons (.set 8 (.b1 .tuple (.lc [10] (.n 10) (.rng (.k (.int 0)) (.b1 .len (.sub (.v 7) (.k (.int 0)))) (.k (.int 1))) (.k (.bl true)) (.b1 .tuple (.lc [9] (.n 9) (.seq (.v 7)) (.k (.bl true)) (.sub (.v 9) (.v 10))))))) (.cons (.ife (.nt (.call 20 (.cons (.lst (.cons (.call 13 (.cons (.v 4) (.cons (.v 7) .nil))) (.cons (.call 16 (.cons (.v 4) (.cons (.v 7) .nil))) .nil))) (.cons (.lst (.cons (.call 26 (.cons (.v 4) (.cons (.v 7) .nil))) (.cons (.v 8) .nil))) .nil)))) (.cons (.ret (.k (.bl false))) .nil) .nil) (.cons (.ife (.or (.cmp .ne (.call 11 (.cons (.v 4) (.cons (.v 8) .nil))) (.rev (.call 11 (.cons (.v 4) (.cons (.v 7) .nil))))) (.isb false (.call 7 (.cons (.v 4) (.cons (.v 7) .nil))) true)) (.cons (.ret (.k (.bl false))) .nil) .nil) .nil)))) (.cons (.ife (.nt (.callm 35 1 (.cons (.v 4) .nil))) (.cons (.ret (.k (.bl false))) .nil) .nil) .nil))))))) (.cons (.par [11, 12] (.cons (.bin .add (.k (.int 1)) (.callm 17 1 (.cons (.k (.int 3)) .nil))) (.cons (.bin .add (.k (.int 1)) (.callm 17 1 (.cons (.k (.int 2)) .nil))) .nil))) (.cons (.set 13 (.lc [7] (.n 7) (.seq (.call 34 (.cons (.k (.int 2)) (.cons (.v 11) (.cons (.v 12) .nil))))) (.call 26 (.cons (.k (.int 2)) (.cons (.v 7) .nil))) (.v 7))) (.cons (.ret (.cmp .eq (.call 15 (.cons (.k (.int 2)) (.cons (.v 11) (.cons (.v 12) .nil)))) (.b1 .len (.v 13)))) .nil)))))))))
def d36 : FDef := ⟨1, false, 14, b36⟩
def tld33 : Tld := ⟨some [108, 101, 116], fun j => match j with | 1 => some (.i 0) | 3 => some (.i 1) | 2 => some (.i 2) | _ => none⟩
def tl : Nat → Tld := fun f => match f with | 33 => tld33 | _ => ⟨none, fun _ => none⟩
def PR (fuel : Nat) : Prog := ⟨[d0, d1, d2, d3, d4, d5, d6, d7, d8, d9, d10, d11, d12, d13, d14, d15, d16, d17, d18, d19, d20, d21, d22, d23, d24, d25, d26, d27, d28, d29, d30, d31, d32, d33, d34, d35, d36], [(.int 8)], [(33, tld33.told)], [], [(0, []), (1, []), (2, [0]), (3, [])], fuel⟩
theorem w2 {fuel n : Nat} {a0 : D} {Q : FQ} {X : FX} (h : W (exs ((PR fuel).gam (sem (PR fuel) n)) b2 [.sh a0]) (FN Q) (FNX X)) : WF (sem (PR fuel) (n + 1) 2 none [a0]) Q X := WF_semN rfl rfl rfl h
theorem w3 {fuel n : Nat} {a0 : D} {a1 : D} {a2 : D} {Q : FQ} {X : FX} (h : W (exs ((PR fuel).gam (sem (PR fuel) n)) b3 [.sh a0, .sh a1, .sh a2]) (FN Q) (FNX X)) : WF (sem (PR fuel) (n + 1) 3 none [a0, a1, a2]) Q X := WF_semN rfl rfl rfl h
theorem w4 {fuel n : Nat} {a0 : D} {a1 : D} {Q : FQ} {X : FX} (h : W (exs ((PR fuel).gam (sem (PR fuel) n)) b4 [.sh a0, .sh a1]) (FN Q) (FNX X)) : WF (sem (PR fuel) (n + 1) 4 none [a0, a1]) Q X := WF_semN rfl rfl rfl h
theorem w5 {fuel n : Nat} {a0 : D} {a1 : D} {a2 : D} {Q : FQ} {X : FX} (h : W (exs ((PR fuel).gam (sem (PR fuel) n)) b5 [.sh a0, .sh a1, .sh a2]) (FN Q) (FNX X)) : WF (sem (PR fuel) (n + 1) 5 none [a0, a1, a2]) Q X := WF_semN rfl rfl rfl h
theorem w6 {fuel n : Nat} {a0 : D} {a1 : D} {a2 : D} {Q : FQ} {X : FX} (h : W (exs ((PR fuel).gam (sem (PR fuel) n)) b6 [.sh a0, .sh a1, .sh a2]) (FN Q) (FNX X)) : WF (sem (PR fuel) (n + 1) 6 none [a0, a1, a2]) Q X := WF_semN rfl rfl rfl h
theorem w7 {fuel n : Nat} {a0 : D} {a1 : D} {Q : FQ} {X : FX} (h : W (exs ((PR fuel).gam (sem (PR fuel) n)) b7 [.sh a0, .sh a1]) (FN Q) (FNX X)) : WF (sem (PR fuel) (n + 1) 7 none [a0, a1]) Q X := WF_semN rfl rfl rfl h
theorem w8 {fuel n : Nat} {a0 : D} {a1 : D} {Q : FQ} {X : FX} (h : W (exs ((PR fuel).gam (sem (PR fuel) n)) b8 [.sh a0, .sh a1, .un, .un]) (FN Q) (FNX X)) : WF (sem (PR fuel) (n + 1) 8 none [a0, a1]) Q X := WF_semN rfl rfl rfl h
theorem w9 {fuel n : Nat} {a0 : D} {a1 : D} {Q : FQ} {X : FX} (h : W (exs ((PR fuel).gam (sem (PR fuel) n)) b9 [.sh a0, .sh a1]) (FN Q) (FNX X)) : WF (sem (PR fuel) (n + 1) 9 none [a0, a1]) Q X := WF_semN rfl rfl rfl h
theorem w10 {fuel n : Nat} {a0 : D} {a1 : D} {Q : FQ} {X : FX} (h : W (exs ((PR fuel).gam (sem (PR fuel) n)) b10 [.sh a0, .sh a1, .un, .un, .un, .un]) (FN Q) (FNX X)) : WF (sem (PR fuel) (n + 1) 10 none [a0, a1]) Q X := WF_semN rfl rfl rfl h
theorem w11 {fuel n : Nat} {a0 : D} {a1 : D} {Q : FQ} {X : FX} (h : W (exs ((PR fuel).gam (sem (PR fuel) n)) b11 [.sh a0, .sh a1]) (FN Q) (FNX X)) : WF (sem (PR fuel) (n + 1) 11 none [a0, a1]) Q X := WF_semN rfl rfl rfl h
theorem w12 {fuel n : Nat} {a0 : D} {a1 : D} {Q : FQ} {X : FX} (h : W (exs ((PR fuel).gam (sem (PR fuel) n)) b12 [.sh a0, .sh a1, .un, .un, .un]) (FN Q) (FNX X)) : WF (sem (PR fuel) (n + 1) 12 none [a0, a1]) Q X := WF_semN rfl rfl rfl h
theorem w13 {fuel n : Nat} {a0 : D} {a1 : D} {Q : FQ} {X : FX} (h : W (exs ((PR fuel).gam (sem (PR fuel) n)) b13 [.sh a0, .sh a1, .un, .un]) (FN Q) (FNX X)) : WF (sem (PR fuel) (n + 1) 13 none [a0, a1]) Q X := WF_semN rfl rfl rfl h
theorem w14 {fuel n : Nat} {a0 : D} {Q : FQ} {X : FX} (h : W (exs ((PR fuel).gam (sem (PR fuel) n)) b14 [.sh a0]) (FN Q) (FNX X)) : WF (sem (PR fuel) (n + 1) 14 none [a0]) Q X := WF_semN rfl rfl rfl h
theorem w15 {fuel n : Nat} {a0 : D} {a1 : D} {a2 : D} {Q : FQ} {X : FX} (h : W (exs ((PR fuel).gam (sem (PR fuel) n)) b15 [.sh a0, .sh a1, .sh a2, .un, .un]) (FN Q) (FNX X)) : WF (sem (PR fuel) (n + 1) 15 none [a0, a1, a2]) Q X := WF_semN rfl rfl rfl h
theorem w16 {fuel n : Nat} {a0 : D} {a1 : D} {Q : FQ} {X : FX} (h : W (exs ((PR fuel).gam (sem (PR fuel) n)) b16 [.sh a0, .sh a1, .un, .un]) (FN Q) (FNX X)) : WF (sem (PR fuel) (n + 1) 16 none [a0, a1]) Q X := WF_semN rfl rfl rfl h
theorem w17 {fuel n : Nat} {a0 : Ob} {a1 : D} {Q : FQ} {X : FX} (h : W (exs ((PR fuel).gam (sem (PR fuel) n)) b17 [.bo a0, .sh a1, .un, .un, .un]) (FM Q) (FMX X)) : WF (sem (PR fuel) (n + 1) 17 (some a0) [a1]) Q X := WF_semM rfl rfl rfl h
theorem w18 {fuel n : Nat} {a0 : Ob} {a1 : D} {Q : FQ} {X : FX} (h : W (exs ((PR fuel).gam (sem (PR fuel) n)) b18 [.bo a0, .sh a1]) (FM Q) (FMX X)) : WF (sem (PR fuel) (n + 1) 18 (some a0) [a1]) Q X := WF_semM rfl rfl rfl h
theorem w19 {fuel n : Nat} {a0 : Ob} {a1 : D} {Q : FQ} {X : FX} (h : W (exs ((PR fuel).gam (sem (PR fuel) n)) b19 [.bo a0, .sh a1, .un, .un]) (FM Q) (FMX X)) : WF (sem (PR fuel) (n + 1) 19 (some a0) [a1]) Q X := WF_semM rfl rfl rfl h
theorem w20 {fuel n : Nat} {a0 : D} {a1 : D} {Q : FQ} {X : FX} (h : W (exs ((PR fuel).gam (sem (PR fuel) n)) b20 [.sh a0, .sh a1, .un, .un]) (FN Q) (FNX X)) : WF (sem (PR fuel) (n + 1) 20 none [a0, a1]) Q X := WF_semN rfl rfl rfl h
theorem w21 {fuel n : Nat} {a0 : D} {Q : FQ} {X : FX} (h : W (exs ((PR fuel).gam (sem (PR fuel) n)) b21 [.sh a0, .un, .un]) (FN Q) (FNX X)) : WF (sem (PR fuel) (n + 1) 21 none [a0]) Q X := WF_semN rfl rfl rfl h
theorem w22 {fuel n : Nat} {a0 : Ob} {Q : FQ} {X : FX} (h : W (exs ((PR fuel).gam (sem (PR fuel) n)) b22 [.bo a0, .un, .un]) (FM Q) (FMX X)) : WF (sem (PR fuel) (n + 1) 22 (some a0) []) Q X := WF_semM rfl rfl rfl h
theorem w23 {fuel n : Nat} {a0 : Ob} {Q : FQ} {X : FX} (h : W (exs ((PR fuel).gam (sem (PR fuel) n)) b23 [.bo a0]) (FM Q) (FMX X)) : WF (sem (PR fuel) (n + 1) 23 (some a0) []) Q X := WF_semM rfl rfl rfl h
theorem w24 {fuel n : Nat} {a0 : Ob} {a1 : D} {a2 : D} {a3 : D} {Q : FQ} {X : FX} (h : W (exs ((PR fuel).gam (sem (PR fuel) n)) b24 [.bo a0, .sh a1, .sh a2, .sh a3, .un, .un]) (FM Q) (FMX X)) : WF (sem (PR fuel) (n + 1) 24 (some a0) [a1, a2, a3]) Q X := WF_semM rfl rfl rfl h
theorem w25 {fuel n : Nat} {a0 : D} {a1 : D} {Q : FQ} {X : FX} (h : W (exs ((PR fuel).gam (sem (PR fuel) n)) b25 [.sh a0, .sh a1, .un, .un, .un]) (FN Q) (FNX X)) : WF (sem (PR fuel) (n + 1) 25 none [a0, a1]) Q X := WF_semN rfl rfl rfl h
theorem w26 {fuel n : Nat} {a0 : D} {a1 : D} {Q : FQ} {X : FX} (h : W (exs ((PR fuel).gam (sem (PR fuel) n)) b26 [.sh a0, .sh a1, .un, .un]) (FN Q) (FNX X)) : WF (sem (PR fuel) (n + 1) 26 none [a0, a1]) Q X := WF_semN rfl rfl rfl h
theorem w27 {fuel n : Nat} {a0 : D} {a1 : D} {a2 : D} {a3 : D} {Q : FQ} {X : FX} (h : W (exs ((PR fuel).gam (sem (PR fuel) n)) b27 [.sh a0, .sh a1, .sh a2, .sh a3, .un]) (FN Q) (FNX X)) : WF (sem (PR fuel) (n + 1) 27 none [a0, a1, a2, a3]) Q X := WF_semN rfl rfl rfl h
theorem w28 {fuel n : Nat} {a0 : D} {a1 : D} {Q : FQ} {X : FX} (h : W (exs ((PR fuel).gam (sem (PR fuel) n)) b28 [.sh a0, .sh a1, .un, .un, .un, .un]) (FN Q) (FNX X)) : WF (sem (PR fuel) (n + 1) 28 none [a0, a1]) Q X := WF_semN rfl rfl rfl h
theorem w29 {fuel n : Nat} {a0 : Ob} {a1 : D} {a2 : D} {a3 : D} {Q : FQ} {X : FX} (h : W (exs ((PR fuel).gam (sem (PR fuel) n)) b29 [.bo a0, .sh a1, .sh a2, .sh a3, .un, .un, .un]) (FM Q) (FMX X)) : WF (sem (PR fuel) (n + 1) 29 (some a0) [a1, a2, a3]) Q X := WF_semM rfl rfl rfl h
theorem w30 {fuel n : Nat} {a0 : Ob} {Q : FQ} {X : FX} (h : W (exs ((PR fuel).gam (sem (PR fuel) n)) b30 [.bo a0]) (FM Q) (FMX X)) : WF (sem (PR fuel) (n + 1) 30 (some a0) []) Q X := WF_semM rfl rfl rfl h
theorem w31 {fuel n : Nat} {a0 : Ob} {a1 : D} {Q : FQ} {X : FX} (h : W (exs ((PR fuel).gam (sem (PR fuel) n)) b31 [.bo a0, .sh a1, .un]) (FM Q) (FMX X)) : WF (sem (PR fuel) (n + 1) 31 (some a0) [a1]) Q X := WF_semM rfl rfl rfl h
theorem w32 {fuel n : Nat} {a0 : Ob} {Q : FQ} {X : FX} (h : W (exs ((PR fuel).gam (sem (PR fuel) n)) b32 [.bo a0]) (FM Q) (FMX X)) : WF (sem (PR fuel) (n + 1) 32 (some a0) []) Q X := WF_semM rfl rfl rfl h
theorem w34 {fuel n : Nat} {a0 : D} {a1 : D} {a2 : D} {Q : FQ} {X : FX} (h : W (exs ((PR fuel).gam (sem (PR fuel) n)) b34 [.sh a0, .sh a1, .sh a2, .un, .un, .un, .un, .un, .un]) (FN Q) (FNX X)) : WF (sem (PR fuel) (n + 1) 34 none [a0, a1, a2]) Q X := WF_semN rfl rfl rfl h
theorem w35 {fuel n : Nat} {a0 : Ob} {a1 : D} {Q : FQ} {X : FX} (h : W (exs ((PR fuel).gam (sem (PR fuel) n)) b35 [.bo a0, .sh a1, .un, .un, .un, .un, .un, .un]) (FM Q) (FMX X)) : WF (sem (PR fuel) (n + 1) 35 (some a0) [a1]) Q X := WF_semM rfl rfl rfl h
theorem w36 {fuel n : Nat} {a0 : D} {Q : FQ} {X : FX} (h : W (exs ((PR fuel).gam (sem (PR fuel) n)) b36 [.sh a0, .un, .un, .un, .un, .un, .un, .un, .un, .un, .un, .un, .un, .un]) (FN Q) (FNX X)) : WF (sem (PR fuel) (n + 1) 36 none [a0]) Q X := WF_semN rfl rfl rfl h
end DpK
end

section
set_option Elab.async false
set_option linter.all false
set_option maxRecDepth 100000
set_option maxHeartbeats 4000000
set_option autoImplicit false
/-! DpB1: what data are in an abstract heap. -/
namespace DpS
open PySem PySem.Spec L2

/-- the written part, the classes' addresses, the fields' names, the defs' addresses -/
structure RC where
  K : PySem.W.Frag
  ca : Nat → Addr
  an : Nat → Str
  fa : Nat → Addr

def kD : Key → Dp.D
  | .inl i => .int i
  | .inr x => .str x.cps.toList

mutual
/-- v is d in F -/
def Rep (R : RC) (F : Hp) : Dp.D → V → Prop
  | .non, v => v = .non
  | .bl b, v => v = .bl b
  | .int i, v => v = .int i
  | .str s, v => v = .str ⟨s.toArray⟩
  | .tup xs, v => ∃ a vs, v = .ref a ∧ F a = some (.tup vs) ∧ Reps R F xs vs
  | .kt xs, v => ∃ a vs, v = .ref a ∧ SqT R.K F a vs ∧ Reps R F xs vs
  | .lst xs, v => ∃ a vs, v = .ref a ∧ F a = some (.lst vs) ∧ Reps R F xs vs
  | .dct false ks ws, v => ∃ a kvs, v = .ref a ∧ F a = some (.dK kvs) ∧ kvs.map (fun p => kD p.1) = ks ∧ Reps R F ws (kvs.map (·.2))
  | .dct true ks ws, v => ∃ a kvs, v = .ref a ∧ F a = some (.dT kvs) ∧ kvs.map (fun p => Dp.D.tup (p.1.map kD)) = ks ∧ Reps R F ws (kvs.map (·.2))
  | .set _, _ => False
  | .obj c fs, v => ∃ a dx gs, v = .ref a ∧ F a = some (.ins (R.ca c) dx gs) ∧ RepF R F fs gs
  | .fn f, v => v = .ref (R.fa f)
  | .scr ns, v => ∃ a, v = .ref a ∧ SqL R.K F a (ns.map V.int)
def Reps (R : RC) (F : Hp) : List Dp.D → List V → Prop
  | [], vs => vs = []
  | d :: ds, vs => ∃ v ws, vs = v :: ws ∧ Rep R F d v ∧ Reps R F ds ws
def RepF (R : RC) (F : Hp) : List (Nat × Dp.D) → List (Str × V) → Prop
  | [], gs => gs = []
  | f :: fs, gs => ∃ v hs, gs = (R.an f.1, v) :: hs ∧ Rep R F f.2 v ∧ RepF R F fs hs
end

/-- F grows -/
def Sub (F F' : Hp) : Prop := ∀ a o, F a = some o → F' a = some o
theorem Sub.refl (F : Hp) : Sub F F := fun _ _ h => h
theorem Sub.trans {F G H : Hp} (a : Sub F G) (b : Sub G H) : Sub F H := fun x o h => b x o (a x o h)
theorem Sub.upd {F : Hp} {a : Addr} {o : HO} (h : F a = none) : Sub F (upd F a o) := fun b u e => by
  rw [upd_ne (ne_of_none e h)]; exact e
theorem Sub.sqT {K : PySem.W.Frag} {F F' : Hp} {a : Addr} {xs : List V} (s : Sub F F') (h : SqT K F a xs) : SqT K F' a xs := by
  rcases h with (h | ⟨o, h⟩) | h
  · exact .inl (.inl (s _ _ h))
  · exact .inl (.inr ⟨o, s _ _ h⟩)
  · exact .inr h
theorem Sub.sqL {K : PySem.W.Frag} {F F' : Hp} {a : Addr} {xs : List V} (s : Sub F F') (h : SqL K F a xs) : SqL K F' a xs := by
  rcases h with (h | ⟨o, h⟩) | h
  · exact .inl (.inl (s _ _ h))
  · exact .inl (.inr ⟨o, s _ _ h⟩)
  · exact .inr h

section
variable {R : RC} {F F' : Hp}
mutual
theorem Rep.sub (s : Sub F F') : ∀ {d : Dp.D} {v : V}, Rep R F d v → Rep R F' d v
  | .non, _, h => h
  | .bl _, _, h => h
  | .int _, _, h => h
  | .str _, _, h => h
  | .tup xs, _, h => by
    obtain ⟨a, vs, e, h1, h2⟩ := h
    exact ⟨a, vs, e, s _ _ h1, Reps.sub s h2⟩
  | .kt xs, _, h => by
    obtain ⟨a, vs, e, h1, h2⟩ := h
    exact ⟨a, vs, e, s.sqT h1, Reps.sub s h2⟩
  | .lst xs, _, h => by
    obtain ⟨a, vs, e, h1, h2⟩ := h
    exact ⟨a, vs, e, s _ _ h1, Reps.sub s h2⟩
  | .dct false ks ws, _, h => by
    obtain ⟨a, kvs, e, h1, h2, h3⟩ := h
    exact ⟨a, kvs, e, s _ _ h1, h2, Reps.sub s h3⟩
  | .dct true ks ws, _, h => by
    obtain ⟨a, kvs, e, h1, h2, h3⟩ := h
    exact ⟨a, kvs, e, s _ _ h1, h2, Reps.sub s h3⟩
  | .set _, _, h => h
  | .obj c fs, _, h => by
    obtain ⟨a, dx, gs, e, h1, h2⟩ := h
    exact ⟨a, dx, gs, e, s _ _ h1, RepF.sub s h2⟩
  | .fn _, _, h => h
  | .scr _, _, h => by
    obtain ⟨a, e, h1⟩ := h
    exact ⟨a, e, s.sqL h1⟩
theorem Reps.sub (s : Sub F F') : ∀ {ds : List Dp.D} {vs : List V}, Reps R F ds vs → Reps R F' ds vs
  | [], _, h => h
  | d :: ds, _, h => by
    obtain ⟨v, ws, e, h1, h2⟩ := h
    exact ⟨v, ws, e, Rep.sub s h1, Reps.sub s h2⟩
theorem RepF.sub (s : Sub F F') : ∀ {fs : List (Nat × Dp.D)} {gs : List (Str × V)}, RepF R F fs gs → RepF R F' fs gs
  | [], _, h => h
  | f :: fs, _, h => by
    obtain ⟨v, ws, e, h1, h2⟩ := h
    exact ⟨v, ws, e, Rep.sub s h1, RepF.sub s h2⟩
end

/-! ### lists of data -/
theorem Reps.nil : Reps R F [] [] := rfl
theorem Reps.cons {d : Dp.D} {v : V} {ds : List Dp.D} {vs : List V} (h : Rep R F d v) (t : Reps R F ds vs) : Reps R F (d :: ds) (v :: vs) := ⟨v, vs, rfl, h, t⟩
theorem Reps.length : ∀ {ds : List Dp.D} {vs : List V}, Reps R F ds vs → vs.length = ds.length
  | [], _, h => by rw [show _ = [] from h]; rfl
  | d :: ds, _, h => by
    obtain ⟨v, ws, rfl, _, t⟩ := h
    show ws.length + 1 = ds.length + 1
    rw [Reps.length t]
theorem Reps.append : ∀ {ds es : List Dp.D} {vs ws : List V}, Reps R F ds vs → Reps R F es ws → Reps R F (ds ++ es) (vs ++ ws)
  | [], _, _, _, h, t => by rw [show _ = [] from h]; exact t
  | d :: ds, _, _, _, h, t => by
    obtain ⟨v, us, rfl, h1, h2⟩ := h
    exact ⟨v, _, rfl, h1, Reps.append h2 t⟩
theorem Reps.get : ∀ {ds : List Dp.D} {vs : List V} {i : Nat} {d : Dp.D}, Reps R F ds vs → ds[i]? = some d → ∃ v, vs[i]? = some v ∧ Rep R F d v
  | [], _, _, _, _, e => by simp at e
  | d :: ds, _, 0, _, h, e => by
    obtain ⟨v, us, rfl, h1, _⟩ := h
    rw [List.getElem?_cons_zero] at e
    cases e
    exact ⟨v, rfl, h1⟩
  | d :: ds, _, i + 1, _, h, e => by
    obtain ⟨v, us, rfl, _, h2⟩ := h
    rw [List.getElem?_cons_succ] at e
    obtain ⟨w, e1, r⟩ := Reps.get h2 e
    exact ⟨w, by rw [List.getElem?_cons_succ]; exact e1, r⟩
theorem Reps.drop : ∀ {ds : List Dp.D} {vs : List V} (n : Nat), Reps R F ds vs → Reps R F (ds.drop n) (vs.drop n)
  | [], _, n, h => by rw [show _ = [] from h]; cases n <;> exact rfl
  | d :: ds, _, 0, h => by simpa using h
  | d :: ds, _, n + 1, h => by
    obtain ⟨v, us, rfl, _, h2⟩ := h
    exact Reps.drop n h2
theorem Reps.take : ∀ {ds : List Dp.D} {vs : List V} (n : Nat), Reps R F ds vs → Reps R F (ds.take n) (vs.take n)
  | [], _, n, h => by rw [show _ = [] from h]; cases n <;> exact rfl
  | d :: ds, _, 0, h => by
    obtain ⟨v, us, rfl, _, h2⟩ := h
    exact rfl
  | d :: ds, _, n + 1, h => by
    obtain ⟨v, us, rfl, h1, h2⟩ := h
    exact ⟨v, _, rfl, h1, Reps.take n h2⟩
theorem Reps.set : ∀ {ds : List Dp.D} {vs : List V} {d : Dp.D} {v : V} (i : Nat), Rep R F d v → Reps R F ds vs → Reps R F (ds.set i d) (vs.set i v)
  | [], _, _, _, i, _, h => by rw [show _ = [] from h]; exact rfl
  | e :: ds, _, _, _, 0, r, h => by
    obtain ⟨u, us, rfl, h1, h2⟩ := h
    exact ⟨_, us, rfl, r, h2⟩
  | e :: ds, _, _, _, i + 1, r, h => by
    obtain ⟨u, us, rfl, h1, h2⟩ := h
    exact ⟨u, _, rfl, h1, Reps.set i r h2⟩
theorem Reps.reverse : ∀ {ds : List Dp.D} {vs : List V}, Reps R F ds vs → Reps R F ds.reverse vs.reverse
  | [], _, h => by rw [show _ = [] from h]; exact rfl
  | d :: ds, _, h => by
    obtain ⟨v, us, rfl, h1, h2⟩ := h
    rw [List.reverse_cons, List.reverse_cons]
    exact Reps.append (Reps.reverse h2) (Reps.cons h1 Reps.nil)
theorem Reps.rep {ds : List Dp.D} {vs : List V} (h : Reps R F ds vs) : ∀ n, Reps R F (List.replicate n ds).flatten (List.replicate n vs).flatten
  | 0 => rfl
  | n + 1 => by
    rw [List.replicate_succ, List.replicate_succ, List.flatten_cons, List.flatten_cons]
    exact h.append (Reps.rep h n)
theorem Reps.ints : ∀ (ns : List Int), Reps R F (ns.map Dp.D.int) (ns.map V.int)
  | [] => rfl
  | n :: ns => ⟨_, _, rfl, rfl, Reps.ints ns⟩
theorem Reps.of_ints : ∀ {ds : List Dp.D} {vs : List V} {ns : List Int}, Reps R F ds vs → Dp.lexInts ds = some ns → vs = ns.map V.int ∧ ds = ns.map Dp.D.int
  | [], _, _, h, e => by
    rw [show _ = [] from h]
    cases e
    exact ⟨rfl, rfl⟩
  | .int i :: ds, _, _, h, e => by
    obtain ⟨v, us, rfl, h1, h2⟩ := h
    rw [Dp.lexInts] at e
    cases q : Dp.lexInts ds with
    | none => rw [q] at e; cases e
    | some ms =>
      rw [q] at e
      cases e
      obtain ⟨e1, e2⟩ := Reps.of_ints h2 q
      rw [show v = .int i from h1, e1, e2]
      exact ⟨rfl, rfl⟩
  | .non :: _, _, _, _, e => by cases e
  | .bl _ :: _, _, _, _, e => by cases e
  | .str _ :: _, _, _, _, e => by cases e
  | .tup _ :: _, _, _, _, e => by cases e
  | .lst _ :: _, _, _, _, e => by cases e
  | .dct _ _ _ :: _, _, _, _, e => by cases e
  | .set _ :: _, _, _, _, e => by cases e
  | .obj _ _ :: _, _, _, _, e => by cases e
  | .fn _ :: _, _, _, _, e => by cases e
  | .scr _ :: _, _, _, _, e => by cases e
  | .kt _ :: _, _, _, _, e => by cases e
end
end DpS
end

section
set_option Elab.async false
set_option linter.all false
set_option maxRecDepth 100000
set_option maxHeartbeats 4000000
set_option autoImplicit false
/-! DpB2: states of D in states of the model; what an evaluation may change. -/
namespace DpS
open PySem PySem.Spec L2

/-- nothing but a table stands there -/
def Nt (H : Hp) (a : Addr) : Prop := ∀ o, H a = some o → ∃ ps, o = .tbl ps
def Tb (o : HO) : Prop := ∃ ps, o = .tbl ps
theorem Nt.of_none {H : Hp} {a : Addr} (h : H a = none) : Nt H a := fun o e => by rw [h] at e; cases e

/-- an own object at a, its parts in F -/
def ObAt (R : RC) (H F : Hp) (a : Addr) : Dp.Ob → Prop
  | .l xs => ∃ vs, H a = some (.lst vs) ∧ Reps R F xs vs
  | .d false ks ws => ∃ kvs : List (Key × V), H a = some (.dK kvs) ∧ kvs.map (fun p => kD p.1) = ks ∧ Reps R F ws (kvs.map (·.2))
  | .d true ks ws => ∃ kvs : List (List Key × V), H a = some (.dT kvs) ∧ kvs.map (fun p => Dp.D.tup (p.1.map kD)) = ks ∧ Reps R F ws (kvs.map (·.2))
  | .i c fs => ∃ dx gs, H a = some (.ins (R.ca c) dx gs) ∧ RepF R F fs gs
section
variable {R : RC} {H H' F F' : Hp} {a : Addr} {o : Dp.Ob}
theorem ObAt.there (h : ObAt R H F a o) : ∃ u, H a = some u ∧ ¬ Tb u := by
  match o, h with
  | .l xs, ⟨vs, h, _⟩ => exact ⟨_, h, (fun ⟨_, e⟩ => nomatch e)⟩
  | .d false ks ws, ⟨kvs, h, _⟩ => exact ⟨_, h, (fun ⟨_, e⟩ => nomatch e)⟩
  | .d true ks ws, ⟨kvs, h, _⟩ => exact ⟨_, h, (fun ⟨_, e⟩ => nomatch e)⟩
  | .i c fs, ⟨dx, gs, h, _⟩ => exact ⟨_, h, (fun ⟨_, e⟩ => nomatch e)⟩
theorem ObAt.nnt (h : ObAt R H F a o) : ¬ Nt H a := fun n => by
  obtain ⟨u, e, t⟩ := h.there
  exact t (n u e)
theorem ObAt.move (h : ObAt R H F a o) (k : ∀ u, H a = some u → ¬ Tb u → H' a = some u) (s : Sub F F') : ObAt R H' F' a o := by
  match o, h with
  | .l xs, ⟨vs, h, r⟩ => exact ⟨vs, k _ h (fun ⟨_, e⟩ => nomatch e), r.sub s⟩
  | .d false ks ws, ⟨kvs, h, e, r⟩ => exact ⟨kvs, k _ h (fun ⟨_, e⟩ => nomatch e), e, r.sub s⟩
  | .d true ks ws, ⟨kvs, h, e, r⟩ => exact ⟨kvs, k _ h (fun ⟨_, e⟩ => nomatch e), e, r.sub s⟩
  | .i c fs, ⟨dx, gs, h, r⟩ => exact ⟨dx, gs, k _ h (fun ⟨_, e⟩ => nomatch e), r.sub s⟩
/-- an own object, kept from now on -/
theorem ObAt.frz (h : ObAt R H F a o) (n : F a = none) : ∃ u, H a = some u ∧ ¬ Tb u ∧ Rep R (upd F a u) (Dp.frz o) (.ref a) := by
  have s : ∀ u, Sub F (upd F a u) := fun u => Sub.upd n
  match o, h with
  | .l xs, ⟨vs, h, r⟩ => exact ⟨_, h, (fun ⟨_, e⟩ => nomatch e), a, vs, rfl, upd_same, r.sub (s _)⟩
  | .d false ks ws, ⟨kvs, h, e, r⟩ => exact ⟨_, h, (fun ⟨_, e⟩ => nomatch e), a, kvs, rfl, upd_same, e, r.sub (s _)⟩
  | .d true ks ws, ⟨kvs, h, e, r⟩ => exact ⟨_, h, (fun ⟨_, e⟩ => nomatch e), a, kvs, rfl, upd_same, e, r.sub (s _)⟩
  | .i c fs, ⟨dx, gs, h, r⟩ => exact ⟨_, h, (fun ⟨_, e⟩ => nomatch e), a, dx, gs, rfl, upd_same, r.sub (s _)⟩
end

/-- a def's run: the abstract heap at its entry, what was shared there, the object that it may change, the tables -/
structure Act where
  H0 : Hp
  F0 : Hp
  bo : Option Addr
  T : List (Addr × Str)

structure DRel (R : RC) (A : Act) (σ : St) (H F : Hp) (δ : Dp.DSt) : Prop where
  len : σ.length = δ.length
  sub : Sub F H
  old : Sub A.F0 F
  ntb : ∀ a o, F a = some o → ¬ Tb o
  sh : ∀ (i : Nat) d, δ[i]? = some (.sh d) → ∃ v, σ[i]? = some (some v) ∧ Rep R F d v
  ow : ∀ (i : Nat) o, δ[i]? = some (.ow o) → ∃ a, σ[i]? = some (some (.ref a)) ∧ F a = none ∧ Nt A.H0 a ∧ A.bo ≠ some a ∧ ObAt R H F a o
  bo : ∀ (i : Nat) o, δ[i]? = some (.bo o) → ∃ a, σ[i]? = some (some (.ref a)) ∧ A.bo = some a ∧ ObAt R H F a o
  one : ∀ (i j : Nat) o u, δ[i]? = some (.bo o) → δ[j]? = some (.bo u) → i = j
  bt : ∀ a, A.bo = some a → F a = none ∧ ¬ Nt H a
  dis : ∀ (i j : Nat) o u a, δ[i]? = some (.ow o) → δ[j]? = some (.ow u) → σ[i]? = some (some (.ref a)) → σ[j]? = some (some (.ref a)) → i = j
  base : ∀ a o, A.H0 a = some o → ¬ Tb o → A.bo ≠ some a → H a = some o
  tab : LamX.Tabs A.T H

/-- a is the object of an own slot, or the borrowed one -/
def Own (A : Act) (σ : St) (δ : Dp.DSt) (a : Addr) : Prop := A.bo = some a ∨ ∃ (i : Nat) (o : Dp.Ob), δ[i]? = some (.ow o) ∧ σ[i]? = some (some (.ref a))

structure Stp (A : Act) (σ : St) (H F : Hp) (δ : Dp.DSt) (H' F' : Hp) (δ' : Dp.DSt) : Prop where
  keep : ∀ a o, H a = some o → ¬ Tb o → ¬ Own A σ δ a → H' a = some o
  there : ∀ a, ¬ Nt H a → ¬ Nt H' a
  more : Sub F F'
  new : ∀ a o, F' a = some o → F a = some o ∨ Nt H a ∨ Own A σ δ a
  own : ∀ (i : Nat) o, δ'[i]? = some (.ow o) → ∃ u, δ[i]? = some (.ow u)
section
variable {R : RC} {A : Act} {σ : St} {H H1 H2 F F1 F2 : Hp} {δ δ1 δ2 : Dp.DSt} {a : Addr} {v : V}
theorem Stp.refl : Stp A σ H F δ H F δ := ⟨fun _ _ h _ _ => h, fun _ h => h, Sub.refl _, fun _ _ h => .inl h, fun _ o h => ⟨o, h⟩⟩
theorem Stp.ownS (s : Stp A σ H F δ H1 F1 δ1) (h : Own A σ δ1 a) : Own A σ δ a := by
  rcases h with h | ⟨i, o, e, q⟩
  · exact .inl h
  · obtain ⟨u, e'⟩ := s.own i o e
    exact .inr ⟨i, u, e', q⟩
theorem Stp.nt (s : Stp A σ H F δ H1 F1 δ1) (h : Nt H1 a) : Nt H a := Classical.byContradiction fun n => s.there a n h
theorem Stp.trans (s : Stp A σ H F δ H1 F1 δ1) (t : Stp A σ H1 F1 δ1 H2 F2 δ2) : Stp A σ H F δ H2 F2 δ2 where
  keep := fun a o h n w => t.keep a o (s.keep a o h n w) n fun z => w (s.ownS z)
  there := fun a h => t.there a (s.there a h)
  more := s.more.trans t.more
  new := fun a o h => by
    rcases t.new a o h with h | h | h
    · exact s.new a o h
    · exact .inr (.inl (s.nt h))
    · exact .inr (.inr (s.ownS h))
  own := fun i o h => by
    obtain ⟨u, e⟩ := t.own i o h
    exact s.own i u e
theorem DRel.ownS (r : DRel R A σ H F δ) (h : Own A σ δ a) : F a = none ∧ ¬ Nt H a := by
  rcases h with h | ⟨i, o, e, q⟩
  · exact r.bt a h
  · obtain ⟨b, e1, n, _, _, ob⟩ := r.ow i o e
    rw [q] at e1
    cases e1
    exact ⟨n, ob.nnt⟩
/-- nothing that is shared is own -/
theorem DRel.notOwn (r : DRel R A σ H F δ) {o : HO} (h : F a = some o) : ¬ Own A σ δ a := fun w => by
  rw [(r.ownS w).1] at h; cases h
theorem DRel.ntA (r : DRel R A σ H F δ) (h : Nt H a) : Nt A.H0 a ∧ A.bo ≠ some a := by
  have nb : A.bo ≠ some a := fun e => (r.bt a e).2 h
  refine ⟨fun o e => ?_, nb⟩
  refine Classical.byContradiction fun n => ?_
  exact n (h o (r.base a o e n nb))

/-! ### results -/
/-- Hp: the heap ahead of the evaluation -/
def RelRV (R : RC) (A : Act) (σ : St) (Hp0 H F : Hp) (δ : Dp.DSt) (v : V) : Dp.RV → Prop
  | .val d => Rep R F d v
  | .fr o => ∃ a, v = .ref a ∧ Nt Hp0 a ∧ F a = none ∧ ¬ Own A σ δ a ∧ ObAt R H F a o
  | .bor i => σ[i]? = some (some v)
theorem RelRV.step {r : Dp.RV} {Hq : Hp} (h : RelRV R A σ Hq H F δ v r) (s : Stp A σ H F δ H1 F1 δ1) : RelRV R A σ Hq H1 F1 δ1 v r := by
  cases r with
  | val d => exact Rep.sub s.more h
  | bor i => exact h
  | fr o =>
    obtain ⟨a, e, n, f, w, ob⟩ := h
    refine ⟨a, e, n, ?_, fun z => w (s.ownS z), ob.move (fun u hu t => s.keep a u hu t w) s.more⟩
    cases q : F1 a with
    | none => rfl
    | some u =>
      rcases s.new a u q with z | z | z
      · rw [f] at z; cases z
      · exact absurd z ob.nnt
      · exact absurd z w
theorem RelRV.back {r : Dp.RV} {Hq Hr : Hp} (h : RelRV R A σ Hq H F δ v r) (k : ∀ a, Nt Hq a → Nt Hr a) : RelRV R A σ Hr H F δ v r := by
  cases r with
  | val d => exact h
  | bor i => exact h
  | fr o =>
    obtain ⟨a, e, n, f, w, ob⟩ := h
    exact ⟨a, e, k a n, f, w, ob⟩

/-- looked at: its top from H, its parts from F -/
def PRep (R : RC) (H F : Hp) : Dp.D → V → Prop
  | .lst xs, v => ∃ a vs, v = .ref a ∧ H a = some (.lst vs) ∧ Reps R F xs vs
  | .dct false ks ws, v => ∃ a, ∃ kvs : List (Key × V), v = .ref a ∧ H a = some (.dK kvs) ∧ kvs.map (fun p => kD p.1) = ks ∧ Reps R F ws (kvs.map (·.2))
  | .dct true ks ws, v => ∃ a, ∃ kvs : List (List Key × V), v = .ref a ∧ H a = some (.dT kvs) ∧ kvs.map (fun p => Dp.D.tup (p.1.map kD)) = ks ∧ Reps R F ws (kvs.map (·.2))
  | .obj c fs, v => ∃ a dx gs, v = .ref a ∧ H a = some (.ins (R.ca c) dx gs) ∧ RepF R F fs gs
  | d, v => Rep R F d v
theorem Rep.peek {d : Dp.D} (h : Rep R F d v) (s : Sub F H) : PRep R H F d v := by
  match d, h with
  | .non, h => exact h
  | .bl b, h => exact h
  | .int b, h => exact h
  | .str b, h => exact h
  | .tup b, h => exact h
  | .lst xs, ⟨a, vs, e, h1, h2⟩ => exact ⟨a, vs, e, s _ _ h1, h2⟩
  | .dct false ks ws, ⟨a, kvs, e, h1, h2, h3⟩ => exact ⟨a, kvs, e, s _ _ h1, h2, h3⟩
  | .dct true ks ws, ⟨a, kvs, e, h1, h2, h3⟩ => exact ⟨a, kvs, e, s _ _ h1, h2, h3⟩
  | .set b, h => exact h
  | .obj c fs, ⟨a, dx, gs, e, h1, h2⟩ => exact ⟨a, dx, gs, e, s _ _ h1, h2⟩
  | .fn b, h => exact h
  | .scr b, h => exact h
  | .kt b, h => exact h
theorem ObAt.peek {o : Dp.Ob} (h : ObAt R H F a o) : PRep R H F (Dp.frz o) (.ref a) := by
  match o, h with
  | .l xs, ⟨vs, h, r⟩ => exact ⟨a, vs, rfl, h, r⟩
  | .d false ks ws, ⟨kvs, h, e, r⟩ => exact ⟨a, kvs, rfl, h, e, r⟩
  | .d true ks ws, ⟨kvs, h, e, r⟩ => exact ⟨a, kvs, rfl, h, e, r⟩
  | .i c fs, ⟨dx, gs, h, r⟩ => exact ⟨a, dx, gs, rfl, h, r⟩
theorem RelRV.peek {r : Dp.RV} {Hq : Hp} {d : Dp.D} (h : RelRV R A σ Hq H F δ v r) (q : DRel R A σ H F δ) (e : Dp.peek r δ = some d) : PRep R H F d v := by
  cases r with
  | val d' =>
    cases e
    exact Rep.peek h q.sub
  | fr o =>
    obtain ⟨a, rfl, _, _, _, ob⟩ := h
    cases e
    exact ob.peek
  | bor i =>
    have h : σ[i]? = some (some v) := h
    simp only [Dp.peek] at e
    cases z : δ[i]? with
    | none => rw [z] at e; cases e
    | some s =>
      rw [z] at e
      cases s with
      | un => cases e
      | sh d' =>
        cases e
        obtain ⟨v', e1, r1⟩ := q.sh i d z
        rw [h] at e1
        cases e1
        exact Rep.peek r1 q.sub
      | ow o =>
        cases e
        obtain ⟨a, e1, _, _, _, ob⟩ := q.ow i o z
        rw [h] at e1
        cases e1
        exact ob.peek
      | bo o =>
        cases e
        obtain ⟨a, e1, _, ob⟩ := q.bo i o z
        rw [h] at e1
        cases e1
        exact ob.peek
end

/-! ### what grows: objects laid, none changed -/
structure Grow (A : Act) (H F H' F' : Hp) : Prop where
  keep : ∀ a o, H a = some o → ¬ Tb o → H' a = some o
  more : Sub F F'
  new : ∀ a o, F' a = some o → F a = some o ∨ (Nt H a ∧ ¬ Tb o ∧ H' a = some o)
  tab : LamX.Tabs A.T H'
section
variable {R : RC} {A : Act} {σ : St} {H H1 H2 F F1 F2 : Hp} {δ δ1 δ2 : Dp.DSt} {a p : Addr} {v : V} {o : HO}
theorem Grow.there (g : Grow A H F H1 F1) (h : ¬ Nt H a) : ¬ Nt H1 a := fun n => h fun o e => Classical.byContradiction fun t => t (n o (g.keep a o e t))
theorem Grow.rel (g : Grow A H F H1 F1) (r : DRel R A σ H F δ) : DRel R A σ H1 F1 δ where
  len := r.len
  sub := fun a o h => by
    rcases g.new a o h with z | ⟨_, _, z⟩
    · exact g.keep a o (r.sub a o z) (r.ntb a o z)
    · exact z
  old := r.old.trans g.more
  ntb := fun a o h => by
    rcases g.new a o h with z | ⟨_, z, _⟩
    · exact r.ntb a o z
    · exact z
  sh := fun i d h => by
    obtain ⟨v, e, q⟩ := r.sh i d h
    exact ⟨v, e, q.sub g.more⟩
  ow := fun i o h => by
    obtain ⟨a, e, n, n0, nb, ob⟩ := r.ow i o h
    refine ⟨a, e, ?_, n0, nb, ob.move (fun u hu t => g.keep a u hu t) g.more⟩
    cases q : F1 a with
    | none => rfl
    | some u =>
      rcases g.new a u q with z | ⟨z, _, _⟩
      · rw [n] at z; cases z
      · exact absurd z ob.nnt
  bo := fun i o h => by
    obtain ⟨a, e, n, ob⟩ := r.bo i o h
    exact ⟨a, e, n, ob.move (fun u hu t => g.keep a u hu t) g.more⟩
  one := r.one
  bt := fun a h => by
    obtain ⟨n, t⟩ := r.bt a h
    refine ⟨?_, g.there t⟩
    cases q : F1 a with
    | none => rfl
    | some u =>
      rcases g.new a u q with z | ⟨z, _, _⟩
      · rw [n] at z; cases z
      · exact absurd z t
  dis := r.dis
  base := fun a o h t n => g.keep a o (r.base a o h t n) t
  tab := g.tab
theorem Grow.step (g : Grow A H F H1 F1) : Stp A σ H F δ H1 F1 δ :=
  ⟨fun a o h t _ => g.keep a o h t, fun a h => g.there h, g.more, fun a o h => (g.new a o h).elim .inl fun z => .inr (.inl z.1), fun _ o h => ⟨o, h⟩⟩
theorem Grow.refl (t : LamX.Tabs A.T H) : Grow A H F H F := ⟨fun _ _ h _ => h, Sub.refl _, fun _ _ h => .inl h, t⟩
theorem Grow.trans (g : Grow A H F H1 F1) (k : Grow A H1 F1 H2 F2) : Grow A H F H2 F2 where
  keep := fun a o h t => k.keep a o (g.keep a o h t) t
  more := g.more.trans k.more
  new := fun a o h => by
    rcases k.new a o h with z | ⟨z, t, e⟩
    · rcases g.new a o z with z | ⟨z1, t, e⟩
      · exact .inl z
      · exact .inr ⟨z1, t, k.keep a o e t⟩
    · exact .inr ⟨Classical.byContradiction fun n => g.there n z, t, e⟩
  tab := k.tab
/-- an object laid, shared -/
theorem Grow.laid (t : LamX.Tabs A.T H) (hp : H p = none) (s : Sub F H) (n : ¬ Tb o) : Grow A H F (upd H p o) (upd F p o) where
  keep := fun a u h _ => by rw [upd_ne (ne_of_none h hp)]; exact h
  more := Sub.upd (by
    cases q : F p with
    | none => rfl
    | some u => rw [s p u q] at hp; cases hp)
  new := fun a u h => by
    by_cases e : a = p
    · subst e
      rw [upd_same] at h
      cases h
      exact .inr ⟨Nt.of_none hp, n, upd_same⟩
    · rw [upd_ne e] at h
      exact .inl h
  tab := t.ext fun b u h => by rw [upd_ne (ne_of_none h hp)]; exact h
/-- an object laid, own -/
theorem Grow.fresh (t : LamX.Tabs A.T H) (hp : H p = none) : Grow A H F (upd H p o) F where
  keep := fun a u h _ => by rw [upd_ne (ne_of_none h hp)]; exact h
  more := Sub.refl _
  new := fun a u h => .inl h
  tab := t.ext fun b u h => by rw [upd_ne (ne_of_none h hp)]; exact h
/-- a result behind operators, by values -/
def ResR (R : RC) (H H' F' : Hp) (v : V) : Dp.RV → Prop
  | .val d => Rep R F' d v
  | .fr o => ∃ a, v = .ref a ∧ Nt H a ∧ F' a = none ∧ ObAt R H' F' a o
  | .bor _ => False
theorem ResR.rel {r : Dp.RV} {Hq : Hp} (h : ResR R H H1 F1 v r) (q : DRel R A σ H F δ) (k : ∀ a, Nt H a → Nt Hq a) : RelRV R A σ Hq H1 F1 δ v r := by
  cases r with
  | val d => exact h
  | bor i => exact h.elim
  | fr o =>
    obtain ⟨a, e, n, f, ob⟩ := h
    exact ⟨a, e, k a n, f, fun w => (q.ownS w).2 n, ob⟩

/-! ### keeping a value -/
theorem frz_rel {u : HO} (q : DRel R A σ H F δ) (hu : H a = some u) (ht : ¬ Tb u) (hf : F a = none) (hb : A.bo ≠ some a) (no : ∀ (i : Nat) o, δ1[i]? = some (.ow o) → δ[i]? = some (.ow o) ∧ σ[i]? ≠ some (some (.ref a))) (nb : ∀ (i : Nat) o, δ1[i]? = some (.bo o) → δ[i]? = some (.bo o))
    (ns : ∀ (i : Nat) d, δ1[i]? = some (.sh d) → (∃ v, σ[i]? = some (some v) ∧ Rep R (upd F a u) d v)) (hl : δ1.length = δ.length) : DRel R A σ H (upd F a u) δ1 where
  len := q.len.trans hl.symm
  sub := fun b o h => by
    by_cases e : b = a
    · subst e
      rw [upd_same] at h
      cases h
      exact hu
    · rw [upd_ne e] at h
      exact q.sub b o h
  old := q.old.trans (Sub.upd hf)
  ntb := fun b o h => by
    by_cases e : b = a
    · subst e
      rw [upd_same] at h
      cases h
      exact ht
    · rw [upd_ne e] at h
      exact q.ntb b o h
  sh := ns
  ow := fun i o h => by
    obtain ⟨h1, h2⟩ := no i o h
    obtain ⟨b, e, n, n0, nb, ob⟩ := q.ow i o h1
    have ne : b ≠ a := fun z => h2 (by rw [e, z])
    exact ⟨b, e, by rw [upd_ne ne]; exact n, n0, nb, ob.move (fun _ h _ => h) (Sub.upd hf)⟩
  bo := fun i o h => by
    obtain ⟨b, e, n, ob⟩ := q.bo i o (nb i o h)
    exact ⟨b, e, n, ob.move (fun _ h _ => h) (Sub.upd hf)⟩
  one := fun i j o u h1 h2 => q.one i j o u (nb i o h1) (nb j u h2)
  bt := fun b h => by
    obtain ⟨n, t⟩ := q.bt b h
    have ne : b ≠ a := fun z => hb (by rw [h, z])
    exact ⟨by rw [upd_ne ne]; exact n, t⟩
  dis := fun i j o u b h1 h2 => q.dis i j o u b (no i o h1).1 (no j u h2).1
  base := q.base
  tab := q.tab
theorem use_rel {r : Dp.RV} {Hq : Hp} {d : Dp.D} {δ' : Dp.DSt} (h : RelRV R A σ Hq H F δ v r) (q : DRel R A σ H F δ) (e : Dp.use r δ = some (d, δ')) (k : ∀ a, Nt Hq a → Nt A.H0 a ∧ A.bo ≠ some a) :
    ∃ F', DRel R A σ H F' δ' ∧ Rep R F' d v ∧ Sub F F' ∧ (∀ a o, F' a = some o → F a = some o ∨ Nt Hq a ∨ Own A σ δ a) ∧ ∀ (i : Nat) o, δ'[i]? = some (.ow o) → ∃ u, δ[i]? = some (.ow u) := by
  cases r with
  | val d' =>
    cases e
    exact ⟨F, q, h, Sub.refl _, fun _ _ h => .inl h, fun _ o h => ⟨o, h⟩⟩
  | fr o =>
    obtain ⟨a, rfl, n, f, w, ob⟩ := h
    cases e
    obtain ⟨u, hu, ht, rp⟩ := ob.frz f
    refine ⟨upd F a u, frz_rel q hu ht f (k a n).2 (fun i o h => ⟨h, fun z => w (.inr ⟨i, o, h, z⟩)⟩) (fun i o h => h) (fun i d h => ?_) rfl, rp, Sub.upd f, fun b o h => ?_, fun _ o h => ⟨o, h⟩⟩
    · obtain ⟨v, e1, r1⟩ := q.sh i d h
      exact ⟨v, e1, r1.sub (Sub.upd f)⟩
    · by_cases e : b = a
      · subst e
        exact .inr (.inl n)
      · rw [upd_ne e] at h
        exact .inl h
  | bor i =>
    have h : σ[i]? = some (some v) := h
    simp only [Dp.use] at e
    cases z : δ[i]? with
    | none => rw [z] at e; cases e
    | some s =>
      rw [z] at e
      cases s with
      | un => cases e
      | sh d' =>
        cases e
        obtain ⟨v', e1, r1⟩ := q.sh i d z
        rw [h] at e1
        cases e1
        exact ⟨F, q, r1, Sub.refl _, fun _ _ h => .inl h, fun _ o h => ⟨o, h⟩⟩
      | bo o => cases e
      | ow o =>
        cases e
        obtain ⟨a, e1, n, n0, nb, ob⟩ := q.ow i o z
        rw [h] at e1
        cases e1
        obtain ⟨u, hu, ht, rp⟩ := ob.frz n
        have hi : i < δ.length := (List.getElem?_eq_some_iff.mp z).1
        refine ⟨upd F a u, frz_rel q hu ht n nb (fun j w hj => ?_) (fun j w hj => ?_) (fun j d hj => ?_) (List.length_set ..), rp, Sub.upd n, fun b w hb => ?_, fun j w hj => ?_⟩
        · by_cases ij : i = j
          · subst ij
            rw [List.getElem?_set_self hi] at hj
            cases hj
          · rw [List.getElem?_set_ne ij] at hj
            exact ⟨hj, fun y => ij (q.dis i j o w a z hj h y)⟩
        · by_cases ij : i = j
          · subst ij
            rw [List.getElem?_set_self hi] at hj
            cases hj
          · rw [List.getElem?_set_ne ij] at hj
            exact hj
        · by_cases ij : i = j
          · subst ij
            rw [List.getElem?_set_self hi] at hj
            cases hj
            exact ⟨_, h, rp⟩
          · rw [List.getElem?_set_ne ij] at hj
            obtain ⟨v, e1, r1⟩ := q.sh j d hj
            exact ⟨v, e1, r1.sub (Sub.upd n)⟩
        · by_cases e : b = a
          · subst e
            exact .inr (.inr (.inr ⟨i, o, z, h⟩))
          · rw [upd_ne e] at hb
            exact .inl hb
        · by_cases ij : i = j
          · subst ij
            rw [List.getElem?_set_self hi] at hj
            cases hj
          · rw [List.getElem?_set_ne ij] at hj
            exact ⟨w, hj⟩
end
end DpS
end

section
set_option Elab.async false
set_option linter.all false
set_option maxRecDepth 100000
set_option maxHeartbeats 4000000
set_option autoImplicit false
/-! DpB3: what an evaluation asks (Post), binding, operators by values. -/
namespace DpS
open PySem PySem.Spec L2

/-- an exception's dict stands -/
def XD (dx : Option Addr) (H : Hp) : Prop := ∀ d, dx = some d → ∃ fs, H d = some (.xd fs)
theorem XD.none {H : Hp} : XD none H := fun _ h => nomatch h
theorem XD.move {dx : Option Addr} {H H' : Hp} (h : XD dx H) (k : ∀ b o, H b = some o → H' b = some o) : XD dx H' := fun d e => by
  obtain ⟨fs, h⟩ := h d e
  exact ⟨fs, k _ _ h⟩
/-- an exception in the air -/
def XRel (R : RC) (x : Dp.Exc) (c : Value) (dx : Option Addr) (H F : Hp) : Prop := c = .ref (R.ca x.cls) ∧ XD dx H

section
variable (R : RC) (A : Act) (W : WX)
/-- what is wanted of the outcome of an evaluation that began at (σ, H, F, δ) -/
def Post {α β : Type} (Rl : St → Hp → Hp → Hp → Dp.DSt → α → β → Prop) (σ : St) (H F : Hp) (δ : Dp.DSt) (out : Dp.Out α) (Q : β → Hp → Prop) : Prop :=
  match out with
  | .ok a δ' => ∀ b H' F', DRel R A σ H' F' δ' → Stp A σ H F δ H' F' δ' → Rl σ H H' F' δ' a b → Q b H'
  | .exc x δ' => ∀ H' F' c dx, DRel R A σ H' F' δ' → Stp A σ H F δ H' F' δ' → XRel R x c dx H' F' → W c dx σ H'
  | .stuck => False
def tP {α β : Type} (Rl : St → Hp → Hp → Hp → Dp.DSt → α → β → Prop) (f : Dp.DSt → Dp.Out α) : St → Hp → (β → Hp → Prop) → Prop := fun σ H Q =>
  ∃ F δ, DRel R A σ H F δ ∧ Post R A W Rl σ H F δ (f δ) Q
def RlE (σ : St) (Hq H F : Hp) (δ : Dp.DSt) (r : Dp.RV) (v : V) : Prop := RelRV R A σ Hq H F δ v r
def RlD (σ : St) (Hq H F : Hp) (δ : Dp.DSt) (d : Dp.D) (v : V) : Prop := Rep R F d v
def RlA (σ : St) (Hq H F : Hp) (δ : Dp.DSt) (ds : List Dp.D) (vs : List V) : Prop := Reps R F ds vs
def RlT (σ : St) (Hq H F : Hp) (δ : Dp.DSt) (a b : Bool) : Prop := a = b
abbrev tE (f : Dp.DSt → Dp.Out Dp.RV) : TE := tP R A W (RlE R A) f
abbrev tD (f : Dp.DSt → Dp.Out Dp.D) : TE := tP R A W (RlD R) f
abbrev tA (f : Dp.DSt → Dp.Out (List Dp.D)) : TA := tP R A W (RlA R) f
abbrev tT (f : Dp.DSt → Dp.Out Bool) : TT := tP R A W RlT f
end

section
variable {R : RC} {A : Act} {W : WX} {α β γ ε : Type} {σ : St} {H H1 H2 F F1 F2 : Hp} {δ δ1 δ2 : Dp.DSt} {v : V} {Q : VK} {p : Addr} {o : HO}
/-- a relation that may begin earlier -/
def Back (Rl : St → Hp → Hp → Hp → Dp.DSt → α → β → Prop) : Prop := ∀ σ Hq Hr H F δ a b, (∀ x, Nt Hq x → Nt Hr x) → Rl σ Hq H F δ a b → Rl σ Hr H F δ a b
theorem back_E : Back (RlE R A) := fun _ _ _ _ _ _ _ _ k h => RelRV.back h k
theorem back_D : Back (RlD R) := fun _ _ _ _ _ _ _ _ _ h => h
theorem back_A : Back (RlA R) := fun _ _ _ _ _ _ _ _ _ h => h
theorem back_T : Back RlT := fun _ _ _ _ _ _ _ _ _ h => h
theorem Post.imp {Rl : St → Hp → Hp → Hp → Dp.DSt → α → β → Prop} {out : Dp.Out α} {Q Q' : β → Hp → Prop} (h : Post R A W Rl σ H F δ out Q) (k : ∀ b H', Q b H' → Q' b H') : Post R A W Rl σ H F δ out Q' := by
  cases out with
  | ok a s => exact fun b H' F' q st r => k b H' (h b H' F' q st r)
  | exc x s => exact h
  | stuck => exact h
theorem Post.rebase {Rl : St → Hp → Hp → Hp → Dp.DSt → α → β → Prop} {out : Dp.Out α} {Q : β → Hp → Prop} (hb : Back Rl) (st : Stp A σ H F δ H1 F1 δ1) (h : Post R A W Rl σ H F δ out Q) : Post R A W Rl σ H1 F1 δ1 out Q := by
  cases out with
  | ok a s => exact fun b H' F' q st' r => h b H' F' q (st.trans st') (hb _ _ _ _ _ _ _ _ (fun _ n => st.nt n) r)
  | exc x s => exact fun H' F' c dx q st' r => h H' F' c dx q (st.trans st') r
  | stuck => exact h
theorem Post.bind {Rl : St → Hp → Hp → Hp → Dp.DSt → α → β → Prop} {Rm : St → Hp → Hp → Hp → Dp.DSt → γ → ε → Prop} {out : Dp.Out α} {g : α → Dp.DSt → Dp.Out γ} {Q : ε → Hp → Prop} {Q1 : β → Hp → Prop} (hb : Back Rm) (h : Post R A W Rm σ H F δ (out.bind g) Q)
    (k : ∀ b H1 F1 a δ1, out = .ok a δ1 → DRel R A σ H1 F1 δ1 → Stp A σ H F δ H1 F1 δ1 → Rl σ H H1 F1 δ1 a b → Post R A W Rm σ H1 F1 δ1 (g a δ1) Q → Q1 b H1) : Post R A W Rl σ H F δ out Q1 := by
  cases out with
  | ok a s => exact fun b H' F' q st r => k b H' F' a s rfl q st r (Post.rebase hb st h)
  | exc x s => exact h
  | stuck => exact h
theorem tP.bind {Rl : St → Hp → Hp → Hp → Dp.DSt → α → β → Prop} {Rm : St → Hp → Hp → Hp → Dp.DSt → γ → ε → Prop} {f : Dp.DSt → Dp.Out α} {g : α → Dp.DSt → Dp.Out γ} {Q : ε → Hp → Prop} {Q1 : β → Hp → Prop} (hb : Back Rm)
    (h : tP R A W Rm (fun δ => (f δ).bind g) σ H Q)
    (k : ∀ b H1 F1 a δ1, DRel R A σ H1 F1 δ1 → (∀ x, Nt H1 x → Nt H x) → Rl σ H H1 F1 δ1 a b → Post R A W Rm σ H1 F1 δ1 (g a δ1) Q → Q1 b H1) : tP R A W Rl f σ H Q1 := by
  obtain ⟨F, δ, q, h⟩ := h
  exact ⟨F, δ, q, h.bind hb fun b H1 F1 a δ1 _ q1 st rr p => k b H1 F1 a δ1 q1 (fun _ n => st.nt n) rr p⟩
theorem Post.tP {Rl : St → Hp → Hp → Hp → Dp.DSt → α → β → Prop} {f : Dp.DSt → Dp.Out α} {Q : β → Hp → Prop} (q : DRel R A σ H F δ) (h : Post R A W Rl σ H F δ (f δ) Q) : tP R A W Rl f σ H Q := ⟨F, δ, q, h⟩

/-- the end of an operator: a result by values -/
def Fin (R : RC) (A : Act) (H F : Hp) (r : Dp.RV) (Q : VK) : Prop := ∀ v H' F', Grow A H F H' F' → ResR R H H' F' v r → Q v H'
theorem Post.fin {r : Dp.RV} (q : DRel R A σ H F δ) (h : Post R A W (RlE R A) σ H F δ (.ok r δ) Q) : Fin R A H F r Q := fun v H' F' g rr =>
  h v H' F' (g.rel q) g.step (rr.rel q fun _ n => n)
theorem Post.lift {d : Option Dp.RV} (q : DRel R A σ H F δ) (h : Post R A W (RlE R A) σ H F δ (Dp.Out.lift δ d) Q) : ∃ r, d = some r ∧ Fin R A H F r Q := by
  cases d with
  | none => exact h.elim
  | some r => exact ⟨r, rfl, Post.fin q h⟩
theorem Fin.val {d : Dp.D} (f : Fin R A H F (.val d) Q) (t : LamX.Tabs A.T H) (r : Rep R F d v) : Q v H := f v H F (Grow.refl t) r
theorem Fin.tup {ds : List Dp.D} {vs : List V} (f : Fin R A H F (.val (.tup ds)) Q) (t : LamX.Tabs A.T H) (s : Sub F H) (r : Reps R F ds vs) : ∀ p, H p = none → Q (.ref p) (upd H p (.tup vs)) := fun p hp =>
  have g := Grow.laid (A := A) (o := .tup vs) t hp s (fun ⟨_, e⟩ => nomatch e)
  f _ _ _ g ⟨p, vs, rfl, upd_same, r.sub g.more⟩
theorem Fin.lst {ds : List Dp.D} {vs : List V} (f : Fin R A H F (.fr (.l ds)) Q) (t : LamX.Tabs A.T H) (s : Sub F H) (r : Reps R F ds vs) : ∀ p, H p = none → Q (.ref p) (upd H p (.lst vs)) := fun p hp => by
  refine f _ _ _ (Grow.fresh (A := A) (o := .lst vs) t hp) ⟨p, rfl, Nt.of_none hp, ?_, vs, upd_same, r⟩
  cases q : F p with
  | none => rfl
  | some u => rw [s p u q] at hp; cases hp

/-! ### operators by values -/
theorem sizeL : Dp.sizeLine = PySem.sizeLine := by decide +kernel
theorem strLen (s : List Nat) : (⟨s.toArray⟩ : Str).length = s.length := List.size_toArray
theorem strApp (s t : List Nat) : (⟨s.toArray⟩ : Str) ++ (⟨t.toArray⟩ : Str) = ⟨(s ++ t).toArray⟩ := by
  show (⟨s.toArray ++ t.toArray⟩ : Str) = _
  rw [List.append_toArray]
/-- a union of two readings of operators -/
abbrev orR (r s : R2) : R2 := fun x y H Q => r x y H Q ∨ s x y H Q
def rAdd (K : PySem.W.Frag) : R2 := orR (rI0 fun i j => .int (i + j)) (orR (fun x y H Q => ∃ i j, x = .str i ∧ y = .str j ∧ i.length + j.length ≤ sizeLine ∧ Q (.str (i ++ j)) H) (orR (rCatA K) rCat))
theorem op_addAll {X : Cx} : OpR X (binaryOp .Add) (rAdd X.K) := op_add.or (op_add_str.or (op_catA.or op_cat))
theorem Reps.nil_iff {ds : List Dp.D} {vs : List V} (h : Reps R F ds vs) : vs = [] ↔ ds = [] := by
  have := h.length
  rw [← List.length_eq_zero_iff, ← List.length_eq_zero_iff, this]
theorem add_ok {x y : V} {d e : Dp.D} {r : Dp.RV} (q : DRel R A σ H F δ) (hx : PRep R H F d x) (hy : PRep R H F e y) (h : Dp.binD .add d e = some r) (f : Fin R A H F r Q) : rAdd R.K x y H Q := by
  cases d with
  | int i => cases e with
    | int j =>
      cases h
      exact .inl ⟨i, j, hx, hy, f.val q.tab rfl⟩
    | _ => cases h
  | str s => cases e with
    | str t =>
      rw [Dp.binD] at h
      split at h
      · rename_i hz
        cases h
        refine .inr (.inl ⟨_, _, hx, hy, ?_, f.val q.tab ?_⟩)
        · rw [strLen, strLen, ← sizeL]; exact hz
        · rw [strApp]; rfl
      · cases h
    | _ => cases h
  | tup xs => cases e with
    | tup ys =>
      obtain ⟨a, vs, e1, h1, r1⟩ := hx
      obtain ⟨b, ws, e2, h2, r2⟩ := hy
      rw [Dp.binD] at h
      split at h
      · rename_i hz
        cases h
        refine .inr (.inr (.inl ⟨a, b, vs, ws, e1, e2, SqT.of (q.sub _ _ h1), SqT.of (q.sub _ _ h2), ?_, fun z => ?_, fun _ z => ?_, fun _ _ => f.tup q.tab q.sub (r1.append r2)⟩))
        · rw [r1.length, r2.length, ← sizeL]; exact hz
        · have z' := r1.nil_iff.mp z
          subst z'
          exact f.val q.tab ⟨b, ws, rfl, h2, r2⟩
        · have z' := r2.nil_iff.mp z
          subst z'
          rw [List.append_nil] at f
          exact f.val q.tab ⟨a, vs, rfl, h1, r1⟩
      · cases h
    | _ => cases h
  | lst xs => cases e with
    | lst ys =>
      obtain ⟨a, vs, e1, h1, r1⟩ := hx
      obtain ⟨b, ws, e2, h2, r2⟩ := hy
      rw [Dp.binD] at h
      split at h
      · rename_i hz
        cases h
        refine .inr (.inr (.inr ⟨a, b, vs, ws, e1, e2, h1, h2, ?_, f.lst q.tab q.sub (r1.append r2)⟩))
        rw [r1.length, r2.length, ← sizeL]; exact hz
      · cases h
    | _ => cases h
  | _ => cases h
theorem sub_ok {x y : V} {d e : Dp.D} {r : Dp.RV} (q : DRel R A σ H F δ) (hx : PRep R H F d x) (hy : PRep R H F e y) (h : Dp.binD .sub d e = some r) (f : Fin R A H F r Q) : rI0 (fun i j => .int (i - j)) x y H Q := by
  cases d with
  | int i => cases e with
    | int j =>
      cases h
      exact ⟨i, j, hx, hy, f.val q.tab rfl⟩
    | _ => cases h
  | _ => cases h
/-- a text times an int -/
def rMulS : R2 := fun x y H Q => ∃ s j, x = .str s ∧ y = .int j ∧ MulOk s j ∧ Q (.str (Txt.mul s j)) H
theorem op_mulS {X : Cx} : OpR X (binaryOp .Mult) rMulS := by
  intro pins s σ H x y v u Q I rx ry ⟨z, j, e1, e2, ok, q⟩
  subst e1 e2
  obtain ⟨t, rfl⟩ := rx
  obtain ⟨t', rfl⟩ := ry
  exact SB.mul ok fun t'' k => ⟨.str (Txt.mul z j), H, I.tok _, ⟨_, rfl⟩, q⟩
theorem foldl_app (a : List Nat) : ∀ (n : Nat) (acc : Array Nat), ((List.replicate n a.toArray).foldl (· ++ ·) acc) = (acc.toList ++ (List.replicate n a).flatten).toArray
  | 0, acc => by simp
  | n + 1, acc => by
    rw [List.replicate_succ, List.foldl_cons, foldl_app a n, List.replicate_succ, List.flatten_cons]
    simp
theorem mulS_eq {s : List Nat} {j : Int} (h1 : 1 ≤ j) : Txt.mul ⟨s.toArray⟩ j = ⟨((List.replicate j.toNat s).flatten).toArray⟩ := by
  unfold Txt.mul
  rw [if_neg (by omega)]
  split
  · rename_i h
    rw [Bool.or_eq_true] at h
    rcases h with h | h
    · have : j = 1 := by simpa using h
      subst this
      show _ = (⟨((List.replicate 1 s).flatten).toArray⟩ : Str)
      simp
    · have : s = [] := by
        have h := beq_iff_eq.mp h
        rw [strLen] at h
        exact List.length_eq_zero_iff.mp h
      subst this
      congr 1
      simp
  · have := foldl_app s j.toNat #[]
    show (⟨(List.replicate j.toNat s.toArray).foldl (· ++ ·) #[]⟩ : Str) = _
    rw [this]
    simp
theorem mulS_ok {s : List Nat} {j : Int} (h1 : 1 ≤ j) (h2 : j ≤ 1000) (h3 : s.length ≤ 1000) : MulOk ⟨s.toArray⟩ j := by
  have hp : s.length * j.toNat ≤ 1000 * 1000 := Nat.mul_le_mul h3 (by omega)
  refine ⟨?_, fun _ _ z => ?_, fun _ _ => ?_⟩
  · rw [Bool.or_eq_false_iff, decide_eq_false_iff_not, decide_eq_false_iff_not]
    omega
  · rw [strLen] at z
    have : (9223372036854775807 : Int) / 1000 ≤ (2 ^ 63 - 1) / j := by
      refine Int.le_ediv_of_mul_le (by omega) ?_
      have : (9223372036854775807 : Int) / 1000 * j ≤ 9223372036854775 * 1000 := by
        have e : (9223372036854775807 : Int) / 1000 = 9223372036854775 := by decide
        rw [e]
        exact Int.mul_le_mul_of_nonneg_left h2 (by decide)
      omega
    have e : (9223372036854775807 : Int) / 1000 = 9223372036854775 := by decide
    rw [e] at this
    omega
  · rw [strLen]
    refine decide_eq_false (fun z => ?_)
    have : (sizeLine : Nat) = 16777216 := by rw [← sizeL]; rfl
    omega
def rMul (K : PySem.W.Frag) : R2 := orR (rI CMul fun i j => .int (i * j)) (orR (rI CMulW fun i j => .int (i * j)) (orR rRep (orR (rRepT K) rMulS)))
theorem op_mulAll {X : Cx} : OpR X (binaryOp .Mult) (rMul X.K) := op_mul.or (op_mulW.or (op_rep.or (op_repT.or op_mulS)))
theorem mul_ok {x y : V} {d e : Dp.D} {r : Dp.RV} (q : DRel R A σ H F δ) (hx : PRep R H F d x) (hy : PRep R H F e y) (h : Dp.binD .mul d e = some r) (f : Fin R A H F r Q) : rMul R.K x y H Q := by
  cases d with
  | int i => cases e with
    | int j =>
      rw [Dp.binD] at h
      split at h
      · rename_i hz
        cases h
        rw [Bool.or_eq_true, Bool.or_eq_true] at hz
        rcases hz with (hz | hz) | hz
        · exact .inl ⟨i, j, hx, hy, .inl (of_decide_eq_true hz), f.val q.tab rfl⟩
        · exact .inl ⟨i, j, hx, hy, .inr (of_decide_eq_true hz), f.val q.tab rfl⟩
        · exact .inr (.inl ⟨i, j, hx, hy, of_decide_eq_true (p := i.natAbs.log2 + j.natAbs.log2 < 1000000) hz, f.val q.tab rfl⟩)
      · cases h
    | _ => cases h
  | lst xs => cases e with
    | int j =>
      obtain ⟨a, vs, e1, h1, r1⟩ := hx
      rw [Dp.binD] at h
      split at h
      · rename_i hz
        cases h
        refine .inr (.inr (.inl ⟨a, j, vs, e1, hy, h1, hz.2.1, hz.2.2, ?_, f.lst q.tab q.sub (r1.rep _)⟩))
        rw [r1.length, ← sizeL]; exact hz.1
      · cases h
    | _ => cases h
  | tup xs => cases e with
    | int j =>
      obtain ⟨a, vs, e1, h1, r1⟩ := hx
      rw [Dp.binD] at h
      split at h
      · rename_i hz
        cases h
        refine .inr (.inr (.inr (.inl ⟨a, j, vs, e1, hy, SqT.of (q.sub _ _ h1), fun z => ?_, hz.2.1, hz.2.2.1, ?_, f.tup q.tab q.sub (r1.rep _)⟩)))
        · rw [r1.nil_iff.mp z] at hz
          exact absurd hz.1 (by simp)
        · rw [r1.length]; exact hz.2.2.2
      · cases h
    | _ => cases h
  | str s => cases e with
    | int j =>
      rw [Dp.binD] at h
      split at h
      · rename_i hz
        cases h
        refine .inr (.inr (.inr (.inr ⟨_, j, hx, hy, mulS_ok hz.1 hz.2.1 hz.2.2, ?_⟩)))
        rw [mulS_eq hz.1]
        exact f.val q.tab rfl
      · cases h
    | _ => cases h
  | _ => cases h
theorem fdiv_ok {x y : V} {d e : Dp.D} {r : Dp.RV} (q : DRel R A σ H F δ) (hx : PRep R H F d x) (hy : PRep R H F e y) (h : Dp.binD .fdiv d e = some r) (f : Fin R A H F r Q) : rI CDivW (fun i j => .int (i / j)) x y H Q := by
  cases d with
  | int i => cases e with
    | int j =>
      rw [Dp.binD] at h
      split at h
      · rename_i hz
        cases h
        exact ⟨i, j, hx, hy, hz, f.val q.tab rfl⟩
      · cases h
    | _ => cases h
  | _ => cases h
theorem mod_ok {x y : V} {d e : Dp.D} {r : Dp.RV} (q : DRel R A σ H F δ) (hx : PRep R H F d x) (hy : PRep R H F e y) (h : Dp.binD .mod d e = some r) (f : Fin R A H F r Q) : rI (fun _ j => 0 < j) (fun i j => .int (i % j)) x y H Q := by
  cases d with
  | int i => cases e with
    | int j =>
      rw [Dp.binD] at h
      split at h
      · rename_i hz
        cases h
        exact ⟨i, j, hx, hy, hz, f.val q.tab rfl⟩
      · cases h
    | _ => cases h
  | _ => cases h
theorem pow_ok {x y : V} {d e : Dp.D} {r : Dp.RV} (q : DRel R A σ H F δ) (hx : PRep R H F d x) (hy : PRep R H F e y) (h : Dp.binD .pow d e = some r) (f : Fin R A H F r Q) : rI CPow (fun i j => .int (i ^ j.toNat)) x y H Q := by
  cases d with
  | int i => cases e with
    | int j =>
      rw [Dp.binD] at h
      split at h
      · rename_i hz
        cases h
        exact ⟨i, j, hx, hy, hz, f.val q.tab rfl⟩
      · cases h
    | _ => cases h
  | _ => cases h
/-- the model's operator -/
def bopOf : Dp.Bop → Operator
  | .add => .Add | .sub => .Sub | .mul => .Mult | .fdiv => .FloorDiv | .mod => .Mod | .pow => .Pow
def rBin (K : PySem.W.Frag) : Dp.Bop → R2
  | .add => rAdd K
  | .sub => rI0 (fun i j => .int (i - j))
  | .mul => rMul K
  | .fdiv => rI CDivW (fun i j => .int (i / j))
  | .mod => rI (fun _ j => 0 < j) (fun i j => .int (i % j))
  | .pow => rI CPow (fun i j => .int (i ^ j.toNat))
theorem op_bin {X : Cx} : ∀ b : Dp.Bop, OpR X (binaryOp (bopOf b)) (rBin X.K b)
  | .add => op_addAll
  | .sub => op_sub
  | .mul => op_mulAll
  | .fdiv => op_fdivW
  | .mod => op_mod
  | .pow => op_pow
theorem bin_ok {b : Dp.Bop} {x y : V} {d e : Dp.D} {r : Dp.RV} (q : DRel R A σ H F δ) (hx : PRep R H F d x) (hy : PRep R H F e y) (h : Dp.binD b d e = some r) (f : Fin R A H F r Q) : rBin R.K b x y H Q := by
  cases b with
  | add => exact add_ok q hx hy h f
  | sub => exact sub_ok q hx hy h f
  | mul => exact mul_ok q hx hy h f
  | fdiv => exact fdiv_ok q hx hy h f
  | mod => exact mod_ok q hx hy h f
  | pow => exact pow_ok q hx hy h f
end
end DpS
end

section
set_option Elab.async false
set_option linter.all false
set_option maxRecDepth 100000
set_option maxHeartbeats 4000000
set_option autoImplicit false
/-! DpB4: comparisons, subscripts, slices by values. -/
namespace DpS
open PySem PySem.Spec L2

/-! ### data as the model's plain data -/
mutual
def py : Dp.D → PyData
  | .non => .none
  | .bl b => .bool b
  | .int i => .int i
  | .str s => .str ⟨s.toArray⟩
  | .tup xs => .tuple (pys xs)
  | .lst xs => .list (pys xs)
  | _ => .none
def pys : List Dp.D → List PyData
  | [] => []
  | x :: xs => py x :: pys xs
end
theorem pys_eq (xs : List Dp.D) : pys xs = xs.map py := by
  induction xs with
  | nil => rfl
  | cons x xs ih => rw [pys, ih]; rfl
theorem strOk_eq (s : List Nat) : PySem.PyData.strOk ⟨s.toArray⟩ = Dp.strOk s := by
  unfold PySem.PyData.strOk Dp.strOk
  rw [List.all_toArray']
  rfl
mutual
theorem shp_lay : ∀ (n : Nat) (d : Dp.D), Dp.shp n d = true → (py d).canLay0 = true ∧ (py d).depth ≤ n
  | _, .non, _ => ⟨rfl, Nat.zero_le _⟩
  | _, .bl _, _ => ⟨rfl, Nat.zero_le _⟩
  | _, .int _, _ => ⟨rfl, Nat.zero_le _⟩
  | n, .str s, h => by
    have h' : Dp.strOk s = true := by cases n <;> exact h
    exact ⟨by rw [py, PyData.canLay0, strOk_eq]; exact h', Nat.zero_le _⟩
  | n + 1, .tup xs, h => by
    rw [Dp.shp] at h
    obtain ⟨h1, h2⟩ := shp_lays n xs h
    exact ⟨by rw [py, PyData.canLay0]; exact h1, by rw [py, PyData.depth]; omega⟩
  | n + 1, .lst xs, h => by
    rw [Dp.shp] at h
    obtain ⟨h1, h2⟩ := shp_lays n xs h
    exact ⟨by rw [py, PyData.canLay0]; exact h1, by rw [py, PyData.depth]; omega⟩
  | 0, .tup xs, h => by simp [Dp.shp] at h
  | 0, .lst xs, h => by simp [Dp.shp] at h
  | 0, .dct _ _ _, h => by simp [Dp.shp] at h
  | n + 1, .dct _ _ _, h => by simp [Dp.shp] at h
  | 0, .set _, h => by simp [Dp.shp] at h
  | n + 1, .set _, h => by simp [Dp.shp] at h
  | 0, .obj _ _, h => by simp [Dp.shp] at h
  | n + 1, .obj _ _, h => by simp [Dp.shp] at h
  | 0, .fn _, h => by simp [Dp.shp] at h
  | n + 1, .fn _, h => by simp [Dp.shp] at h
  | 0, .scr _, h => by simp [Dp.shp] at h
  | n + 1, .scr _, h => by simp [Dp.shp] at h
  | 0, .kt _, h => by simp [Dp.shp] at h
  | n + 1, .kt _, h => by simp [Dp.shp] at h
theorem shp_lays : ∀ (n : Nat) (ds : List Dp.D), ds.all (Dp.shp n) = true → PyData.canLayAll0 (pys ds) = true ∧ PyData.depthAll (pys ds) ≤ n
  | _, [], _ => ⟨rfl, Nat.zero_le _⟩
  | n, d :: ds, h => by
    rw [List.all_cons, Bool.and_eq_true] at h
    obtain ⟨h1, h2⟩ := shp_lay n d h.1
    obtain ⟨h3, h4⟩ := shp_lays n ds h.2
    refine ⟨?_, ?_⟩
    · rw [pys, PyData.canLayAll0, h1, h3]; rfl
    · rw [pys, PyData.depthAll]; omega
end
theorem shp_shaped {d : Dp.D} (h : Dp.shp 60 d = true) : SeqAt.shaped (py d) = true := by
  obtain ⟨h1, h2⟩ := shp_lay 60 d h
  unfold SeqAt.shaped
  rw [h1, decide_eq_true (show (py d).depth ≤ 64 by omega)]; rfl
theorem shp_shapedL {ds : List Dp.D} (h : ds.all (Dp.shp 60) = true) : SeqAt.shaped (.list (ds.map py)) = true := by
  obtain ⟨h1, h2⟩ := shp_lays 60 ds h
  rw [pys_eq] at h1 h2
  unfold SeqAt.shaped
  rw [PyData.canLay0, h1, PyData.depth, decide_eq_true (show PyData.depthAll (ds.map py) + 1 ≤ 64 by omega)]; rfl
theorem str_beq (s t : List Nat) : ((⟨s.toArray⟩ : Str) == ⟨t.toArray⟩) = (s == t) := by
  rw [Bool.eq_iff_iff, beq_iff_eq, beq_iff_eq]
  constructor
  · intro h
    injection h with h
    simpa using congrArg Array.toList h
  · rintro rfl; rfl
mutual
theorem eqb_py : ∀ (n m : Nat) (d e : Dp.D), Dp.shp n d = true → Dp.shp m e = true → PyData.eqv (py d) (py e) = Dp.eqb d e := by
  intro n m d e hd he
  cases d with
  | non => cases e <;> first | rfl | (cases m <;> simp [Dp.shp] at he; done)
  | bl b => cases e <;> first | rfl | (cases m <;> simp [Dp.shp] at he; done)
  | int b => cases e <;> first | rfl | (cases m <;> simp [Dp.shp] at he; done)
  | str s => cases e with
    | str t => rw [py, py, PyData.eqv, Dp.eqb]; exact str_beq s t
    | _ => first | rfl | (cases m <;> simp [Dp.shp] at he; done)
  | tup xs => cases n with
    | zero => simp [Dp.shp] at hd
    | succ n => cases e with
      | tup ys => cases m with
        | zero => simp [Dp.shp] at he
        | succ m =>
          rw [Dp.shp] at hd he
          rw [py, py, PyData.eqv, Dp.eqb]
          exact eqbs_py n m xs ys hd he
      | _ => first | rfl | (cases m <;> simp [Dp.shp] at he; done)
  | lst xs => cases n with
    | zero => simp [Dp.shp] at hd
    | succ n => cases e with
      | lst ys => cases m with
        | zero => simp [Dp.shp] at he
        | succ m =>
          rw [Dp.shp] at hd he
          rw [py, py, PyData.eqv, Dp.eqb]
          exact eqbs_py n m xs ys hd he
      | _ => first | rfl | (cases m <;> simp [Dp.shp] at he; done)
  | _ => cases n <;> simp [Dp.shp] at hd
theorem eqbs_py : ∀ (n m : Nat) (ds es : List Dp.D), ds.all (Dp.shp n) = true → es.all (Dp.shp m) = true → PyData.eqvAll (pys ds) (pys es) = Dp.eqbs ds es
  | _, _, [], [], _, _ => rfl
  | _, _, [], _ :: _, _, _ => rfl
  | _, _, _ :: _, [], _, _ => rfl
  | n, m, d :: ds, e :: es, hd, he => by
    rw [List.all_cons, Bool.and_eq_true] at hd he
    rw [pys, pys, PyData.eqvAll, Dp.eqbs, eqb_py n m d e hd.1 he.1, eqbs_py n m ds es hd.2 he.2]
end
section
variable {R : RC} {H F : Hp}
mutual
theorem rep_py (s : Sub F H) : ∀ (n : Nat) (d : Dp.D) (v : V), Dp.shp n d = true → Rep R F d v → L2.Dp R.K H v (py d)
  | _, .non, v, _, h => by rw [show v = _ from h]; exact .non
  | _, .bl b, v, _, h => by rw [show v = _ from h]; exact .bl b
  | _, .int i, v, _, h => by rw [show v = _ from h]; exact .int i
  | _, .str z, v, _, h => by rw [show v = _ from h]; exact .str _
  | n + 1, .tup xs, v, e, ⟨a, vs, h0, h1, h2⟩ => by
    rw [Dp.shp] at e
    rw [h0, py]
    exact .tup (SqT.of (s _ _ h1)) (reps_py s n xs vs e h2)
  | n + 1, .lst xs, v, e, ⟨a, vs, h0, h1, h2⟩ => by
    rw [Dp.shp] at e
    rw [h0, py]
    exact .lst (SqL.of (s _ _ h1)) (reps_py s n xs vs e h2)
  | 0, .tup _, _, h, _ => by simp [Dp.shp] at h
  | 0, .lst _, _, h, _ => by simp [Dp.shp] at h
  | n, .dct _ _ _, _, h, _ => by cases n <;> simp [Dp.shp] at h
  | n, .set _, _, h, _ => by cases n <;> simp [Dp.shp] at h
  | n, .obj _ _, _, h, _ => by cases n <;> simp [Dp.shp] at h
  | n, .fn _, _, h, _ => by cases n <;> simp [Dp.shp] at h
  | n, .scr _, _, h, _ => by cases n <;> simp [Dp.shp] at h
  | n, .kt _, _, h, _ => by cases n <;> simp [Dp.shp] at h
theorem reps_py (s : Sub F H) : ∀ (n : Nat) (ds : List Dp.D) (vs : List V), ds.all (Dp.shp n) = true → Reps R F ds vs → DpAll R.K H vs (pys ds)
  | _, [], vs, _, h => by rw [show vs = [] from h]; exact .nil
  | n, d :: ds, _, e, ⟨v, ws, h0, h1, h2⟩ => by
    rw [List.all_cons, Bool.and_eq_true] at e
    rw [h0, pys]
    exact .cons (rep_py s n d v e.1 h1) (reps_py s n ds ws e.2 h2)
end
theorem prep_py (s : Sub F H) {d : Dp.D} {v : V} (e : Dp.shp 60 d = true) (h : PRep R H F d v) : L2.Dp R.K H v (py d) := by
  cases d with
  | lst xs =>
    obtain ⟨a, vs, h0, h1, h2⟩ := h
    rw [Dp.shp] at e
    rw [h0, py]
    exact .lst (SqL.of h1) (reps_py s 59 xs vs e h2)
  | non => exact rep_py s 60 _ v e h
  | bl _ => exact rep_py s 60 _ v e h
  | int _ => exact rep_py s 60 _ v e h
  | str _ => exact rep_py s 60 _ v e h
  | tup _ => exact rep_py s 60 _ v e h
  | _ => simp [Dp.shp] at e
theorem flat_of {d : Dp.D} {v : V} (e : Dp.flat d = true) (h : Rep R F d v) : flatV v = true := by
  cases d with
  | non => rw [show v = _ from h]; rfl
  | bl _ => rw [show v = _ from h]; rfl
  | int _ => rw [show v = _ from h]; rfl
  | str _ => rw [show v = _ from h]; rfl
  | _ => cases e
theorem flats_of : ∀ {ds : List Dp.D} {vs : List V}, ds.all Dp.flat = true → Reps R F ds vs → vs.all flatV = true
  | [], vs, _, h => by rw [show vs = [] from h]; rfl
  | d :: ds, _, e, ⟨v, ws, h0, h1, h2⟩ => by
    rw [List.all_cons, Bool.and_eq_true] at e
    rw [h0, List.all_cons, flat_of e.1 h1, flats_of e.2 h2]; rfl
theorem eqV_of {d e : Dp.D} {v u : V} (fd : Dp.flat d = true) (fe : Dp.flat e = true) (hd : Rep R F d v) (he : Rep R F e u) : eqV v u = Dp.eqb d e := by
  cases d with
  | non => rw [show v = _ from hd]; cases e with
    | non => rw [show u = _ from he]; rfl
    | bl _ => rw [show u = _ from he]; rfl
    | int _ => rw [show u = _ from he]; rfl
    | str _ => rw [show u = _ from he]; rfl
    | _ => cases fe
  | bl _ => rw [show v = _ from hd]; cases e with
    | non => rw [show u = _ from he]; rfl
    | bl _ => rw [show u = _ from he]; rfl
    | int _ => rw [show u = _ from he]; rfl
    | str _ => rw [show u = _ from he]; rfl
    | _ => cases fe
  | int _ => rw [show v = _ from hd]; cases e with
    | non => rw [show u = _ from he]; rfl
    | bl _ => rw [show u = _ from he]; rfl
    | int _ => rw [show u = _ from he]; rfl
    | str _ => rw [show u = _ from he]; rfl
    | _ => cases fe
  | str s => rw [show v = _ from hd]; cases e with
    | non => rw [show u = _ from he]; rfl
    | bl _ => rw [show u = _ from he]; rfl
    | int _ => rw [show u = _ from he]; rfl
    | str t => rw [show u = _ from he]; exact str_beq s t
    | _ => cases fe
  | _ => cases fd
theorem inV_of {x : V} {d : Dp.D} (fd : Dp.flat d = true) (hd : Rep R F d x) : ∀ {ds : List Dp.D} {vs : List V}, ds.all Dp.flat = true → Reps R F ds vs → inV x vs = ds.any fun y => Dp.eqb y d
  | [], vs, _, h => by rw [show vs = [] from h]; rfl
  | e :: ds, _, f, ⟨v, ws, h0, h1, h2⟩ => by
    rw [List.all_cons, Bool.and_eq_true] at f
    have ih := inV_of fd hd f.2 h2
    rw [h0]
    unfold inV at ih ⊢
    rw [List.any_cons, List.any_cons, eqV_of f.1 fd h1 hd, ih]
end
end DpS
end

section
set_option Elab.async false
set_option linter.all false
set_option maxRecDepth 100000
set_option maxHeartbeats 4000000
set_option autoImplicit false
/-! DpB5: comparisons, dict keys, subscripts, slices. -/
namespace DpS
open PySem PySem.Spec L2

section
variable {R : RC} {A : Act} {σ : St} {H F : Hp} {δ : Dp.DSt} {x y : V} {d e : Dp.D} {Q : VK} {a : Addr}

/-! ### keys -/
theorem kD_inj {k l : Key} : kD k = kD l → k = l := by
  intro h
  cases k with
  | inl i => cases l with
    | inl j => exact congrArg Sum.inl (by injection h)
    | inr z => exact nomatch h
  | inr x => cases l with
    | inl j => exact nomatch h
    | inr z =>
      obtain ⟨x⟩ := x
      obtain ⟨z⟩ := z
      have e : x.toList = z.toList := by injection h
      rw [Array.toList_inj.mp e]
theorem eqb_kD (k l : Key) : Dp.eqb (kD k) (kD l) = decide (k = l) := by
  cases k with
  | inl i => cases l with
    | inl j =>
      show (i == j) = _
      rw [Bool.eq_iff_iff, beq_iff_eq, decide_eq_true_eq]
      exact ⟨fun h => by rw [h], fun h => Sum.inl.inj h⟩
    | inr z => exact (decide_eq_false (fun h => nomatch h)).symm
  | inr x => cases l with
    | inl j => exact (decide_eq_false (fun h => nomatch h)).symm
    | inr z =>
      show (x.cps.toList == z.cps.toList) = _
      rw [Bool.eq_iff_iff, beq_iff_eq, decide_eq_true_eq]
      exact ⟨fun h => kD_inj (show kD (.inr x) = kD (.inr z) by rw [kD, kD, h]), fun h => by cases h; rfl⟩
theorem eqbs_kD : ∀ (k l : List Key), Dp.eqbs (k.map kD) (l.map kD) = decide (k = l)
  | [], [] => rfl
  | [], _ :: _ => (decide_eq_false (fun h => nomatch h)).symm
  | _ :: _, [] => (decide_eq_false (fun h => nomatch h)).symm
  | k :: ks, l :: ls => by
    rw [List.map_cons, List.map_cons, Dp.eqbs, eqb_kD, eqbs_kD ks ls, Bool.eq_iff_iff, Bool.and_eq_true, decide_eq_true_eq, decide_eq_true_eq, decide_eq_true_eq]
    exact ⟨fun ⟨h1, h2⟩ => by rw [h1, h2], fun h => by cases h; exact ⟨rfl, rfl⟩⟩
theorem eqb_kT (k l : List Key) : Dp.eqb (.tup (k.map kD)) (.tup (l.map kD)) = decide (k = l) := by rw [Dp.eqb]; exact eqbs_kD k l
/-- an int or a text as a key -/
theorem key_flat (h : Dp.keyOk false d = true) (r : Rep R F d x) : ∃ k : Key, d = kD k ∧ x = kV k := by
  cases d with
  | int i => exact ⟨.inl i, rfl, r⟩
  | str s => exact ⟨.inr ⟨s.toArray⟩, rfl, r⟩
  | _ => cases h
theorem keys_flat : ∀ {ds : List Dp.D} {vs : List V}, (ds.all fun x => match x with | .int _ => true | .str _ => true | _ => false) = true → Reps R F ds vs → ∃ ks : List Key, ds = ks.map kD ∧ vs = ks.map kV
  | [], vs, _, h => ⟨[], rfl, h⟩
  | d :: ds, _, e, ⟨v, ws, h0, h1, h2⟩ => by
    rw [List.all_cons, Bool.and_eq_true] at e
    obtain ⟨ks, e1, e2⟩ := keys_flat e.2 h2
    obtain ⟨k, e3, e4⟩ := key_flat (d := d) (R := R) (F := F) (x := v) (by cases d <;> first | rfl | exact absurd e.1 Bool.false_ne_true) h1
    exact ⟨k :: ks, by rw [e1, e3]; rfl, by rw [h0, e2, e4]; rfl⟩
theorem key_tup (h : Dp.keyOk true d = true) (r : Rep R F d x) : ∃ (k : List Key) (b : Addr), d = .tup (k.map kD) ∧ x = .ref b ∧ F b = some (.tup (k.map kV)) := by
  cases d with
  | tup xs =>
    obtain ⟨b, vs, e, h1, h2⟩ := r
    obtain ⟨ks, e1, e2⟩ := keys_flat h h2
    exact ⟨ks, b, by rw [e1], e, by rw [h1, e2]⟩
  | _ => cases h
theorem valV_cons {κ : Type} [DecidableEq κ] (p : κ × V) (r : List (κ × V)) (k : κ) : valV (p :: r) k = if p.1 = k then some p.2 else valV r k := by
  unfold valV
  rw [List.find?_cons]
  by_cases h : p.1 = k
  · rw [decide_eq_true h, if_pos h]; rfl
  · rw [decide_eq_false h, if_neg h]
/-- what a dict holds, by data -/
theorem look_of {κ : Type} [DecidableEq κ] {g : κ → Dp.D} (hg : ∀ k l : κ, Dp.eqb (g k) (g l) = decide (k = l)) : ∀ (kvs : List (κ × V)) (ks ws : List Dp.D) (k : κ), kvs.map (fun p => g p.1) = ks → Reps R F ws (kvs.map (·.2)) →
    (match Dp.lookK (g k) ks ws with | some d => ∃ v, valV kvs k = some v ∧ Rep R F d v | none => valV kvs k = none) ∧ (ks.any fun y => Dp.eqb y (g k)) = (valV kvs k).isSome
  | [], ks, ws, k, e, h => by
    subst e
    cases ws with
    | nil => exact ⟨rfl, rfl⟩
    | cons w ws => obtain ⟨_, _, z, _⟩ := h; cases z
  | p :: kvs, ks, ws, k, e, h => by
    subst e
    cases ws with
    | nil => exact nomatch (show (p :: kvs).map (·.2) = [] from h)
    | cons w ws =>
      obtain ⟨v, us, z, h1, h2⟩ := h
      have z1 : p.2 = v := by injection z
      have z2 : kvs.map (·.2) = us := by injection z
      rw [← z2] at h2
      obtain ⟨i1, i2⟩ := look_of hg kvs _ ws k rfl h2
      rw [valV_cons, List.map_cons, Dp.lookK, List.any_cons, hg]
      by_cases q : p.1 = k
      · rw [decide_eq_true q, if_pos q, if_pos rfl, z1]
        exact ⟨⟨v, rfl, h1⟩, rfl⟩
      · rw [decide_eq_false q, if_neg q, if_neg Bool.false_ne_true, Bool.false_or]
        exact ⟨i1, i2⟩
/-- a dict read at a key -/
theorem dget_of {t : Bool} {ks ws : List Dp.D} (s : Sub F H) (hd : PRep R H F (.dct t ks ws) (.ref a)) (hk : Dp.keyOk t e = true) (he : Rep R F e y) :
    ∃ o, DGet H a y o ∧ (match Dp.lookK e ks ws with | some d => ∃ v, o = some v ∧ Rep R F d v | none => o = none) ∧ (ks.any fun z => Dp.eqb z e) = o.isSome := by
  cases t with
  | false =>
    obtain ⟨b, kvs, e0, h1, h2, h3⟩ := hd
    cases e0
    obtain ⟨k, rfl, rfl⟩ := key_flat hk he
    obtain ⟨i1, i2⟩ := look_of eqb_kD kvs ks ws k h2 h3
    exact ⟨valV kvs k, DGet.k h1, i1, i2⟩
  | true =>
    obtain ⟨b, kvs, e0, h1, h2, h3⟩ := hd
    cases e0
    obtain ⟨k, c, rfl, rfl, hb⟩ := key_tup hk he
    obtain ⟨i1, i2⟩ := look_of (g := fun k => Dp.D.tup (k.map kD)) eqb_kT kvs ks ws k h2 h3
    exact ⟨valV kvs k, DGet.t h1 (s _ _ hb), i1, i2⟩
/-- a key looked at is a shared value -/
theorem PRep.key {t : Bool} (h : PRep R H F d x) (hk : Dp.keyOk t d = true) : Rep R F d x := by
  cases t with
  | false => cases d with
    | int _ => exact h
    | str _ => exact h
    | _ => cases hk
  | true => cases d with
    | tup _ => exact h
    | _ => cases hk

/-! ### comparisons -/
def rDInV (neg : Bool) : R2 := fun x y H Q => ∃ a o, y = .ref a ∧ DGet H a x o ∧ Q (.bl (if neg then !o.isSome else o.isSome)) H
theorem op_din {X : Cx} (hu : X.A.units + 1 < cLine) : OpR X (compareOp .In) (rDInV false) := by
  intro pins s σ H x y v u Q I rx ry h
  obtain ⟨a, o, rfl, g, q⟩ := h
  cases ry
  exact d_in hu I g rx fun s3 I3 => ⟨.bl o.isSome, H, I3, rfl, q⟩
theorem op_dnotin {X : Cx} (hu : X.A.units + 1 < cLine) : OpR X (compareOp .NotIn) (rDInV true) := by
  intro pins s σ H x y v u Q I rx ry h
  obtain ⟨a, o, rfl, g, q⟩ := h
  cases ry
  exact d_notIn hu I g rx fun s3 I3 => ⟨.bl (!o.isSome), H, I3, rfl, q⟩
def rLtS : R2 := fun x y H Q => ∃ i j, x = .str i ∧ y = .str j ∧ Q (.bl (decide (i.cps.toList < j.cps.toList))) H
def rInS (neg : Bool) : R2 := fun x y H Q => ∃ (c : Nat) (z : Str), x = .str ⟨#[c]⟩ ∧ y = .str z ∧ Q (.bl (if neg then !decide (c ∈ z.cps.toList) else decide (c ∈ z.cps.toList))) H
def copOf : Dp.Cop → CmpOp
  | .eq => .Eq | .ne => .NotEq | .lt => .Lt | .le => .LtE | .gt => .Gt | .ge => .GtE | .isin => .In | .notin => .NotIn
def rCmp (K : PySem.W.Frag) : Dp.Cop → R2
  | .eq => rEqD K
  | .ne => rNeD K
  | .lt => orR (rI0 fun i j => .bl (decide (i < j))) (orR rLtS (rLtT K))
  | .le => rI0 fun i j => .bl (decide (i ≤ j))
  | .gt => rI0 fun i j => .bl (decide (j < i))
  | .ge => rI0 fun i j => .bl (decide (j ≤ i))
  | .isin => orR (rIn K false) (orR (rInD K) (orR (rDInV false) (rInS false)))
  | .notin => orR (rIn K true) (orR (rNotInD K) (orR (rDInV true) (rInS true)))
theorem op_cmp {X : Cx} (hu : X.A.units + 65 < cLine) : ∀ c : Dp.Cop, OpR X (compareOp (copOf c)) (rCmp X.K c)
  | .eq => op_eqD (by omega)
  | .ne => op_neD (by omega)
  | .lt => op_lt.or (op_lt_str.or (op_ltT (by omega)))
  | .le => op_le
  | .gt => op_gt
  | .ge => op_ge
  | .isin => op_in_seq.or ((op_inD hu).or ((op_din (by omega)).or op_in_sign))
  | .notin => op_notIn_seq.or ((op_notInD hu).or ((op_dnotin (by omega)).or op_notIn_sign))
theorem lexLt_eq : ∀ (ns ms : List Int), HT.lexLt ns ms = Dp.ltInts ns ms
  | [], [] => rfl
  | [], _ :: _ => rfl
  | _ :: _, [] => rfl
  | n :: ns, m :: ms => by rw [HT.lexLt_cons, Dp.ltInts, lexLt_eq ns ms]
theorem eqv_some {b : Bool} (h : Dp.eqv d e = some b) : Dp.shp 60 d = true ∧ Dp.shp 60 e = true ∧ b = Dp.eqb d e := by
  unfold Dp.eqv at h
  split at h
  · rename_i z
    cases h
    rw [Bool.and_eq_true] at z
    exact ⟨z.1, z.2, rfl⟩
  · cases h
theorem lt_ok {b : Bool} (q : DRel R A σ H F δ) (hx : PRep R H F d x) (hy : PRep R H F e y) (h : Dp.ltD d e = some b) (f : Q (.bl b) H) : rCmp R.K .lt x y H Q := by
  cases d with
  | int i => cases e with
    | int j =>
      cases h
      exact .inl ⟨i, j, hx, hy, f⟩
    | _ => cases h
  | str s => cases e with
    | str t =>
      cases h
      exact .inr (.inl ⟨_, _, hx, hy, f⟩)
    | _ => cases h
  | tup xs => cases e with
    | tup ys =>
      rw [Dp.ltD] at h
      obtain ⟨a, vs, e1, h1, r1⟩ := hx
      obtain ⟨c, ws, e2, h2, r2⟩ := hy
      cases ha : Dp.lexInts xs with
      | none => rw [ha] at h; cases h
      | some ns => cases hb : Dp.lexInts ys with
        | none => rw [ha, hb] at h; cases h
        | some ms =>
          rw [ha, hb] at h
          cases h
          obtain ⟨rfl, _⟩ := r1.of_ints ha
          obtain ⟨rfl, _⟩ := r2.of_ints hb
          exact .inr (.inr ⟨a, c, ns, ms, e1, e2, SqT.of (q.sub _ _ h1), SqT.of (q.sub _ _ h2), by rw [lexLt_eq]; exact f⟩)
    | _ => cases h
  | _ => cases h
/-- x in y, both ways -/
theorem in_ok {b : Bool} (q : DRel R A σ H F δ) (hx : PRep R H F d x) (hy : PRep R H F e y) (h : Dp.contD d e = some b) :
    (∀ Q : VK, Q (.bl b) H → rCmp R.K .isin x y H Q) ∧ (∀ Q : VK, Q (.bl (!b)) H → rCmp R.K .notin x y H Q) := by
  have flatPart : ∀ {ys : List Dp.D} {c : Addr} {vs : List V}, y = .ref c → (SqL R.K H c vs ∨ SqT R.K H c vs) → Reps R F ys vs → Dp.inFlat d ys = some b →
      (∀ Q : VK, Q (.bl b) H → rCmp R.K .isin x y H Q) ∧ (∀ Q : VK, Q (.bl (!b)) H → rCmp R.K .notin x y H Q) := by
    intro ys c vs ey hs rs h
    unfold Dp.inFlat at h
    split at h
    · rename_i z
      cases h
      rw [Bool.and_eq_true] at z
      have hx' : Rep R F d x := by
        cases d with
        | non => exact hx
        | bl _ => exact hx
        | int _ => exact hx
        | str _ => exact hx
        | _ => exact absurd z.1 Bool.false_ne_true
      have key := inV_of z.1 hx' z.2 rs
      refine ⟨fun Q f => .inl ⟨c, vs, ey, hs, flat_of z.1 hx', flats_of z.2 rs, ?_⟩, fun Q f => .inl ⟨c, vs, ey, hs, flat_of z.1 hx', flats_of z.2 rs, ?_⟩⟩
      · rw [if_neg Bool.false_ne_true, key]; exact f
      · rw [if_pos rfl, key]; exact f
    · cases h
  cases e with
  | tup ys =>
    obtain ⟨c, vs, e1, h1, r1⟩ := hy
    exact flatPart e1 (.inr (SqT.of (q.sub _ _ h1))) r1 h
  | kt ys =>
    obtain ⟨c, vs, e1, h1, r1⟩ := hy
    exact flatPart e1 (.inr (q.sub.sqT h1)) r1 h
  | lst ys =>
    obtain ⟨c, vs, e1, h1, r1⟩ := hy
    have h : Dp.inItems d ys = some b := h
    unfold Dp.inItems at h
    split at h
    · rename_i z
      cases h
      rw [Bool.and_eq_true] at z
      have d1 : L2.Dp R.K H x (py d) := prep_py q.sub z.1 hx
      have d2 : L2.Dp R.K H y (.list (ys.map py)) := by
        rw [e1, ← pys_eq]
        exact .lst (SqL.of h1) (reps_py q.sub 60 ys vs z.2 r1)
      have key : ∀ l : List Dp.D, l.all (Dp.shp 60) = true → ((l.map py).any fun w => PyData.eqv w (py d)) = l.any fun w => Dp.eqb w d := by
        intro l
        induction l with
        | nil => intro _; rfl
        | cons w l ih =>
          intro hl
          rw [List.all_cons, Bool.and_eq_true] at hl
          rw [List.map_cons, List.any_cons, List.any_cons, eqb_py 60 60 w d hl.1 z.1, ih hl.2]
      refine ⟨fun Q f => .inr (.inl ⟨_, _, d1, d2, shp_shaped z.1, shp_shapedL z.2, ?_⟩), fun Q f => .inr (.inl ⟨_, _, d1, d2, shp_shaped z.1, shp_shapedL z.2, ?_⟩)⟩
      · rw [key ys z.2]; exact f
      · rw [key ys z.2]; exact f
    · cases h
  | dct t ks ws =>
    rw [Dp.contD] at h
    split at h
    · rename_i z
      cases h
      obtain ⟨c, e1⟩ : ∃ c, y = .ref c := by
        cases t with
        | false => obtain ⟨c, _, e1, _⟩ := hy; exact ⟨c, e1⟩
        | true => obtain ⟨c, _, e1, _⟩ := hy; exact ⟨c, e1⟩
      subst e1
      obtain ⟨o, g, _, i2⟩ := dget_of q.sub hy z (hx.key z)
      refine ⟨fun Q f => .inr (.inr (.inl ⟨c, o, rfl, g, ?_⟩)), fun Q f => .inr (.inr (.inl ⟨c, o, rfl, g, ?_⟩))⟩
      · rw [if_neg Bool.false_ne_true, ← i2]; exact f
      · rw [if_pos rfl, ← i2]; exact f
    · cases h
  | str t => cases d with
    | str s => match s, h with
      | [c], h =>
        cases h
        exact ⟨fun Q f => .inr (.inr (.inr ⟨c, _, hx, hy, by rw [if_neg Bool.false_ne_true]; exact f⟩)), fun Q f => .inr (.inr (.inr ⟨c, _, hx, hy, by rw [if_pos rfl]; exact f⟩))⟩
      | [], h => cases h
      | _ :: _ :: _, h => cases h
    | _ => cases h
  | _ => cases h
theorem cmp_ok {c : Dp.Cop} {b : Bool} (q : DRel R A σ H F δ) (hx : PRep R H F d x) (hy : PRep R H F e y) (h : Dp.cmpD c d e = some b) (f : Q (.bl b) H) : rCmp R.K c x y H Q := by
  cases c with
  | eq =>
    obtain ⟨s1, s2, rfl⟩ := eqv_some h
    exact ⟨_, _, prep_py q.sub s1 hx, prep_py q.sub s2 hy, shp_shaped s1, shp_shaped s2, by rw [eqb_py 60 60 d e s1 s2]; exact f⟩
  | ne =>
    rw [Dp.cmpD] at h
    obtain ⟨b', h', rfl⟩ := Option.map_eq_some_iff.mp h
    obtain ⟨s1, s2, rfl⟩ := eqv_some h'
    exact ⟨_, _, prep_py q.sub s1 hx, prep_py q.sub s2 hy, shp_shaped s1, shp_shaped s2, by rw [eqb_py 60 60 d e s1 s2]; exact f⟩
  | lt => exact lt_ok q hx hy h f
  | le => cases d with
    | int i => cases e with
      | int j => cases h; exact ⟨i, j, hx, hy, f⟩
      | _ => cases h
    | _ => cases h
  | gt => cases d with
    | int i => cases e with
      | int j => cases h; exact ⟨i, j, hx, hy, f⟩
      | _ => cases h
    | _ => cases h
  | ge => cases d with
    | int i => cases e with
      | int j => cases h; exact ⟨i, j, hx, hy, f⟩
      | _ => cases h
    | _ => cases h
  | isin => exact (in_ok q hx hy h).1 Q f
  | notin =>
    rw [Dp.cmpD] at h
    obtain ⟨b', h', rfl⟩ := Option.map_eq_some_iff.mp h
    exact (in_ok q hx hy h').2 Q f

/-! ### subscripts -/
theorem atI_rep {ds : List Dp.D} {vs : List V} {i : Int} (r : Reps R F ds vs) (h : Dp.atI ds i = some d) : ∃ v, L2.atI vs i = some v ∧ Rep R F d v := by
  unfold Dp.atI at h
  obtain ⟨j, h1, h2⟩ := Option.bind_eq_some_iff.mp h
  obtain ⟨v, e, rv⟩ := r.get h2
  refine ⟨v, ?_, rv⟩
  unfold L2.atI
  rw [r.length, show L2.ixN ds.length i = some j from h1]
  exact e
def rDGetV : R2 := fun x y H Q => ∃ a v, x = .ref a ∧ DGet H a y (some v) ∧ Q v H
theorem ix_dict {X : Cx} (hu : X.A.units + 1 < cLine) : IxR X rDGetV := by
  intro value slice pins s σ H x y v u Q I rx ry h hs
  obtain ⟨a, w, rfl, g, q⟩ := h
  cases rx
  exact PyProof.Rows.tail_any (dict_typeIs I g) PySem.F.slot_dict_getitem.lookup (d_getItem hu I g ry fun w' s3 I3 rw' => ⟨w, H, I3, rw', q⟩) hs
def rSub (K : PySem.W.Frag) : R2 := orR (rIx K) rDGetV
theorem ix_all {X : Cx} (hu : X.A.units + 1 < cLine) : IxR X (rSub X.K) := ix_seq.or (ix_dict hu)
theorem sub_ix_ok (q : DRel R A σ H F δ) (hx : PRep R H F d x) (hy : PRep R H F e y) {r : Dp.D} (h : Dp.subD d e = some r) (f : ∀ v, Rep R F r v → Q v H) : rSub R.K x y H Q := by
  cases d with
  | lst xs => cases e with
    | int i =>
      obtain ⟨a, vs, e1, h1, r1⟩ := hx
      obtain ⟨v, e2, rv⟩ := atI_rep r1 h
      exact .inl (.inl ⟨a, vs, i, v, e1, hy, SqL.of h1, e2, f v rv⟩)
    | _ => cases h
  | tup xs => cases e with
    | int i =>
      obtain ⟨a, vs, e1, h1, r1⟩ := hx
      obtain ⟨v, e2, rv⟩ := atI_rep r1 h
      exact .inl (.inr (.inl ⟨a, vs, i, v, e1, hy, SqT.of (q.sub _ _ h1), e2, f v rv⟩))
    | _ => cases h
  | kt xs => cases e with
    | int i =>
      obtain ⟨a, vs, e1, h1, r1⟩ := hx
      obtain ⟨v, e2, rv⟩ := atI_rep r1 h
      exact .inl (.inr (.inl ⟨a, vs, i, v, e1, hy, q.sub.sqT h1, e2, f v rv⟩))
    | _ => cases h
  | str s => cases e with
    | int i =>
      rw [Dp.subD] at h
      split at h
      · rename_i z
        obtain ⟨c, e1, rfl⟩ := Option.map_eq_some_iff.mp h
        refine .inl (.inr (.inr ⟨_, i, c, hx, hy, ?_, ?_, f _ rfl⟩))
        · rw [strLen, ← sizeL]; exact z
        · rw [List.toList_toArray]; exact e1
      · cases h
    | _ => cases h
  | dct t ks ws =>
    rw [show Dp.subD (.dct t ks ws) e = if Dp.keyOk t e then Dp.lookK e ks ws else none from by cases t <;> cases e <;> rfl] at h
    split at h
    · rename_i z
      obtain ⟨c, e1⟩ : ∃ c, x = .ref c := by
        cases t with
        | false => obtain ⟨c, _, e1, _⟩ := hx; exact ⟨c, e1⟩
        | true => obtain ⟨c, _, e1, _⟩ := hx; exact ⟨c, e1⟩
      subst e1
      obtain ⟨o, g, i1, _⟩ := dget_of q.sub hx z (hy.key z)
      rw [h] at i1
      obtain ⟨v, rfl, rv⟩ := i1
      exact .inr ⟨c, v, rfl, g, f v rv⟩
    · cases h
  | _ => cases h
end
end DpS
end

section
set_option Elab.async false
set_option linter.all false
set_option maxRecDepth 100000
set_option maxHeartbeats 4000000
set_option autoImplicit false
/-! DpB6: slices, built-ins, methods by values. -/
namespace DpS
open PySem PySem.Spec L2

section
variable {R : RC} {A : Act} {σ : St} {H F : Hp} {δ : Dp.DSt} {x y : V} {d e : Dp.D} {Q : VK} {a : Addr} {r : Dp.RV}

/-! ### slices -/
theorem sIx_eq (n d : Nat) : ∀ o : Option Int, HT.sIx n d o = Dp.sIx n d o
  | none => rfl
  | some v => rfl
theorem cut_rep {ds : List Dp.D} {vs : List V} (h : Reps R F ds vs) (lo hi : Option Int) : Reps R F (Dp.cutL ds lo hi) (cutV vs lo hi) := by
  unfold Dp.cutL cutV
  rw [sIx_eq, sIx_eq, h.length]
  exact (h.drop _).take _
theorem cut_whole {α : Type} (xs : List α) (lo hi : Option Int) (h : Dp.sIx xs.length 0 lo = 0 ∧ Dp.sIx xs.length xs.length hi = xs.length) : Dp.cutL xs lo hi = xs := by
  unfold Dp.cutL
  rw [h.1, h.2, List.drop_zero, Nat.sub_zero, List.take_length]
def rSlc (K : PySem.W.Frag) : V → Option Int → Option Int → Hp → VK → Prop := fun x lo hi H Q => rSlL K x lo hi H Q ∨ (rSlA K x lo hi H Q ∨ rSlS x lo hi H Q)
theorem sl_all {X : Cx} : SlR X (rSlc X.K) := sl_list.or (sl_tupA.or sl_str)
theorem slc_ok {lo hi : Option Int} (q : DRel R A σ H F δ) (hx : PRep R H F d x) (h : Dp.slcD d lo hi = some r) (f : Fin R A H F r Q) : rSlc R.K x lo hi H Q := by
  cases d with
  | lst xs =>
    obtain ⟨a, vs, e1, h1, r1⟩ := hx
    cases h
    exact .inl ⟨a, vs, e1, SqL.of h1, f.lst q.tab q.sub (cut_rep r1 lo hi)⟩
  | scr ns =>
    obtain ⟨a, e1, h1⟩ := hx
    cases h
    refine .inl ⟨a, _, e1, q.sub.sqL h1, f.lst q.tab q.sub ?_⟩
    have e : cutV (ns.map V.int) lo hi = (Dp.cutL ns lo hi).map V.int := by
      unfold Dp.cutL cutV
      rw [sIx_eq, sIx_eq, List.length_map, List.map_take, List.map_drop]
    rw [e]
    exact Reps.ints _
  | tup xs =>
    obtain ⟨a, vs, e1, h1, r1⟩ := hx
    cases h
    refine .inr (.inl ⟨a, vs, e1, SqT.of (q.sub _ _ h1), fun z => ?_, fun _ => f.tup q.tab q.sub (cut_rep r1 lo hi)⟩)
    rw [sIx_eq, sIx_eq, r1.length] at z
    rw [cut_whole xs lo hi z] at f
    exact f.val q.tab ⟨a, vs, rfl, h1, r1⟩
  | str s =>
    rw [Dp.slcD] at h
    split at h
    · rename_i z
      cases h
      refine .inr (.inr ⟨_, hx, ?_, f.val q.tab ?_⟩)
      · rw [strLen, ← sizeL]; exact z
      · show V.str (cutS ⟨s.toArray⟩ lo hi) = V.str ⟨(Dp.cutL s lo hi).toArray⟩
        unfold cutS Dp.cutL
        rw [strLen, sIx_eq, sIx_eq]
    · cases h
  | _ => cases h

/-! ### built-ins of one argument -/
def rTyp : List V → Hp → VK → Prop := fun _ _ _ => False
abbrev orC (r s : List V → Hp → VK → Prop) : List V → Hp → VK → Prop := fun xs H Q => r xs H Q ∨ s xs H Q
/-- the built-in as the model calls it -/
def b1Of : Dp.B1 → Value
  | .abs => .builtin "abs" | .all => .builtin "all" | .any => .builtin "any" | .int => .type "int" | .len => .builtin "len" | .list => .type "list" | .tuple => .type "tuple"
  | .sum => .builtin "sum" | .max => .builtin "max" | .min => .builtin "min" | .sorted => .builtin "sorted" | .set => .type "set" | .str => .type "str" | .repr => .builtin "repr" | .dict => .type "dict"
  | .sset => .none | .lset => .none
/-- sum of a tuple of ints -/
def rSumT (K : PySem.W.Frag) : List V → Hp → VK → Prop := fun vs H Q => ∃ (a : Addr) (ns : List Int), vs = [V.ref a] ∧ SqT K H a (ns.map V.int) ∧ Q (.int ns.sum) H
theorem cr_sumT {X : Cx} (hc : X.calm = true) : CallR X (.builtin "sum") (rSumT X.K) := by
  intro pins s σ H vs us Q I r h
  obtain ⟨a, ns, rfl, hs, q⟩ := h
  obtain ⟨its, rv, hl, _⟩ := I.tuple hs
  rw [Vals.ref1 r]
  have hi := rv.ints
  obtain ⟨xs, hx⟩ := hi.allInts.items
  have hn : numsOf its.toArray.toList = ns := by rw [show its.toArray.toList = its from rfl, hi.numsOf]
  rw [hx] at hl hn
  rw [nums_intItems] at hn
  refine PySem.W.ktm_sumG (I.ok.hd hc) hl fun h' tk t' hk => ?_
  rw [preSum_eq, List.take_of_length_le (by simp), hn]
  exact ⟨.int _, H, I.kept hk, ⟨_, rfl⟩, q⟩
/-- any of a tuple of ints -/
def rAnyT (K : PySem.W.Frag) : List V → Hp → VK → Prop := fun vs H Q => ∃ (a : Addr) (ns : List Int), vs = [V.ref a] ∧ SqT K H a (ns.map V.int) ∧ Q (.bl (ns.any fun i => i != 0)) H
theorem truth_ints {prog : Program} {w : World} {A : Around} {ns : List Int} {its : List Value} (e : PyProof.Rows.IntsAre its ns) :
    TruthOf prog w A (fun i v => its.toArray[i]? = some v) (fun i => (ns.map fun i => i != 0).getD i false) := fun i v s Q E hv hq => by
  have hv' : its[i]? = some v := by simpa using hv
  obtain ⟨t, ht⟩ : ∃ t, v = .int (ns.getD i 0) t ∧ i < ns.length := by
    clear hq hv
    induction e generalizing i with
    | nil => cases hv'
    | cons n0 t0 e ih => cases i with
      | zero => cases hv'; exact ⟨_, rfl, Nat.succ_pos _⟩
      | succ i =>
        obtain ⟨t, h1, h2⟩ := ih i hv'
        exact ⟨t, h1, Nat.succ_lt_succ h2⟩
  obtain ⟨rfl, hi⟩ := ht
  have hg : (ns.map fun i => i != 0).getD i false = (ns.getD i 0 != 0) := by
    rw [List.getD_eq_getElem?_getD, List.getElem?_map, List.getD_eq_getElem?_getD, List.getElem?_eq_getElem hi]; rfl
  have hq' : Q ((ns.map fun i => i != 0).getD i false) s := hq
  rw [hg] at hq'
  exact PySem.P.truthy_int hq'
theorem cr_anyT {X : Cx} (hc : X.calm = true) : CallR X (.builtin "any") (rAnyT X.K) := by
  intro pins s σ H vs us Q I r h
  obtain ⟨a, ns, rfl, hs, q⟩ := h
  obtain ⟨its, rv, hl, _⟩ := I.tuple hs
  rw [Vals.ref1 r]
  have hi := rv.ints
  obtain ⟨o, ho, hcl, n, hd⟩ := id hl
  have hl' : s.heap.IsTuple a its.toArray := ⟨o, ho, hcl, n, hd⟩
  have hne : a ≠ s.heap.objs.size := Nat.ne_of_lt (Heap.lt_size ho)
  refine call_any_walk (wpAny_pyIter_tuple hl ?_)
  refine ⟨_, _, _, _, _, _, _, rfl, Walks.tuple (A := X.A.in1) (I.ok.hd hc) _ a hne its.toArray, ⟨⟨_, Heap.get?_push_size _ rfl, rfl, rfl⟩, hl'.at fun o e => Heap.get?_push_of_some _ e⟩, truth_ints hi, fun h' tk hk => ?_⟩
  refine ⟨.bl _, H, I.kept fun b o eo => hk b o (fun hmem => ?_) (Heap.get?_push_of_some _ eo), ?_, q⟩
  · rcases List.mem_cons.mp hmem with e1 | hmem
    · exact absurd (e1 ▸ Heap.lt_size eo) (Nat.lt_irrefl _)
    · cases hmem
  · show Value.bool _ = Value.bool _
    have e1 : its.toArray.size = (ns.map fun i => i != 0).length := by rw [List.size_toArray, List.length_map, hi.length]
    rw [e1, any_range, List.any_map]
    rfl
def rB1 (K : PySem.W.Frag) : Dp.B1 → List V → Hp → VK → Prop
  | .abs => fun xs H Q => ∃ i, xs = [.int i] ∧ Q (.int (if i < 0 then -i else i)) H
  | .all => rAll K
  | .any => orC (rAny K) (rAnyT K)
  | .int => fun xs H Q => (∃ i, xs = [.int i] ∧ Q (.int i) H) ∨ ∃ k, xs = [.bl k] ∧ Q (.int (if k then 1 else 0)) H
  | .len => orC (fun xs H Q => ∃ p ys, xs = [.ref p] ∧ (SqL K H p ys ∨ SqT K H p ys) ∧ Q (.int ys.length) H) (orC (fun xs H Q => ∃ z, xs = [.str z] ∧ z.length ≤ sizeLine ∧ Q (.int z.length) H)
      (fun xs H Q => ∃ a, ∃ kvs : List (Key × V), xs = [V.ref a] ∧ H a = some (.dK kvs) ∧ Q (.int kvs.length) H))
  | .list => fun xs H Q => ∃ p ys, xs = [.ref p] ∧ (SqL K H p ys ∨ SqT K H p ys) ∧ ∀ l, H l = none → Q (.ref l) (upd H l (.lst ys))
  | .tuple => fun xs H Q => ∃ p ys, xs = [.ref p] ∧ ((SqL K H p ys ∧ ∀ l, H l = none → Q (.ref l) (upd H l (.tup ys))) ∨ (SqT K H p ys ∧ Q (.ref p) H))
  | .sum => orC (rSum K) (rSumT K)
  | .max => rMax K
  | .min => rMin K
  | _ => rTyp
theorem no_call {X : Cx} {f : Value} : CallR X f rTyp := fun _ _ _ _ _ _ _ _ _ h => h.elim
theorem b1_rule {X : Cx} (hc : X.calm = true) : ∀ b : Dp.B1, CallR X (b1Of b) (rB1 X.K b)
  | .abs => call_abs
  | .all => cr_all hc
  | .any => (cr_any hc).or (cr_anyT hc)
  | .int => call_int1
  | .len => call_len_seq.or (call_len_str.or call_lenD)
  | .list => call_list_of
  | .tuple => call_tuple_of
  | .sum => (cr_sum hc).or (cr_sumT hc)
  | .max => cr_max hc
  | .min => cr_min hc
  | .sorted => no_call
  | .set => no_call
  | .str => no_call
  | .repr => no_call
  | .dict => no_call
  | .sset => no_call
  | .lset => no_call
theorem bools_rep : ∀ {ds : List Dp.D} {vs : List V} {bs : List Bool}, Reps R F ds vs → Dp.boolsD ds = some bs → vs = bs.map V.bl
  | [], _, _, h, e => by
    rw [show _ = [] from h]
    cases e
    rfl
  | d :: ds, _, _, ⟨v, ws, h0, h1, h2⟩, e => by
    cases d with
    | bl b =>
      rw [Dp.boolsD] at e
      obtain ⟨cs, e1, rfl⟩ := Option.map_eq_some_iff.mp e
      rw [h0, show v = .bl b from h1, bools_rep h2 e1]
      rfl
    | _ => cases e
theorem maxI_spec : ∀ (r : List Int) (m n : Int), n ∈ m :: r → (∀ y, y ∈ m :: r → y ≤ n) → n = Dp.maxI m r
  | [], m, n, hm, _ => by
    rcases List.mem_cons.mp hm with h | h
    · exact h
    · cases h
  | x :: r, m, n, hm, hle => by
    rw [Dp.maxI]
    refine maxI_spec r _ n ?_ fun y hy => ?_
    · have h1 := hle m List.mem_cons_self
      have h2 := hle x (List.mem_cons_of_mem _ List.mem_cons_self)
      rcases List.mem_cons.mp hm with h | h
      · subst h
        split
        · have : x = n := by omega
          subst this; exact List.mem_cons_self
        · exact List.mem_cons_self
      · rcases List.mem_cons.mp h with h | h
        · subst h
          split
          · exact List.mem_cons_self
          · have : m = n := by omega
            subst this; exact List.mem_cons_self
        · exact List.mem_cons_of_mem _ h
    · rcases List.mem_cons.mp hy with h | h
      · subst h
        split
        · exact hle x (List.mem_cons_of_mem _ List.mem_cons_self)
        · exact hle m List.mem_cons_self
      · exact hle y (List.mem_cons_of_mem _ (List.mem_cons_of_mem _ h))
theorem minI_spec : ∀ (r : List Int) (m n : Int), n ∈ m :: r → (∀ y, y ∈ m :: r → n ≤ y) → n = Dp.minI m r
  | [], m, n, hm, _ => by
    rcases List.mem_cons.mp hm with h | h
    · exact h
    · cases h
  | x :: r, m, n, hm, hle => by
    rw [Dp.minI]
    refine minI_spec r _ n ?_ fun y hy => ?_
    · have h1 := hle m List.mem_cons_self
      have h2 := hle x (List.mem_cons_of_mem _ List.mem_cons_self)
      rcases List.mem_cons.mp hm with h | h
      · subst h
        split
        · have : x = n := by omega
          subst this; exact List.mem_cons_self
        · exact List.mem_cons_self
      · rcases List.mem_cons.mp h with h | h
        · subst h
          split
          · exact List.mem_cons_self
          · have : m = n := by omega
            subst this; exact List.mem_cons_self
        · exact List.mem_cons_of_mem _ h
    · rcases List.mem_cons.mp hy with h | h
      · subst h
        split
        · exact hle x (List.mem_cons_of_mem _ List.mem_cons_self)
        · exact hle m List.mem_cons_self
      · exact hle y (List.mem_cons_of_mem _ (List.mem_cons_of_mem _ h))
/-- which built-ins are carried -/
def b1Here : Dp.B1 → Bool
  | .abs => true | .all => true | .any => true | .int => true | .len => true | .list => true | .tuple => true | .sum => true | .max => true | .min => true
  | _ => false
theorem b1_ok {b : Dp.B1} (hb : b1Here b = true) (q : DRel R A σ H F δ) (hx : PRep R H F d x) (h : Dp.b1D b d = some r) (f : Fin R A H F r Q) : rB1 R.K b [x] H Q := by
  cases b with
  | abs => cases d with
    | int i => cases h; exact ⟨i, by rw [show x = _ from hx], f.val q.tab rfl⟩
    | _ => cases h
  | int => cases d with
    | int i => cases h; exact .inl ⟨i, by rw [show x = _ from hx], f.val q.tab rfl⟩
    | bl i => cases h; exact .inr ⟨i, by rw [show x = _ from hx], f.val q.tab rfl⟩
    | _ => cases h
  | all => cases d with
    | lst xs =>
      obtain ⟨a, vs, e1, h1, r1⟩ := hx
      obtain ⟨bs, e2, rfl⟩ := Option.map_eq_some_iff.mp (show (Dp.boolsD xs).map (fun bs => Dp.RV.val (.bl (bs.all id))) = some r from h)
      rw [bools_rep r1 e2] at h1
      exact ⟨a, bs, by rw [e1], SqL.of h1, f.val q.tab rfl⟩
    | _ => cases h
  | any => cases d with
    | lst xs =>
      obtain ⟨a, vs, e1, h1, r1⟩ := hx
      obtain ⟨bs, e2, rfl⟩ := Option.map_eq_some_iff.mp (show (Dp.boolsD xs).map (fun bs => Dp.RV.val (.bl (bs.any id))) = some r from h)
      rw [bools_rep r1 e2] at h1
      exact .inl ⟨a, bs, by rw [e1], SqL.of h1, f.val q.tab rfl⟩
    | tup xs =>
      obtain ⟨a, vs, e1, h1, r1⟩ := hx
      obtain ⟨ns, e2, rfl⟩ := Option.map_eq_some_iff.mp (show (Dp.lexInts xs).map (fun ns => Dp.RV.val (.bl (ns.any fun i => i != 0))) = some r from h)
      obtain ⟨rfl, _⟩ := r1.of_ints e2
      exact .inr ⟨a, ns, by rw [e1], SqT.of (q.sub _ _ h1), f.val q.tab rfl⟩
    | _ => cases h
  | len => cases d with
    | lst xs =>
      obtain ⟨a, vs, e1, h1, r1⟩ := hx
      cases h
      exact .inl ⟨a, vs, by rw [e1], .inl (SqL.of h1), f.val q.tab (by rw [r1.length]; rfl)⟩
    | tup xs =>
      obtain ⟨a, vs, e1, h1, r1⟩ := hx
      cases h
      exact .inl ⟨a, vs, by rw [e1], .inr (SqT.of (q.sub _ _ h1)), f.val q.tab (by rw [r1.length]; rfl)⟩
    | kt xs =>
      obtain ⟨a, vs, e1, h1, r1⟩ := hx
      cases h
      exact .inl ⟨a, vs, by rw [e1], .inr (q.sub.sqT h1), f.val q.tab (by rw [r1.length]; rfl)⟩
    | str s =>
      rw [Dp.b1D] at h
      split at h
      · rename_i z
        cases h
        refine .inr (.inl ⟨_, by rw [show x = _ from hx], ?_, f.val q.tab ?_⟩)
        · rw [strLen, ← sizeL]; exact z
        · rw [strLen]; rfl
      · cases h
    | dct t ks ws => cases t with
      | false =>
        obtain ⟨a, kvs, e1, h1, h2, h3⟩ := hx
        cases h
        refine .inr (.inr ⟨a, kvs, by rw [e1], h1, f.val q.tab ?_⟩)
        rw [← h2, List.length_map]; rfl
      | true => cases h
    | _ => cases h
  | list => cases d with
    | lst xs =>
      obtain ⟨a, vs, e1, h1, r1⟩ := hx
      cases h
      exact ⟨a, vs, by rw [e1], .inl (SqL.of h1), f.lst q.tab q.sub r1⟩
    | tup xs =>
      obtain ⟨a, vs, e1, h1, r1⟩ := hx
      cases h
      exact ⟨a, vs, by rw [e1], .inr (SqT.of (q.sub _ _ h1)), f.lst q.tab q.sub r1⟩
    | _ => cases h
  | tuple => cases d with
    | lst xs =>
      obtain ⟨a, vs, e1, h1, r1⟩ := hx
      cases h
      exact ⟨a, vs, by rw [e1], .inl ⟨SqL.of h1, f.tup q.tab q.sub r1⟩⟩
    | tup xs =>
      obtain ⟨a, vs, e1, h1, r1⟩ := hx
      cases h
      exact ⟨a, vs, by rw [e1], .inr ⟨SqT.of (q.sub _ _ h1), f.val q.tab ⟨a, vs, rfl, h1, r1⟩⟩⟩
    | _ => cases h
  | sum => cases d with
    | lst xs =>
      obtain ⟨a, vs, e1, h1, r1⟩ := hx
      obtain ⟨ns, e2, rfl⟩ := Option.map_eq_some_iff.mp (show (Dp.lexInts xs).map (fun ns => Dp.RV.val (.int ns.sum)) = some r from h)
      obtain ⟨rfl, _⟩ := r1.of_ints e2
      exact .inl ⟨a, ns, by rw [e1], SqL.of h1, f.val q.tab rfl⟩
    | tup xs =>
      obtain ⟨a, vs, e1, h1, r1⟩ := hx
      obtain ⟨ns, e2, rfl⟩ := Option.map_eq_some_iff.mp (show (Dp.lexInts xs).map (fun ns => Dp.RV.val (.int ns.sum)) = some r from h)
      obtain ⟨rfl, _⟩ := r1.of_ints e2
      exact .inr ⟨a, ns, by rw [e1], SqT.of (q.sub _ _ h1), f.val q.tab rfl⟩
    | _ => cases h
  | max => cases d with
    | lst xs =>
      obtain ⟨a, vs, e1, h1, r1⟩ := hx
      rw [Dp.b1D, Dp.intsOf] at h
      cases e2 : Dp.lexInts xs with
      | none => rw [e2] at h; cases h
      | some ns =>
        rw [e2] at h
        cases ns with
        | nil => cases h
        | cons m ns =>
          cases h
          obtain ⟨rfl, _⟩ := r1.of_ints e2
          exact ⟨a, m :: ns, by rw [e1], SqL.of h1, Nat.succ_pos _, fun k h3 h4 => f.val q.tab (by rw [maxI_spec ns m k h3 h4]; rfl)⟩
    | _ => cases h
  | min => cases d with
    | lst xs =>
      obtain ⟨a, vs, e1, h1, r1⟩ := hx
      rw [Dp.b1D, Dp.intsOf] at h
      cases e2 : Dp.lexInts xs with
      | none => rw [e2] at h; cases h
      | some ns =>
        rw [e2] at h
        cases ns with
        | nil => cases h
        | cons m ns =>
          cases h
          obtain ⟨rfl, _⟩ := r1.of_ints e2
          exact ⟨a, m :: ns, by rw [e1], SqL.of h1, Nat.succ_pos _, fun k h3 h4 => f.val q.tab (by rw [minI_spec ns m k h3 h4]; rfl)⟩
    | _ => cases h
  | _ => cases hb
/-! ### of two arguments -/
def b2Of : Dp.B2 → Value
  | .max => .builtin "max" | .min => .builtin "min"
def rB2 : Dp.B2 → List V → Hp → VK → Prop
  | .max => fun xs H Q => ∃ i j, xs = [.int i, .int j] ∧ Q (.int (if j > i then j else i)) H
  | .min => fun xs H Q => ∃ i j, xs = [.int i, .int j] ∧ Q (.int (if j < i then j else i)) H
theorem b2_rule {X : Cx} (hc : X.calm = true) : ∀ b : Dp.B2, CallR X (b2Of b) (rB2 b)
  | .max => call_max2 hc
  | .min => call_min2 hc
theorem b2_ok {b : Dp.B2} (q : DRel R A σ H F δ) (hx : PRep R H F d x) (hy : PRep R H F e y) (h : Dp.b2D b d e = some r) (f : Fin R A H F r Q) : rB2 b [x, y] H Q := by
  cases b with
  | max => cases d with
    | int i => cases e with
      | int j => cases h; exact ⟨i, j, by rw [show x = _ from hx, show y = _ from hy], f.val q.tab rfl⟩
      | _ => cases h
    | _ => cases h
  | min => cases d with
    | int i => cases e with
      | int j => cases h; exact ⟨i, j, by rw [show x = _ from hx, show y = _ from hy], f.val q.tab rfl⟩
      | _ => cases h
    | _ => cases h

/-! ### isinstance -/
def kdS : Dp.Kd → String
  | .non => "NoneType" | .bl => "bool" | .int => "int" | .str => "str" | .tup => "tuple" | .lst => "list" | .dct => "dict"
def tyS : Dp.Ty → String
  | .int => "int" | .bool => "bool" | .str => "str" | .tup => "tuple" | .lst => "list" | .dct => "dict"
theorem kit_all (K : PySem.W.Frag) : ∀ (k : Dp.Kd) (t : Dp.Ty), PySem.W.kitOne K (.type (kdS k)) (.type (tyS t)) = some (Dp.kdTy k t) := by
  intro k t
  cases k <;> cases t <;> exact kit_ty (by decide +kernel)
theorem kit_list (K : PySem.W.Frag) (k : Dp.Kd) : ∀ ts : List Dp.Ty, PySem.W.kitAny K (.type (kdS k)) (ts.map fun t => .type (tyS t)) = some (ts.any (Dp.kdTy k))
  | [] => rfl
  | t :: ts => by
    rw [List.map_cons, List.any_cons]
    refine kitAny_cons (kit_all K k t) (fun h => ?_) (fun h => ?_)
    · rw [h, Bool.false_or]; exact kit_list K k ts
    · rw [h, Bool.true_or]
theorem kd_ty {k : Dp.Kd} (q : Sub F H) (hx : PRep R H F d x) (h : Dp.kdOf d = some k) : TyX R.K H x (.type (kdS k)) := by
  cases d with
  | non => cases h; rw [show x = _ from hx]; exact .base .non
  | bl b => cases h; rw [show x = _ from hx]; exact .base (.bl b)
  | int b => cases h; rw [show x = _ from hx]; exact .base (.int b)
  | str b => cases h; rw [show x = _ from hx]; exact .base (.str _)
  | tup b =>
    cases h
    obtain ⟨a, vs, e1, h1, r1⟩ := hx
    rw [e1]
    exact .base (.tup (q _ _ h1))
  | lst b =>
    cases h
    obtain ⟨a, vs, e1, h1, r1⟩ := hx
    rw [e1]
    exact .base (.lst h1)
  | kt b =>
    cases h
    obtain ⟨a, vs, e1, h1, r1⟩ := hx
    rw [e1]
    rcases q.sqT h1 with (h1 | ⟨o, h1⟩) | ⟨o, its, n, h1, h2, _⟩
    · exact .base (.tup h1)
    · exact .fTuple h1
    · exact .kTuple h1 h2
  | dct t ks ws => cases t with
    | false =>
      cases h
      obtain ⟨a, vs, e1, h1, r1⟩ := hx
      rw [e1]
      exact .base (.dK h1)
    | true =>
      cases h
      obtain ⟨a, vs, e1, h1, r1⟩ := hx
      rw [e1]
      exact .base (.dT h1)
  | _ => cases h

/-! ### methods -/
theorem strs_rep : ∀ {ds : List Dp.D} {vs : List V} {ss : List (List Nat)}, Reps R F ds vs → Dp.strsD ds = some ss → vs = (ss.map fun s => (⟨s.toArray⟩ : Str)).map V.str
  | [], _, _, h, e => by
    rw [show _ = [] from h]
    cases e
    rfl
  | d :: ds, _, _, ⟨v, ws, h0, h1, h2⟩, e => by
    cases d with
    | str s =>
      rw [Dp.strsD] at e
      obtain ⟨cs, e1, rfl⟩ := Option.map_eq_some_iff.mp e
      rw [h0, show v = .str _ from h1, strs_rep h2 e1]
      rfl
    | _ => cases e
theorem join_eq (S : List Nat) : ∀ ss : List (List Nat), TL.joinL S ss = Dp.joinC S ss
  | [] => rfl
  | [_] => rfl
  | p :: q :: r => by rw [TL.joinL, Dp.joinC, join_eq S (q :: r)]
theorem occ_one {t : List Nat} {c n : Nat} (h : t.findIdx? (· == c) = some n) : ∃ rest, Builtin.Str.occurrences ⟨t.toArray⟩ ⟨#[c]⟩ 0 (⟨t.toArray⟩ : Str).length 1 = n :: rest := by
  have hn : t[n]? = some c ∧ ∀ k, k < n → t[k]? ≠ some c := by
    rw [List.findIdx?_eq_some_iff_getElem] at h
    obtain ⟨hl, h1, h2⟩ := h
    refine ⟨by rw [List.getElem?_eq_getElem hl, beq_iff_eq.mp h1], fun k hk e => ?_⟩
    have hk2 : k < t.length := Nat.lt_trans hk hl
    have := h2 k hk
    rw [List.getElem?_eq_getElem hk2] at e
    cases e
    simp at this
  rcases PySem.StrLaws.occ_head ⟨t.toArray⟩ ⟨#[c]⟩ 1 (Nat.le_refl _) with ⟨_, no⟩ | ⟨i, rest, e, at_, no⟩
  · exact absurd ((PySem.StrLaws.subAt_one ⟨t.toArray⟩ c n).mpr (by simpa using hn.1)) (no n)
  · have hi : t[i]? = some c := by simpa using (PySem.StrLaws.subAt_one ⟨t.toArray⟩ c i).mp at_
    have e1 : i = n := by
      rcases Nat.lt_trichotomy i n with h1 | h1 | h1
      · exact absurd hi (hn.2 i h1)
      · exact h1
      · exact absurd ((PySem.StrLaws.subAt_one ⟨t.toArray⟩ c n).mpr (by simpa using hn.1)) (no n h1)
    subst e1
    exact ⟨rest, e⟩
def rJoin (K : PySem.W.Frag) : V → List V → Hp → VK → Prop := fun x xs H Q => ∃ a p, ∃ ys : List Str, x = .str a ∧ xs = [.ref p] ∧ (SqL K H p (ys.map V.str) ∨ SqT K H p (ys.map V.str)) ∧
    (ys.map (·.length)).sum + ys.length * a.length ≤ 16777216 ∧ Q (.str (Txt.join a ys)) H
def rSindex : V → List V → Hp → VK → Prop := fun x xs H Q => ∃ a b i rest, x = .str a ∧ xs = [.str b] ∧ Builtin.Str.occurrences a b 0 a.length 1 = i :: rest ∧ Q (.int (i : Nat)) H
theorem join_ok (q : DRel R A σ H F δ) (hx : PRep R H F d x) (hy : PRep R H F e y) (h : Dp.m1D .join d e = some r) (f : Fin R A H F r Q) : rJoin R.K x [y] H Q := by
  cases d with
  | str s => cases e with
    | lst xs =>
      obtain ⟨a, vs, e1, h1, r1⟩ := hy
      rw [Dp.m1D] at h
      cases e2 : Dp.strsD xs with
      | none => rw [e2] at h; cases h
      | some ss =>
        rw [e2] at h
        dsimp only at h
        split at h
        · rename_i z
          cases h
          rw [strs_rep r1 e2] at h1
          refine ⟨_, a, _, hx, by rw [e1], .inl (SqL.of h1), ?_, f.val q.tab ?_⟩
          · rw [List.map_map, List.length_map, strLen]
            exact z
          · show V.str _ = V.str _
            congr 1
            refine TL.ext_tl ?_
            rw [TL.join_eq, TL.tl_join, ← join_eq, List.map_map]
            congr 1
            exact List.map_id _
        · cases h
    | _ => cases h
  | _ => cases h
theorem sindex_ok (q : DRel R A σ H F δ) (hx : PRep R H F d x) (hy : PRep R H F e y) (h : Dp.m1D .sindex d e = some r) (f : Fin R A H F r Q) : rSindex x [y] H Q := by
  cases d with
  | str t => cases e with
    | str s => match s, h with
      | [c], h =>
        obtain ⟨n, h1, rfl⟩ := Option.map_eq_some_iff.mp (show (t.findIdx? (· == c)).map (fun (n : Nat) => Dp.RV.val (.int n)) = some r from h)
        obtain ⟨rest, h2⟩ := occ_one h1
        exact ⟨_, _, n, rest, hx, by rw [show y = _ from hy], h2, f.val q.tab rfl⟩
      | [], h => cases h
      | _ :: _ :: _, h => cases h
    | _ => cases h
  | _ => cases h
end
end DpS
end

section
set_option Elab.async false
set_option linter.all false
set_option maxRecDepth 100000
set_option maxHeartbeats 4000000
set_option autoImplicit false
/-! DpB7: what a def's run knows (XOk); expressions without calls. -/
namespace DpS
open PySem PySem.Spec L2

/-! ### what a function promises, by data -/
structure CStep (T : List (Addr × Str)) (m : Option Addr) (H F H' F' : Hp) : Prop where
  keep : ∀ b o, H b = some o → ¬ Tb o → m ≠ some b → H' b = some o
  there : ∀ b, ¬ Nt H b → ¬ Nt H' b
  more : Sub F F'
  new : ∀ b o, F' b = some o → F b = some o ∨ Nt H b
  sub : Sub F' H'
  ntb : ∀ b o, F' b = some o → ¬ Tb o
  tab : LamX.Tabs T H'
def RelFR (R : RC) (H H' F' : Hp) (v : V) : Dp.FR → Prop
  | .val d => Rep R F' d v
  | .fr o => ∃ b, v = .ref b ∧ Nt H b ∧ F' b = none ∧ ObAt R H' F' b o
def FPost (R : RC) (T : List (Addr × Str)) (m : Option Addr) (H F : Hp) (out : Dp.Fout) (Q : VK) (E : XK) : Prop :=
  match out, m with
  | .ok r none, none => ∀ v H' F', CStep T none H F H' F' → RelFR R H H' F' v r → Q v H'
  | .ok r (some o'), some a => ∀ v H' F', CStep T (some a) H F H' F' → F' a = none → ObAt R H' F' a o' → RelFR R H H' F' v r → Q v H'
  | .exc x none, none => ∀ H' F' c dx, CStep T none H F H' F' → XRel R x c dx H' F' → E c dx H'
  | .exc x (some o'), some a => ∀ H' F' c dx, CStep T (some a) H F H' F' → F' a = none → ObAt R H' F' a o' → XRel R x c dx H' F' → E c dx H'
  | _, _ => False
def spD (R : RC) (T : List (Addr × Str)) (g : Option Dp.Ob → List Dp.D → Dp.Fout) (np : Nat) : Sp := fun vs H Q E => vs.length = np ∧ ∃ F, Sub F H ∧ (∀ b o, F b = some o → ¬ Tb o) ∧ LamX.Tabs T H ∧
  ((∃ ds, Reps R F ds vs ∧ FPost R T none H F (g none ds) Q E) ∨
    ∃ a ws o ds, vs = .ref a :: ws ∧ F a = none ∧ ObAt R H F a o ∧ Reps R F ds ws ∧ FPost R T (some a) H F (g (some o) ds) Q E)

/-- what a law knows, fixed through all its defs: the names of the defs, of the constants; which are there -/
structure LX where
  R : RC
  T : List (Addr × Str)
  fnm : Nat → Option Str
  fnp : Nat → Nat
  gnm : Nat → Option Str
  tnm : Nat → Option Str
  xnm : Nat → Option Str
  /-- the defs; the classes raised with one argument; those that are made; the fields -/
  dfn : Nat → Bool
  xam : Nat → Option Str
  cnm : Nat → Option Str
  cnp : Nat → Nat
  anm : Nat → Option Str
/-- without told calls -/
def LX.bare (L : LX) : LX := { L with tnm := fun _ => none }
def bnames : List Str := ["abs", "all", "any", "int", "len", "list", "tuple", "sum", "max", "min", "sorted", "set", "str", "repr", "dict", "isinstance", "range", "enumerate", "zip", "bool"]
/-- the context X runs a body in the scope sc with the names N; G tells its callees -/
structure XOk0 (L : LX) (G : Dp.Gam) (N : List Str) (sc : Scope) (cal : Bool) (A : Act) (W : WX) (X : Cx) : Prop where
  K : X.K = L.R.K
  N : X.N = N
  sc : X.env.scope = sc
  nd : X.N.Nodup
  calm : cal = true → X.calm = true
  units : X.A.units + 65 < cLine
  tk : Takes X W
  T : A.T = L.T
  free : ∀ x ∈ bnames, X.mg x = none
  glob : ∀ i d, G.glob i = some d → ∃ x v u, L.gnm i = some x ∧ X.mg x = some u ∧ RelV v u ∧ Rep L.R (fun _ => none) d v
  fns : ∀ f x, L.fnm f = some x → cal = true → ∃ k fd ps, Room k X.A ∧ ps.length = L.fnp f ∧ FnOk X.prog X.w X.K X.mg X.base (L2.CX X.prog X.w) k (L.R.fa f) fd ps (spD L.R L.T (G.fn f) ps.length) ∧
    X.mg x = some (.ref (L.R.fa f)) ∧ PySem.W.keepIn X.K (.ref (L.R.fa f)) = true ∧ Binds X.K fd ps []
  inj : ∀ i j, L.R.an i = L.R.an j → i = j
  insts : ∀ c, (G.initOf c).isSome = true → Cls X.K (L.R.ca c) ∧ ∀ i y, L.anm i = some y → L.R.an i = y ∧ NoAttr X.K (L.R.ca c) y
  mks : ∀ c x, L.cnm c = some x → cal = true → ∃ f k fd ps, G.initOf c = some f ∧ L.cnp c = L.fnp f ∧ Room (k + 1) X.A ∧ ps.length = L.fnp f ∧ Mk X.K (L.R.ca c) (L.R.fa f) ∧ FnOk X.prog X.w X.K X.mg X.base (L2.CX X.prog X.w) k (L.R.fa f) fd ps (spD L.R L.T (G.fn f) ps.length) ∧
    X.mg x = some (.ref (L.R.ca c)) ∧ Binds X.K fd ps []
/-- a global's name -/
def glB (sc : Scope) (x : Str) : Bool := match sc.names.lookup x with
  | some .globalImplicit => true
  | _ => false
def okName (x : Str) : Bool := !(x == ("__debug__" : Str)) && !(x == ("__classdict__" : Str))
/-- the parameters of a lambda that is handed to a told def: none, or one of a written int -/
def lamPs : Arguments → Option (List Str)
  | ⟨[], [], none, [], [], none, []⟩ => some []
  | ⟨[], [a], none, [], [], none, [.Constant (.int _) _ _]⟩ => some [a.arg]
  | _ => none
/-- its names: parameters that are no slots, captured ones, globals -/
def lamScB (N : List Str) (sc scope : Scope) (ps : List Str) : Bool :=
  decide (scope.kind = .function) && !scope.isCoroutine && !scope.isGenerator && (scope.names.all fun y => !decide (y.2 = .cell) && (!decide (y.2 = .local) || (ps.contains y.1 && !N.contains y.1)) &&
    (!decide (y.2 = .free) || decide (sc.names.lookup y.1 = some .cell) || decide (sc.names.lookup y.1 = some .free))) && ps.all fun a => decide (scope.names.lookup a = some .local)
def lamOk (N : List Str) (sc scope : Scope) (params : Arguments) : Bool := match lamPs params with
  | some ps => lamScB N sc scope ps
  | none => false
def ToldOk (L : LX) (G : Dp.Gam) (N : List Str) (sc : Scope) (A : Act) (W : WX) (X : Cx) : Prop :=
  ∀ f x, L.tnm f = some x → glB sc x = true → okName x = true → ∀ (params : Arguments) (body : Expr) (scope : Scope) (lpos p pos : Pos) (fb : Dp.E), lamOk N sc scope params = true →
    (∀ A' W' X', XOk0 L G N scope true A' W' X' → PE X' body (tE L.R A' W' (Dp.ev G fb))) → PE X (.Call (.Name x p) [.Lambda params body scope lpos] [] pos) (tE L.R A W (Dp.ev G (.tld f fb)))
/-- another context of the same def -/
structure SameC (X X' : Cx) : Prop where
  prog : X'.prog = X.prog
  w : X'.w = X.w
  K : X'.K = X.K
  mg : X'.mg = X.mg
  base : X'.base = X.base
  A : X'.A = X.A
  code : X'.env.code = X.env.code
  qual : X'.env.qual = X.env.qual
theorem SameC.refl (X : Cx) : SameC X X := ⟨rfl, rfl, rfl, rfl, rfl, rfl, rfl, rfl⟩
theorem SameC.trans {X Y Z : Cx} (a : SameC X Y) (b : SameC Y Z) : SameC X Z := ⟨b.prog.trans a.prog, b.w.trans a.w, b.K.trans a.K, b.mg.trans a.mg, b.base.trans a.base, b.A.trans a.A, b.code.trans a.code, b.qual.trans a.qual⟩
structure XOk (L : LX) (G : Dp.Gam) (N1 : List Str) (sc1 : Scope) (cal : Bool) (A : Act) (W : WX) (X : Cx) : Prop extends XOk0 L G N1 sc1 cal A W X where
  told : cal = true → ∀ N' sc' W' X', SameC X X' → XOk0 L G N' sc' true A W' X' → ToldOk L G N' sc' A W' X'
section
variable {L : LX} {G : Dp.Gam} {N : List Str} {sc : Scope} {cal : Bool} {A : Act} {W : WX} {X : Cx}
theorem XOk0.bare (h : XOk0 L G N sc cal A W X) : XOk L.bare G N sc cal A W X :=
  ⟨⟨h.K, h.N, h.sc, h.nd, h.calm, h.units, h.tk, h.T, h.free, h.glob, h.fns, h.inj, h.insts, h.mks⟩, fun _ _ _ _ _ _ _ _ _ z => nomatch z⟩
theorem XOk0.uncalm (h : XOk0 L G N sc cal A W X) : XOk0 L G N sc false A W X :=
  ⟨h.K, h.N, h.sc, h.nd, (fun z => nomatch z), h.units, h.tk, h.T, h.free, h.glob, fun _ _ _ z => (nomatch z), h.inj, h.insts, fun _ _ _ z => nomatch z⟩
end

/-! ### checks of the syntax -/
def visB (sc : Scope) (x : Str) : Bool := match sc.names.lookup x with
  | some .local => true
  | some .cell => true
  | some .free => true
  | _ => false
def locB (sc : Scope) (x : Str) : Bool := match sc.names.lookup x with
  | some .local => true
  | some .cell => true
  | _ => false
theorem vis_of {sc : Scope} {x : Str} (h : visB sc x = true) : Vis sc x := by
  unfold visB at h
  split at h
  · rename_i e; exact .inl e
  · rename_i e; exact .inr (.inl e)
  · rename_i e; exact .inr (.inr e)
  · cases h
theorem gl_of {sc : Scope} {x : Str} (h : glB sc x = true) : sc.names.lookup x = some .globalImplicit := by
  unfold glB at h
  split at h
  · assumption
  · cases h
theorem loc_of {sc : Scope} {x : Str} (h : locB sc x = true) : Loc sc x := by
  unfold locB at h
  split at h
  · rename_i e; exact .inl e
  · rename_i e; exact .inr e
  · cases h
theorem okName_of {x : Str} (h : okName x = true) : (x == ("__debug__" : Str)) = false ∧ (x == ("__classdict__" : Str)) = false := by
  unfold okName at h
  rw [Bool.and_eq_true, Bool.not_eq_true', Bool.not_eq_true'] at h
  exact h
theorem band {a b : Bool} (h : (a && b) = true) : a = true ∧ b = true := Bool.and_eq_true_iff.mp h
def notStar : Expr → Bool
  | .Starred _ _ => false
  | _ => true
theorem star_cons {e : Expr} (h : notStar e = true) (es : List Expr) (env : Env) : starEach (e :: es) env = (false, eval e env) :: starEach es env := by
  cases e <;> first | rfl | cases h
theorem star_plain (pos : Pos) (env : Env) : ∀ es : List Expr, es.all notStar = true → (backTo pos (starEach es env)).any (·.1) = false
  | [], _ => rfl
  | e :: es, h => by
    rw [List.all_cons, Bool.and_eq_true] at h
    rw [star_cons h.1]
    show (false || (backTo pos (starEach es env)).any (·.1)) = false
    rw [Bool.false_or]
    exact star_plain pos env es h.2
def isSet : Expr → Bool
  | .Set _ _ _ => true
  | _ => false
def isSlice : Expr → Bool
  | .Slice _ _ _ _ => true
  | _ => false
theorem mark_no {e : Expr} (op : CmpOp) (h : isSet e = false) : behindInMarks op e = false := by
  cases e <;> first | rfl | cases h
theorem plainIx {e : Expr} (h : isSlice e = false) : PlainIx e := by
  intro o i
  cases e <;> first | rfl | cases h
/-- what isTrue asks by the value -/
def plainTest : Expr → Bool
  | .UnaryOp .Not _ _ => false
  | .BoolOp _ _ _ => false
  | .IfExp _ _ _ _ => false
  | .Compare _ _ _ _ => false
  | _ => true
theorem plain_true {e : Expr} (h : plainTest e = true) (env : Env) : ∀ whole, isTrue e env whole = (do let v ← whole; standAt e.pos; holding [v] (truthy v)) := by
  intro whole
  cases e with
  | UnaryOp op a p => cases op <;> first | rfl | cases h
  | BoolOp _ _ _ => cases h
  | IfExp _ _ _ _ => cases h
  | Compare _ _ _ _ => cases h
  | _ => rfl
def constOf : Dp.D → Const → Bool
  | .non, .none => true
  | .bl a, .bool b => a == b
  | .int i, .int j => decide (i = j)
  | .str s, .str z => decide (z = ⟨s.toArray⟩)
  | _, _ => false

section
variable {L : LX} {G : Dp.Gam} {N : List Str} {sc : Scope} {cal : Bool} {A : Act} {W : WX} {X : Cx} {x : Expr}
theorem _root_.L2.PE.imp {X : Cx} {e : Expr} {t t' : TE} (h : PE X e t) (k : ∀ σ H Q, t' σ H Q → t σ H Q) : PE X e t' := ⟨fun pins s σ H Q I q => h.run pins s σ H Q I (k σ H Q q)⟩
theorem _root_.L2.PT.imp {X : Cx} {e : Expr} {t t' : TT} (h : PT X e t) (k : ∀ σ H Q, t' σ H Q → t σ H Q) : PT X e t' := ⟨fun pins s σ H Q I q => h.run pins s σ H Q I (k σ H Q q)⟩
theorem _root_.L2.PA.imp {X : Cx} {e : List Expr} {t t' : TA} (h : PA X e t) (k : ∀ σ H Q, t' σ H Q → t σ H Q) : PA X e t' := ⟨fun pos pins s σ H Q I q => h.run pos pins s σ H Q I (k σ H Q q)⟩

/-- the expression x evaluates as f tells -/
def DE (L : LX) (G : Dp.Gam) (N : List Str) (sc : Scope) (cal : Bool) (x : Expr) (f : Dp.DSt → Dp.Out Dp.RV) : Prop :=
  ∀ A W X, XOk L G N sc cal A W X → PE X x (tE L.R A W f)
def DT (L : LX) (G : Dp.Gam) (N : List Str) (sc : Scope) (cal : Bool) (x : Expr) (f : Dp.DSt → Dp.Out Bool) : Prop :=
  ∀ A W X, XOk L G N sc cal A W X → PT X x (tT L.R A W f)
def DA (L : LX) (G : Dp.Gam) (N : List Str) (sc : Scope) (cal : Bool) (x : List Expr) (f : Dp.DSt → Dp.Out (List Dp.D)) : Prop :=
  ∀ A W X, XOk L G N sc cal A W X → PA X x (tA L.R A W f)

/-! ### values -/
/-- the truth of a value -/
theorem Post.truth {R : RC} {o : Dp.Out Dp.RV} {σ : St} {H F : Hp} {δ : Dp.DSt} {Q : Bool → Hp → Prop} (h : Post R A W RlT σ H F δ (Dp.truth o) Q) : Post R A W (RlE R A) σ H F δ o fun x H1 => ∃ c, x = .bl c ∧ Q c H1 := by
  cases o with
  | stuck => exact h.elim
  | exc x s => exact h
  | ok r s =>
    intro v H' F' q' st rr
    cases r with
    | val d => cases d with
      | bl b => exact ⟨b, rr, h b H' F' q' st rfl⟩
      | _ => exact h.elim
    | fr o => exact h.elim
    | bor i => exact h.elim
theorem Post.used {R : RC} {o : Dp.Out Dp.RV} {σ : St} {H F : Hp} {δ : Dp.DSt} {Q : VK} (q : DRel R A σ H F δ) (h : Post R A W (RlD R) σ H F δ o.used Q) : Post R A W (RlE R A) σ H F δ o Q := by
  cases o with
  | stuck => exact h.elim
  | exc x s => exact h
  | ok r s =>
    intro v H' F' q' st rr
    have h : Post R A W (RlD R) σ H F δ (match Dp.use r s with | some (d, s') => .ok d s' | none => .stuck) Q := h
    cases u : Dp.use r s with
    | none => rw [u] at h; exact h.elim
    | some p =>
      obtain ⟨d, s'⟩ := p
      rw [u] at h
      obtain ⟨F2, q2, rd, sub, new, own⟩ := use_rel rr q' u (fun a n => q.ntA n)
      refine h v H' F2 q2 ⟨st.keep, st.there, st.more.trans sub, fun a o ha => ?_, fun i o ho => ?_⟩ rd
      · rcases new a o ha with z | z | z
        · exact st.new a o z
        · exact .inr (.inl z)
        · exact .inr (.inr (st.ownS z))
      · obtain ⟨u, eu⟩ := own i o ho
        exact st.own i u eu
theorem truth_val {R : RC} {f : Dp.DSt → Dp.Out Dp.RV} {σ : St} {H : Hp} {Q : Bool → Hp → Prop} (h : tT R A W (fun δ => Dp.truth (f δ)) σ H Q) : tE R A W f σ H fun x H1 => ∃ c, x = .bl c ∧ Q c H1 :=
  let ⟨F, δ, q, h⟩ := h
  ⟨F, δ, q, Post.truth h⟩
theorem used_val {R : RC} {f : Dp.DSt → Dp.Out Dp.RV} {σ : St} {H : Hp} {Q : VK} (h : tD R A W (fun δ => (f δ).used) σ H Q) : tE R A W f σ H Q :=
  let ⟨F, δ, q, h⟩ := h
  ⟨F, δ, q, Post.used q h⟩

/-! ### names, constants -/
theorem de_v {i : Nat} {y : Str} {p : Pos} (h1 : N[i]? = some y) (h2 : visB sc y = true) (h3 : okName y = true) : DE L G N sc cal (.Name y p) (Dp.ev G (.v i)) := by
  intro A W X xo
  refine (pe_var (i := i) (by rw [xo.N]; exact h1) (by rw [xo.sc]; exact vis_of h2) (okName_of h3).1 (okName_of h3).2).imp fun σ H Q ⟨F, δ, q, h⟩ => ?_
  rw [Dp.ev] at h
  cases e : δ[i]? with
  | none => rw [e] at h; exact h.elim
  | some s =>
    rw [e] at h
    cases s with
    | un => exact h.elim
    | sh d =>
      obtain ⟨v, e1, r⟩ := q.sh i d e
      exact ⟨v, e1, h v H F q Stp.refl r⟩
    | ow o =>
      obtain ⟨a, e1, _⟩ := q.ow i o e
      exact ⟨_, e1, h _ H F q Stp.refl e1⟩
    | bo o =>
      obtain ⟨a, e1, _⟩ := q.bo i o e
      exact ⟨_, e1, h _ H F q Stp.refl e1⟩
theorem de_k {d : Dp.D} {c : Const} {k : Nat} {p : Pos} (h : constOf d c = true) : DE L G N sc cal (.Constant c k p) (Dp.ev G (.k d)) := by
  intro A W X xo
  have key : ∀ v : V, Rep L.R (fun _ => none) d v → PE X (.Constant c k p) (tC v) → PE X (.Constant c k p) (tE L.R A W (Dp.ev G (.k d))) := fun v rv pe =>
    pe.imp fun σ H Q ⟨F, δ, q, h⟩ => by
      rw [Dp.ev] at h
      exact h v H F q Stp.refl (Rep.sub (F := fun _ => none) (fun _ _ z => nomatch z) rv)
  cases d with
  | non => cases c with
    | none => exact key .non rfl pe_non
    | _ => cases h
  | bl b => cases c with
    | bool b' => exact key (.bl b') (by rw [beq_iff_eq.mp (show (b == b') = true from h)]; rfl) pe_bl
    | _ => cases h
  | int i => cases c with
    | int j => exact key (.int j) (by rw [of_decide_eq_true (show decide (i = j) = true from h)]; rfl) pe_int
    | _ => cases h
  | str s => cases c with
    | str z => exact key (.str z) (by rw [of_decide_eq_true (show decide (z = ⟨s.toArray⟩) = true from h)]; rfl) pe_str
    | _ => cases h
  | _ => cases h
theorem de_glb {i : Nat} {y : Str} {p : Pos} (h1 : L.gnm i = some y) (h2 : glB sc y = true) (h3 : okName y = true) : DE L G N sc cal (.Name y p) (Dp.ev G (.glb i)) := by
  intro A W X xo
  cases e : G.glob i with
  | none =>
    refine ⟨fun pins s σ H Q I ⟨F, δ, q, h⟩ => ?_⟩
    rw [Dp.ev, e] at h
    exact h.elim
  | some d =>
    obtain ⟨y', v, u, e1, e2, r, rp⟩ := xo.glob i d e
    rw [h1] at e1
    cases e1
    refine (pe_glob (x := y) (by unfold Gl Env.kindOf; rw [xo.sc]; exact gl_of h2) e2 r (okName_of h3).1).imp fun σ H Q ⟨F, δ, q, h⟩ => ?_
    rw [Dp.ev, e] at h
    exact h v H F q Stp.refl (Rep.sub (F := fun _ => none) (fun _ _ z => nomatch z) rp)

/-! ### operators -/
variable {a b c : Expr} {fa fb fc : Dp.E} {p : Pos}
theorem Post.peek1 {β γ : Type} {Rm : St → Hp → Hp → Hp → Dp.DSt → β → γ → Prop} {R : RC} {σ : St} {H F Hq : Hp} {δ : Dp.DSt} {v : V} {r : Dp.RV} {k : Dp.D → Dp.Out β} {Q : γ → Hp → Prop} (q : DRel R A σ H F δ) (rr : RelRV R A σ Hq H F δ v r)
    (h : Post R A W Rm σ H F δ (Dp.peek1 r δ k) Q) : ∃ d, PRep R H F d v ∧ Post R A W Rm σ H F δ (k d) Q := by
  unfold Dp.peek1 at h
  cases e : Dp.peek r δ with
  | none => rw [e] at h; exact h.elim
  | some d =>
    rw [e] at h
    exact ⟨d, rr.peek q e, h⟩
theorem Post.peek2 {β γ : Type} {Rm : St → Hp → Hp → Hp → Dp.DSt → β → γ → Prop} {R : RC} {σ : St} {H F Hq Hr : Hp} {δ : Dp.DSt} {v w : V} {r t : Dp.RV} {k : Dp.D → Dp.D → Dp.Out β} {Q : γ → Hp → Prop} (q : DRel R A σ H F δ) (rr : RelRV R A σ Hq H F δ v r) (rt : RelRV R A σ Hr H F δ w t)
    (h : Post R A W Rm σ H F δ (Dp.peek2 r t δ k) Q) : ∃ d e, PRep R H F d v ∧ PRep R H F e w ∧ Post R A W Rm σ H F δ (k d e) Q := by
  unfold Dp.peek2 at h
  cases e1 : Dp.peek r δ with
  | none => rw [e1] at h; exact h.elim
  | some d => cases e2 : Dp.peek t δ with
    | none => rw [e1, e2] at h; exact h.elim
    | some e =>
      rw [e1, e2] at h
      exact ⟨d, e, rr.peek q e1, rt.peek q e2, h⟩
/-- two operands, then an operator by what they are -/
theorem two_peek {R : RC} {σ : St} {H : Hp} {Q : VK} {r : R2} {f g : Dp.DSt → Dp.Out Dp.RV} {k : Dp.D → Dp.D → Dp.DSt → Dp.Out Dp.RV}
    (h : tE R A W (fun δ => (f δ).bind fun r δ1 => (g δ1).bind fun q δ2 => Dp.peek2 r q δ2 fun x y => k x y δ2) σ H Q)
    (ok : ∀ x y H F δ d e, DRel R A σ H F δ → PRep R H F d x → PRep R H F e y → Post R A W (RlE R A) σ H F δ (k d e δ) Q → r x y H Q) : tOp r (tE R A W f) (tE R A W g) σ H Q :=
  tP.bind back_E h fun x H1 F1 r1 δ1 q1 k1 rr1 h1 => ⟨F1, δ1, q1, h1.bind back_E fun y H2 F2 r2 δ2 _ q2 st2 rr2 h2 =>
    let ⟨d, e, px, py, h3⟩ := Post.peek2 q2 (rr1.step st2) rr2 h2
    ok x y H2 F2 δ2 d e q2 px py h3⟩
theorem de_bin {o : Dp.Bop} (ha : DE L G N sc cal a (Dp.ev G fa)) (hb : DE L G N sc cal b (Dp.ev G fb)) : DE L G N sc cal (.BinOp a (bopOf o) b p) (Dp.ev G (.bin o fa fb)) := by
  intro A W X xo
  have op : OpR X (binaryOp (bopOf o)) (rBin L.R.K o) := by rw [← xo.K]; exact op_bin o
  refine (pe_op op (ha A W X xo) (hb A W X xo)).imp fun σ H Q h => ?_
  refine two_peek (k := fun x y δ => Dp.Out.lift δ (Dp.binD o x y)) h fun x y H F δ d e q px py h2 => ?_
  obtain ⟨w, e3, f⟩ := Post.lift q h2
  exact bin_ok q px py e3 f
end
end DpS
end

section
set_option Elab.async false
set_option linter.all false
set_option maxRecDepth 100000
set_option maxHeartbeats 4000000
set_option autoImplicit false
/-! DpB8: the other expressions without calls of defs. -/
namespace DpS
open PySem PySem.Spec L2
section
variable {L : LX} {G : Dp.Gam} {N : List Str} {sc : Scope} {cal : Bool} {A : Act} {W : WX} {X : Cx} {x : Expr}
variable {a b c : Expr} {fa fb fc : Dp.E} {p : Pos} {es : List Expr}
theorem Post.bl {R : RC} {σ : St} {H F : Hp} {δ : Dp.DSt} {Q : VK} {b : Bool} (q : DRel R A σ H F δ) (h : Post R A W (RlE R A) σ H F δ (.ok (.val (.bl b)) δ) Q) : Q (.bl b) H := h (.bl b) H F q Stp.refl rfl
theorem de_cmp {o : Dp.Cop} (hm : isSet b = false) (ha : DE L G N sc cal a (Dp.ev G fa)) (hb : DE L G N sc cal b (Dp.ev G fb)) : DE L G N sc cal (.Compare a [copOf o] [b] p) (Dp.ev G (.cmp o fa fb)) := by
  intro A W X xo
  have op : OpR X (compareOp (copOf o)) (rCmp L.R.K o) := by rw [← xo.K]; exact op_cmp xo.units o
  refine (pe_cmpR op (ha A W X xo) (hb A W X xo) (mark_no _ hm)).imp fun σ H Q h => ?_
  refine two_peek (k := fun x y δ2 => Dp.Out.lift δ2 ((Dp.cmpD o x y).map fun b => .val (.bl b))) h fun x y H F δ d e q hx hy h2 => ?_
  cases e3 : Dp.cmpD o d e with
  | none => rw [e3] at h2; exact h2.elim
  | some t =>
    rw [e3] at h2
    exact cmp_ok q hx hy e3 (Post.bl q h2)
theorem dt_cmp {o : Dp.Cop} (hm : isSet b = false) (ha : DE L G N sc cal a (Dp.ev G fa)) (hb : DE L G N sc cal b (Dp.ev G fb)) : DT L G N sc cal (.Compare a [copOf o] [b] p) (fun δ => Dp.truth (Dp.ev G (.cmp o fa fb) δ)) := by
  intro A W X xo
  have op : OpR X (compareOp (copOf o)) (rCmp L.R.K o) := by rw [← xo.K]; exact op_cmp xo.units o
  refine (pt_cmpR op (ha A W X xo) (hb A W X xo) (mark_no _ hm)).imp fun σ H Q h => ?_
  refine two_peek (k := fun x y δ2 => Dp.Out.lift δ2 ((Dp.cmpD o x y).map fun b => .val (.bl b))) (truth_val h) fun x y H F δ d e q hx hy h2 => ?_
  cases e3 : Dp.cmpD o d e with
  | none => rw [e3] at h2; exact h2.elim
  | some t =>
    rw [e3] at h2
    exact cmp_ok q hx hy e3 (Post.bl q h2)
/-- a test by the value -/
theorem dt_val {f : Dp.DSt → Dp.Out Dp.RV} (hp : plainTest a = true) (ha : DE L G N sc cal a f) : DT L G N sc cal a (fun δ => Dp.truth (f δ)) := fun A W X xo =>
  (pt_val (ha A W X xo) (plain_true hp _)).imp fun σ H Q h => truth_val h
theorem Post.val {R : RC} {σ : St} {H F : Hp} {δ : Dp.DSt} {Q : VK} {d : Dp.D} {v : V} (q : DRel R A σ H F δ) (h : Post R A W (RlE R A) σ H F δ (.ok (.val d) δ) Q) (r : Rep R F d v) : Q v H := h v H F q Stp.refl r
theorem de_neg (ha : DE L G N sc cal a (Dp.ev G fa)) : DE L G N sc cal (.UnaryOp .USub a p) (Dp.ev G (.neg fa)) := by
  intro A W X xo
  refine (pe_un un_neg (ha A W X xo)).imp fun σ H Q h => ?_
  refine tP.bind (f := Dp.ev G fa) (g := fun r δ1 => Dp.peek1 r δ1 fun x => Dp.Out.lift δ1 ((Dp.negD x).map .val)) back_E h fun x H1 F1 r δ1 q1 k1 rr1 h1 => ?_
  obtain ⟨d, px, h2⟩ := Post.peek1 q1 rr1 h1
  cases d with
  | int i => exact ⟨i, px, h2 _ H1 F1 q1 Stp.refl rfl⟩
  | _ => exact h2.elim
theorem de_nt (ha : DE L G N sc cal a (Dp.ev G fa)) : DE L G N sc cal (.UnaryOp .Not a p) (Dp.ev G (.nt fa)) := by
  intro A W X xo
  refine (pe_not (ha A W X xo)).imp fun σ H Q h => ?_
  refine truth_val (tP.bind (f := fun δ => Dp.truth (Dp.ev G fa δ)) (g := fun b δ1 => .ok (.val (.bl (!b))) δ1) back_E h fun b H1 F1 t δ1 q1 k1 rr1 h1 => ?_)
  rw [show t = b from rr1] at h1
  exact Post.bl q1 h1
theorem dt_nt (ha : DT L G N sc cal a (fun δ => Dp.truth (Dp.ev G fa δ))) : DT L G N sc cal (.UnaryOp .Not a p) (fun δ => Dp.truth (Dp.ev G (.nt fa) δ)) := by
  intro A W X xo
  refine (pt_not (ha A W X xo)).imp fun σ H Q h => ?_
  have h : tT L.R A W (fun δ => (Dp.truth (Dp.ev G fa δ)).bind fun b δ1 => .ok (!b) δ1) σ H Q := by
    obtain ⟨F, δ, q, h⟩ := h
    refine ⟨F, δ, q, ?_⟩
    have h : Post L.R A W RlT σ H F δ (Dp.truth ((Dp.truth (Dp.ev G fa δ)).bind fun b δ1 => .ok (.val (.bl (!b))) δ1)) Q := h
    show Post L.R A W RlT σ H F δ ((Dp.truth (Dp.ev G fa δ)).bind fun b δ1 => .ok (!b) δ1) Q
    cases e : Dp.truth (Dp.ev G fa δ) with
    | ok t s => rw [e] at h; exact h
    | exc _ _ => rw [e] at h; exact h
    | stuck => rw [e] at h; exact h
  refine tP.bind back_T h fun b H1 F1 t δ1 q1 k1 rr1 h1 => ?_
  rw [show t = b from rr1] at h1
  exact h1 _ H1 F1 q1 Stp.refl rfl
theorem non_iff {R : RC} {H F : Hp} {d : Dp.D} {v : V} (h : PRep R H F d v) : decide (v = .non) = Dp.isNon d := by
  cases d with
  | non => rw [show v = .non from h]; rfl
  | bl _ => rw [show v = _ from h]; rfl
  | int _ => rw [show v = _ from h]; rfl
  | str _ => rw [show v = _ from h]; rfl
  | fn _ => rw [show v = _ from h]; rfl
  | tup _ => obtain ⟨_, _, rfl, _⟩ := h; rfl
  | lst _ => obtain ⟨_, _, rfl, _⟩ := h; rfl
  | kt _ => obtain ⟨_, _, rfl, _⟩ := h; rfl
  | dct t _ _ => cases t with
    | false => obtain ⟨_, _, rfl, _⟩ := h; rfl
    | true => obtain ⟨_, _, rfl, _⟩ := h; rfl
  | set _ => exact h.elim
  | obj _ _ => obtain ⟨_, _, _, rfl, _⟩ := h; rfl
  | scr _ => obtain ⟨_, rfl, _⟩ := h; rfl
/-- the operator that asks for None -/
def isOp (n : Bool) : CmpOp := cond n .Is .IsNot
theorem op_isn (n : Bool) : OpR X (compareOp (isOp n)) (fun x y H Q => y = .non ∧ Q (.bl (cond n (decide (x = .non)) (!decide (x = .non)))) H) := by
  cases n with
  | true => exact op_isN
  | false => exact op_notN
theorem isn_key {n : Bool} {R : RC} {σ : St} {H : Hp} {Q : VK} (h : tE R A W (Dp.ev G (.isn n fa)) σ H Q) : tOp (fun x y H Q => y = .non ∧ Q (.bl (cond n (decide (x = .non)) (!decide (x = .non)))) H) (tE R A W (Dp.ev G fa)) (tC .non) σ H Q := by
  refine tP.bind (f := Dp.ev G fa) (g := fun r δ1 => Dp.peek1 r δ1 fun x => .ok (.val (.bl (cond n (Dp.isNon x) (!Dp.isNon x)))) δ1) back_E h fun x H1 F1 r δ1 q1 k1 rr1 h1 => ?_
  obtain ⟨d, px, h2⟩ := Post.peek1 q1 rr1 h1
  refine ⟨rfl, ?_⟩
  rw [non_iff px]
  exact Post.bl q1 h2
theorem de_isn {n : Bool} {j : Nat} {p2 : Pos} (ha : DE L G N sc cal a (Dp.ev G fa)) : DE L G N sc cal (.Compare a [isOp n] [.Constant .none j p2] p) (Dp.ev G (.isn n fa)) := fun A W X xo =>
  (pe_cmpR (op_isn n) (ha A W X xo) pe_non (mark_no _ rfl)).imp fun σ H Q h => isn_key h
theorem dt_isn {n : Bool} {j : Nat} {p2 : Pos} (ha : DE L G N sc cal a (Dp.ev G fa)) : DT L G N sc cal (.Compare a [isOp n] [.Constant .none j p2] p) (fun δ => Dp.truth (Dp.ev G (.isn n fa) δ)) := fun A W X xo =>
  (pt_cmpR (op_isn n) (ha A W X xo) pe_non (mark_no _ rfl)).imp fun σ H Q h => isn_key (truth_val h)
/-- a chain of two comparisons -/
theorem chn_key {o o' : Dp.Cop} {R : RC} {σ : St} {H : Hp} {Q : VK} (h : tE R A W (Dp.ev G (.chn o o' fa fb fc)) σ H Q) : tChain (rCmp R.K o) (rCmp R.K o') (tE R A W (Dp.ev G fa)) (tE R A W (Dp.ev G fb)) (tE R A W (Dp.ev G fc)) σ H Q := by
  refine tP.bind (f := Dp.ev G fa) (g := fun r σ1 => (Dp.ev G fb σ1).bind fun q σ2 => Dp.peek2 r q σ2 fun x y => (Dp.Out.lift σ2 (Dp.cmpD o x y)).bind fun t σ2' =>
      if t then (Dp.ev G fc σ2').bind fun t σ3 => Dp.peek2 q t σ3 fun y z => Dp.Out.lift σ3 ((Dp.cmpD o' y z).map fun b => .val (.bl b)) else .ok (.val (.bl false)) σ2') back_E h fun x H1 F1 r1 δ1 q1 k1 rr1 h1 =>
    ⟨F1, δ1, q1, h1.bind back_E fun y H2 F2 r2 δ2 _ q2 st2 rr2 h2 => ?_⟩
  obtain ⟨d, e, px, py, h3⟩ := Post.peek2 q2 (rr1.step st2) rr2 h2
  cases ec : Dp.cmpD o d e with
  | none => rw [ec] at h3; exact h3.elim
  | some t =>
    rw [ec] at h3
    refine cmp_ok q2 px py ec ⟨t, rfl, ?_⟩
    cases t with
    | false =>
      rw [if_neg Bool.false_ne_true]
      exact Post.bl q2 h3
    | true =>
      rw [if_pos rfl]
      have h3 : Post R A W (RlE R A) σ H2 F2 δ2 ((Dp.ev G fc δ2).bind fun t σ3 => Dp.peek2 r2 t σ3 fun y z => Dp.Out.lift σ3 ((Dp.cmpD o' y z).map fun b => .val (.bl b))) Q := h3
      refine ⟨F2, δ2, q2, h3.bind back_E fun z H4 F4 r4 δ4 _ q4 st4 rr4 h4 => ?_⟩
      obtain ⟨d', e', py', pz, h5⟩ := Post.peek2 q4 (rr2.step st4) rr4 h4
      cases ec' : Dp.cmpD o' d' e' with
      | none => rw [ec'] at h5; exact h5.elim
      | some t' =>
        rw [ec'] at h5
        exact cmp_ok q4 py' pz ec' (Post.bl q4 h5)
theorem lastMarks_no {o o' : CmpOp} (h : isSet c = false) : lastMarks [o, o'] [b, c] = false := by
  show behindInMarks o' c = false
  exact mark_no _ h
theorem de_chn {o o' : Dp.Cop} (hm : isSet c = false) (ha : DE L G N sc cal a (Dp.ev G fa)) (hb : DE L G N sc cal b (Dp.ev G fb)) (hc : DE L G N sc cal c (Dp.ev G fc)) : DE L G N sc cal (.Compare a [copOf o, copOf o'] [b, c] p) (Dp.ev G (.chn o o' fa fb fc)) := by
  intro A W X xo
  have op : OpR X (compareOp (copOf o)) (rCmp L.R.K o) := by rw [← xo.K]; exact op_cmp xo.units o
  have op' : OpR X (compareOp (copOf o')) (rCmp L.R.K o') := by rw [← xo.K]; exact op_cmp xo.units o'
  exact (pe_chain op op' (ha A W X xo) (hb A W X xo) (hc A W X xo) (lastMarks_no hm)).imp fun σ H Q h => chn_key h
theorem dt_chn {o o' : Dp.Cop} (hm : isSet c = false) (ha : DE L G N sc cal a (Dp.ev G fa)) (hb : DE L G N sc cal b (Dp.ev G fb)) (hc : DE L G N sc cal c (Dp.ev G fc)) : DT L G N sc cal (.Compare a [copOf o, copOf o'] [b, c] p) (fun δ => Dp.truth (Dp.ev G (.chn o o' fa fb fc) δ)) := by
  intro A W X xo
  have op : OpR X (compareOp (copOf o)) (rCmp L.R.K o) := by rw [← xo.K]; exact op_cmp xo.units o
  have op' : OpR X (compareOp (copOf o')) (rCmp L.R.K o') := by rw [← xo.K]; exact op_cmp xo.units o'
  have pe := (pe_chain (pos := p) op op' (ha A W X xo) (hb A W X xo) (hc A W X xo) (lastMarks_no hm)).imp fun σ H Q h => chn_key h
  exact (pt_chain op op' (ha A W X xo) (hb A W X xo) (hc A W X xo) (lastMarks_no hm)).imp fun σ H Q h => chn_key (truth_val h)
end
end DpS
end

section
set_option Elab.async false
set_option linter.all false
set_option maxRecDepth 100000
set_option maxHeartbeats 4000000
set_option autoImplicit false
/-! DpB9: and, or, conditional; displays; subscripts; slices; built-ins. -/
namespace DpS
open PySem PySem.Spec L2
section
variable {L : LX} {G : Dp.Gam} {N : List Str} {sc : Scope} {cal : Bool} {A : Act} {W : WX} {X : Cx} {x : Expr}
variable {a b c : Expr} {fa fb fc : Dp.E} {p : Pos} {es : List Expr} {fs : Dp.Es}
def DW (L : LX) (G : Dp.Gam) (N : List Str) (sc : Scope) (cal : Bool) (op : BoolOp) (es : List Expr) (p : Pos) (f : Dp.DSt → Dp.Out Bool) : Prop :=
  ∀ A W X, XOk L G N sc cal A W X → PW X (.BoolOp op es p) (tT L.R A W f)
theorem _root_.L2.PW.imp {X : Cx} {e : Expr} {t t' : TT} (h : PW X e t) (k : ∀ σ H Q, t' σ H Q → t σ H Q) : PW X e t' := ⟨fun wh pins s σ H Q I q => h.run wh pins s σ H Q I (k σ H Q q)⟩
theorem and_truth (δ : Dp.DSt) : Dp.truth (Dp.ev G (.and fa fb) δ) = (Dp.truth (Dp.ev G fa δ)).bind fun t σ1 => if t then Dp.truth (Dp.ev G fb σ1) else .ok false σ1 := by
  show Dp.truth ((Dp.truth (Dp.ev G fa δ)).bind fun t σ1 => if t then Dp.ev G fb σ1 else .ok (.val (.bl false)) σ1) = _
  cases Dp.truth (Dp.ev G fa δ) with
  | ok t s => cases t <;> rfl
  | exc _ _ => rfl
  | stuck => rfl
theorem or_truth (δ : Dp.DSt) : Dp.truth (Dp.ev G (.or fa fb) δ) = (Dp.truth (Dp.ev G fa δ)).bind fun t σ1 => if t then .ok true σ1 else Dp.truth (Dp.ev G fb σ1) := by
  show Dp.truth ((Dp.truth (Dp.ev G fa δ)).bind fun t σ1 => if t then .ok (.val (.bl true)) σ1 else Dp.ev G fb σ1) = _
  cases Dp.truth (Dp.ev G fa δ) with
  | ok t s => cases t <;> rfl
  | exc _ _ => rfl
  | stuck => rfl
theorem ite_truth (δ : Dp.DSt) : Dp.truth (Dp.ev G (.ite fc fa fb) δ) = (Dp.truth (Dp.ev G fc δ)).bind fun t σ1 => if t then Dp.truth (Dp.ev G fa σ1) else Dp.truth (Dp.ev G fb σ1) := by
  show Dp.truth ((Dp.truth (Dp.ev G fc δ)).bind fun t σ1 => if t then Dp.ev G fa σ1 else Dp.ev G fb σ1) = _
  cases Dp.truth (Dp.ev G fc δ) with
  | ok t s => cases t <;> rfl
  | exc _ _ => rfl
  | stuck => rfl
theorem tP.congr {α β : Type} {R : RC} {Rl : St → Hp → Hp → Hp → Dp.DSt → α → β → Prop} {f g : Dp.DSt → Dp.Out α} {σ : St} {H : Hp} {Q : β → Hp → Prop} (h : tP R A W Rl f σ H Q) (e : ∀ δ, f δ = g δ) : tP R A W Rl g σ H Q := by
  rw [← funext e]; exact h
theorem dw_one {op : BoolOp} {f : Dp.DSt → Dp.Out Bool} (ha : DT L G N sc cal a f) : DW L G N sc cal op [a] p f := fun A W X xo => by
  cases op with
  | And => exact pw_and1 (ha A W X xo)
  | Or => exact pw_or1 (ha A W X xo)
theorem de_one {op : BoolOp} {f : Dp.DSt → Dp.Out Dp.RV} (ha : DE L G N sc cal a f) : DE L G N sc cal (.BoolOp op [a] p) f := fun A W X xo => pe_one (ha A W X xo)
theorem dw_and (ha : DT L G N sc cal a (fun δ => Dp.truth (Dp.ev G fa δ))) (hb : DW L G N sc cal .And (b :: es) p (fun δ => Dp.truth (Dp.ev G fb δ))) :
    DW L G N sc cal .And (a :: b :: es) p (fun δ => Dp.truth (Dp.ev G (.and fa fb) δ)) := by
  intro A W X xo
  refine (pw_and (ha A W X xo) (hb A W X xo)).imp fun σ H Q h => ?_
  refine tP.bind back_T (h.congr and_truth) fun t H1 F1 t' δ1 q1 k1 rr1 h1 => ?_
  rw [show t' = t from rr1] at h1
  cases t with
  | true => rw [if_pos rfl]; exact ⟨F1, δ1, q1, h1⟩
  | false => rw [if_neg Bool.false_ne_true]; exact h1 _ H1 F1 q1 Stp.refl rfl
theorem dw_or (ha : DT L G N sc cal a (fun δ => Dp.truth (Dp.ev G fa δ))) (hb : DW L G N sc cal .Or (b :: es) p (fun δ => Dp.truth (Dp.ev G fb δ))) :
    DW L G N sc cal .Or (a :: b :: es) p (fun δ => Dp.truth (Dp.ev G (.or fa fb) δ)) := by
  intro A W X xo
  refine (pw_or (ha A W X xo) (hb A W X xo)).imp fun σ H Q h => ?_
  refine tP.bind back_T (h.congr or_truth) fun t H1 F1 t' δ1 q1 k1 rr1 h1 => ?_
  rw [show t' = t from rr1] at h1
  cases t with
  | true => rw [if_pos rfl]; exact h1 _ H1 F1 q1 Stp.refl rfl
  | false => rw [if_neg Bool.false_ne_true]; exact ⟨F1, δ1, q1, h1⟩
theorem de_and (ha : DE L G N sc cal a (Dp.ev G fa)) (hb : DE L G N sc cal (.BoolOp .And (b :: es) p) (Dp.ev G fb)) : DE L G N sc cal (.BoolOp .And (a :: b :: es) p) (Dp.ev G (.and fa fb)) := by
  intro A W X xo
  refine (pe_and (ha A W X xo) (hb A W X xo)).imp fun σ H Q h => ?_
  refine truth_val (tP.bind (f := fun δ => Dp.truth (Dp.ev G fa δ)) (g := fun t σ1 => if t then Dp.ev G fb σ1 else .ok (.val (.bl false)) σ1) back_E h fun t H1 F1 t' δ1 q1 k1 rr1 h1 => ?_)
  rw [show t' = t from rr1] at h1
  cases t with
  | true => rw [if_pos rfl]; exact ⟨F1, δ1, q1, h1⟩
  | false => rw [if_neg Bool.false_ne_true]; exact Post.bl q1 h1
theorem de_or (ha : DE L G N sc cal a (Dp.ev G fa)) (hb : DE L G N sc cal (.BoolOp .Or (b :: es) p) (Dp.ev G fb)) : DE L G N sc cal (.BoolOp .Or (a :: b :: es) p) (Dp.ev G (.or fa fb)) := by
  intro A W X xo
  refine (pe_or (ha A W X xo) (hb A W X xo)).imp fun σ H Q h => ?_
  refine truth_val (tP.bind (f := fun δ => Dp.truth (Dp.ev G fa δ)) (g := fun t σ1 => if t then .ok (.val (.bl true)) σ1 else Dp.ev G fb σ1) back_E h fun t H1 F1 t' δ1 q1 k1 rr1 h1 => ?_)
  rw [show t' = t from rr1] at h1
  cases t with
  | true => rw [if_pos rfl]; exact Post.bl q1 h1
  | false => rw [if_neg Bool.false_ne_true]; exact ⟨F1, δ1, q1, h1⟩
theorem de_ite (hc : DT L G N sc cal c (fun δ => Dp.truth (Dp.ev G fc δ))) (ha : DE L G N sc cal a (Dp.ev G fa)) (hb : DE L G N sc cal b (Dp.ev G fb)) : DE L G N sc cal (.IfExp c a b p) (Dp.ev G (.ite fc fa fb)) := by
  intro A W X xo
  refine (pe_ifExp (hc A W X xo) (ha A W X xo) (hb A W X xo)).imp fun σ H Q h => ?_
  refine tP.bind (f := fun δ => Dp.truth (Dp.ev G fc δ)) (g := fun t σ1 => if t then Dp.ev G fa σ1 else Dp.ev G fb σ1) back_E h fun t H1 F1 t' δ1 q1 k1 rr1 h1 => ?_
  rw [show t' = t from rr1] at h1
  cases t with
  | true => rw [if_pos rfl]; exact ⟨F1, δ1, q1, h1⟩
  | false => rw [if_neg Bool.false_ne_true]; exact ⟨F1, δ1, q1, h1⟩
theorem pt_ifExp {tc ta tb : TT} (hc : PT X c tc) (ha : PT X a ta) (hb : PT X b tb) : PT X (.IfExp c a b p) (fun σ H Q => tc σ H fun k H1 => if k = true then ta σ H1 Q else tb σ H1 Q) := by
  refine ⟨fun pins s σ H Q I h => ?_⟩
  show wpAny _ _ (isTrue c X.env (eval c X.env) >>= fun k => if k = true then isTrue a X.env (eval a X.env) else isTrue b X.env (eval b X.env)) _ _ s
  refine wpAny_bind (thn (hc.run pins s σ H _ I h) fun k s1 ⟨H1, I1, q1⟩ => ?_)
  cases k with
  | true => exact ha.run pins s1 σ H1 Q I1 q1
  | false => exact hb.run pins s1 σ H1 Q I1 q1
theorem dt_ite (hc : DT L G N sc cal c (fun δ => Dp.truth (Dp.ev G fc δ))) (ha : DT L G N sc cal a (fun δ => Dp.truth (Dp.ev G fa δ))) (hb : DT L G N sc cal b (fun δ => Dp.truth (Dp.ev G fb δ))) :
    DT L G N sc cal (.IfExp c a b p) (fun δ => Dp.truth (Dp.ev G (.ite fc fa fb) δ)) := by
  intro A W X xo
  refine (pt_ifExp (hc A W X xo) (ha A W X xo) (hb A W X xo)).imp fun σ H Q h => ?_
  refine tP.bind back_T (h.congr ite_truth) fun t H1 F1 t' δ1 q1 k1 rr1 h1 => ?_
  rw [show t' = t from rr1] at h1
  cases t with
  | true => rw [if_pos rfl]; exact ⟨F1, δ1, q1, h1⟩
  | false => rw [if_neg Bool.false_ne_true]; exact ⟨F1, δ1, q1, h1⟩

/-! ### lists of arguments, displays -/
theorem da_nil : DA L G N sc cal [] (Dp.evs G .nil) := fun A W X xo => pa_nil.imp fun σ H Q ⟨F, δ, q, h⟩ => h [] H F q Stp.refl rfl
theorem da_cons (hs : notStar a = true) (ha : DE L G N sc cal a (Dp.ev G fa)) (hb : DA L G N sc cal es (Dp.evs G fs)) : DA L G N sc cal (a :: es) (Dp.evs G (.cons fa fs)) := by
  intro A W X xo
  refine (pa_cons (ha A W X xo) (hb A W X xo) (star_cons hs _ _)).imp fun σ H Q h => ?_
  refine used_val (tP.bind (Rl := RlD L.R) (f := fun δ => (Dp.ev G fa δ).used) (g := fun d σ1 => (Dp.evs G fs σ1).bind fun ds σ2 => .ok (d :: ds) σ2) back_A h fun v H1 F1 d δ1 q1 k1 rr1 h1 => ⟨F1, δ1, q1, h1.bind back_A fun vs H2 F2 ds δ2 _ q2 st2 rr2 h2 => ?_⟩)
  exact h2 (v :: vs) H2 F2 q2 Stp.refl (Reps.cons (Rep.sub st2.more rr1) rr2)
theorem de_tup {k : Nat} (hb : DA L G N sc cal es (Dp.evs G fs)) : DE L G N sc cal (.Tuple es k p) (Dp.ev G (.tup fs)) := by
  intro A W X xo
  refine (pe_tup (hb A W X xo)).imp fun σ H Q h => ?_
  refine tP.bind (Rl := RlA L.R) (f := Dp.evs G fs) (g := fun ds σ1 => if ds.length ≤ Dp.sizeLine then .ok (.val (.tup ds)) σ1 else .stuck) back_E h fun vs H1 F1 ds δ1 q1 k1 rr1 h1 => ?_
  by_cases z : ds.length ≤ Dp.sizeLine
  · rw [if_pos z] at h1
    exact ⟨by rw [Reps.length rr1, ← sizeL]; exact z, (Post.fin q1 h1).tup q1.tab q1.sub rr1⟩
  · rw [if_neg z] at h1; exact h1.elim
theorem de_lst (hb : DA L G N sc cal es (Dp.evs G fs)) : DE L G N sc cal (.List es p) (Dp.ev G (.lst fs)) := by
  intro A W X xo
  refine (pe_lst (hb A W X xo)).imp fun σ H Q h => ?_
  refine tP.bind (Rl := RlA L.R) (f := Dp.evs G fs) (g := fun ds σ1 => if ds.length ≤ Dp.sizeLine then .ok (.fr (.l ds)) σ1 else .stuck) back_E h fun vs H1 F1 ds δ1 q1 k1 rr1 h1 => ?_
  by_cases z : ds.length ≤ Dp.sizeLine
  · rw [if_pos z] at h1
    exact ⟨by rw [Reps.length rr1, ← sizeL]; exact z, (Post.fin q1 h1).lst q1.tab q1.sub rr1⟩
  · rw [if_neg z] at h1; exact h1.elim

/-! ### subscripts, slices -/
theorem de_sub (hm : isSlice b = false) (ha : DE L G N sc cal a (Dp.ev G fa)) (hb : DE L G N sc cal b (Dp.ev G fb)) : DE L G N sc cal (.Subscript a b p) (Dp.ev G (.sub fa fb)) := by
  intro A W X xo
  have op : IxR X (rSub L.R.K) := by rw [← xo.K]; exact ix_all (by have := xo.units; omega)
  refine (pe_ix op (ha A W X xo) (hb A W X xo) (plainIx hm)).imp fun σ H Q h => ?_
  refine two_peek (k := fun x y δ2 => Dp.Out.lift δ2 ((Dp.subD x y).map .val)) h fun x y H F δ d e q hx hy h2 => ?_
  cases e3 : Dp.subD d e with
  | none => rw [e3] at h2; exact h2.elim
  | some t =>
    rw [e3] at h2
    exact sub_ix_ok q hx hy e3 fun v rv => Post.val q h2 rv
def DO (L : LX) (G : Dp.Gam) (N : List Str) (sc : Scope) (cal : Bool) (x : Option Expr) (f : Dp.DSt → Dp.Out (Option Int)) : Prop :=
  ∀ A W X, XOk L G N sc cal A W X → PO X x (tP L.R A W (fun _ _ _ _ _ a b => a = b) f)
theorem back_eq {α : Type} : Back (fun _ _ _ _ _ (a b : α) => a = b) := fun _ _ _ _ _ _ _ _ _ h => h
theorem do_none : DO L G N sc cal none (fun δ => Dp.part true (Dp.ev G .om δ)) := fun A W X xo =>
  ⟨fun pins s σ H Q I h => po_none.run pins s σ H Q I (by obtain ⟨F, δ, q, h⟩ := h; exact h none H F q Stp.refl rfl)⟩
theorem do_some (ha : DE L G N sc cal a (Dp.ev G fa)) : DO L G N sc cal (some a) (fun δ => Dp.part false (Dp.ev G fa δ)) := fun A W X xo =>
  ⟨fun pins s σ H Q I h => (po_some (ha A W X xo)).run pins s σ H Q I (by
    obtain ⟨F, δ, q, h⟩ := h
    refine ⟨F, δ, q, ?_⟩
    have h : Post L.R A W (fun _ _ _ _ _ a b => a = b) σ H F δ (Dp.part false (Dp.ev G fa δ)) Q := h
    cases e : Dp.ev G fa δ with
    | stuck => rw [e] at h; exact h.elim
    | exc x s => rw [e] at h; exact h
    | ok r s =>
      rw [e] at h
      intro v H' F' q' st rr
      cases r with
      | val d => cases d with
        | int i => exact ⟨i, rr, h (some i) H' F' q' st rfl⟩
        | _ => exact h.elim
      | fr o => exact h.elim
      | bor i => exact h.elim)⟩
theorem de_slc {lo hi : Option Expr} {p2 : Pos} {fl fh : Dp.E} (ha : DE L G N sc cal a (Dp.ev G fa)) (hl : DO L G N sc cal lo (fun δ => Dp.part (Dp.isOm fl) (Dp.ev G fl δ))) (hh : DO L G N sc cal hi (fun δ => Dp.part (Dp.isOm fh) (Dp.ev G fh δ))) :
    DE L G N sc cal (.Subscript a (.Slice lo hi none p2) p) (Dp.ev G (.slc fa fl fh)) := by
  intro A W X xo
  have op : SlR X (rSlc L.R.K) := by rw [← xo.K]; exact sl_all
  refine (pe_slice op (ha A W X xo) (hl A W X xo) (hh A W X xo)).imp fun σ H Q h => ?_
  refine tP.bind (f := Dp.ev G fa) (g := fun r σ1 => (Dp.part (Dp.isOm fl) (Dp.ev G fl σ1)).bind fun l σ2 => (Dp.part (Dp.isOm fh) (Dp.ev G fh σ2)).bind fun h σ3 => Dp.peek1 r σ3 fun x => Dp.Out.lift σ3 (Dp.slcD x l h)) back_E h
    fun x H1 F1 r1 δ1 q1 k1 rr1 h1 => ⟨F1, δ1, q1, h1.bind back_E fun l H2 F2 l' δ2 _ q2 st2 rr2 h2 => ⟨F2, δ2, q2, h2.bind back_E fun u H3 F3 u' δ3 _ q3 st3 rr3 h3 => ?_⟩⟩
  obtain ⟨d, px, h4⟩ := Post.peek1 q3 ((rr1.step st2).step st3) h3
  obtain ⟨w, e3, f⟩ := Post.lift q3 h4
  rw [show l' = l from rr2, show u' = u from rr3] at e3
  exact slc_ok q3 px e3 f

/-! ### built-ins -/
theorem free_of {y : Str} (xo : XOk L G N sc cal A W X) (h : bnames.contains y = true) : X.mg y = none := xo.free y (List.contains_iff_mem.mp h)
theorem gl_X {y : Str} (xo : XOk L G N sc cal A W X) (h : glB sc y = true) : Gl X y := by
  unfold Gl Env.kindOf
  rw [xo.sc]
  exact gl_of h
/-- the name of a built-in -/
def b1N : Dp.B1 → Str
  | .abs => "abs" | .all => "all" | .any => "any" | .int => "int" | .len => "len" | .list => "list" | .tuple => "tuple" | .sum => "sum" | .max => "max" | .min => "min"
  | .sorted => "sorted" | .set => "set" | .str => "str" | .repr => "repr" | .dict => "dict" | .sset => "" | .lset => ""
theorem arg1 {R : RC} {f : Dp.DSt → Dp.Out Dp.RV} {σ : St} {H : Hp} {Q : VK} {k : Dp.D → Dp.DSt → Dp.Out Dp.RV} {r : List V → Hp → VK → Prop} (h : tE R A W (fun δ => (f δ).bind fun r δ1 => Dp.peek1 r δ1 fun x => k x δ1) σ H Q)
    (ok : ∀ x H F δ d, DRel R A σ H F δ → PRep R H F d x → Post R A W (RlE R A) σ H F δ (k d δ) Q → r [x] H Q) : tCB r (tCons (tE R A W f) tNil) σ H Q :=
  tP.bind back_E h fun x H1 F1 r1 δ1 q1 k1 rr1 h1 =>
    let ⟨d, px, h2⟩ := Post.peek1 q1 rr1 h1
    ok x H1 F1 δ1 d q1 px h2
theorem arg2 {R : RC} {f g : Dp.DSt → Dp.Out Dp.RV} {σ : St} {H : Hp} {Q : VK} {k : Dp.D → Dp.D → Dp.DSt → Dp.Out Dp.RV} {r : List V → Hp → VK → Prop} (h : tE R A W (fun δ => (f δ).bind fun r δ1 => (g δ1).bind fun q δ2 => Dp.peek2 r q δ2 fun x y => k x y δ2) σ H Q)
    (ok : ∀ x y H F δ d e, DRel R A σ H F δ → PRep R H F d x → PRep R H F e y → Post R A W (RlE R A) σ H F δ (k d e δ) Q → r [x, y] H Q) : tCB r (tCons (tE R A W f) (tCons (tE R A W g) tNil)) σ H Q :=
  tP.bind back_E h fun x H1 F1 r1 δ1 q1 k1 rr1 h1 => ⟨F1, δ1, q1, h1.bind back_E fun y H2 F2 r2 δ2 _ q2 st2 rr2 h2 =>
    let ⟨d, e, px, py, h3⟩ := Post.peek2 q2 (rr1.step st2) rr2 h2
    ok x y H2 F2 δ2 d e q2 px py h3⟩
theorem boot_b1 : ∀ b : Dp.B1, b1Here b = true → bootBuiltins (b1N b) = some (b1Of b) := by
  intro b h
  cases b <;> first | exact absurd h Bool.false_ne_true | decide +kernel
theorem free_b1 : ∀ b : Dp.B1, b1Here b = true → bnames.contains (b1N b) = true ∧ b1N b ≠ "__name__" ∧ (b1N b == ("__debug__" : Str)) = false := by
  intro b h
  cases b <;> first | exact absurd h Bool.false_ne_true | exact ⟨by decide +kernel, by decide +kernel, by decide +kernel⟩
theorem de_b1 {f : Dp.B1} {p1 : Pos} (hb : b1Here f = true) (hg : glB sc (b1N f) = true) (hc : cal = true) (hs : notStar a = true) (ha : DE L G N sc cal a (Dp.ev G fa)) : DE L G N sc cal (.Call (.Name (b1N f) p1) [a] [] p) (Dp.ev G (.b1 f fa)) := by
  intro A W X xo
  obtain ⟨n1, n2, n3⟩ := free_b1 f hb
  have op : CallR X (b1Of f) (rB1 L.R.K f) := by rw [← xo.K]; exact b1_rule (xo.calm hc) f
  have pa := pa_cons (ha A W X xo) pa_nil (star_cons hs [] X.env)
  have fin : ∀ σ H Q, tE L.R A W (Dp.ev G (.b1 f fa)) σ H Q → tCB (rB1 L.R.K f) (tCons (tE L.R A W (Dp.ev G fa)) tNil) σ H Q := fun σ H Q h =>
    arg1 (k := fun x δ1 => Dp.Out.lift δ1 (Dp.b1D f x)) h fun x H F δ d q px h2 =>
      let ⟨w, e3, g⟩ := Post.lift q h2
      b1_ok hb q px e3 g
  have hm := free_of xo n1
  have gl := gl_X xo hg
  have hv := boot_b1 f hb
  have hpl := star_plain p X.env [] rfl
  have ty : ∀ T, b1Of f = .type T → PE X (.Call (.Name (b1N f) p1) [a] [] p) (tE L.R A W (Dp.ev G (.b1 f fa))) := fun T e => by
    rw [e] at op hv
    exact (pe_callTy op gl hm hv pa n2 n3 (star_cons hs [] X.env) hpl).imp fin
  have bt : ∀ T, b1Of f = .builtin T → PE X (.Call (.Name (b1N f) p1) [a] [] p) (tE L.R A W (Dp.ev G (.b1 f fa))) := fun T e => by
    rw [e] at op hv
    exact (pe_callB op gl hm hv pa n2 n3 (star_cons hs [] X.env) hpl).imp fin
  cases f <;> first | exact ty _ rfl | exact bt _ rfl | exact absurd hb Bool.false_ne_true
def b2N : Dp.B2 → Str
  | .max => "max" | .min => "min"
theorem de_b2 {f : Dp.B2} {p1 : Pos} (hg : glB sc (b2N f) = true) (hc : cal = true) (hs : notStar a = true) (hs2 : notStar b = true) (ha : DE L G N sc cal a (Dp.ev G fa)) (hb : DE L G N sc cal b (Dp.ev G fb)) :
    DE L G N sc cal (.Call (.Name (b2N f) p1) [a, b] [] p) (Dp.ev G (.b2 f fa fb)) := by
  intro A W X xo
  have op := b2_rule (xo.calm hc) f
  have pa := pa_cons (ha A W X xo) (pa_cons (hb A W X xo) pa_nil (star_cons hs2 [] X.env)) (star_cons hs [b] X.env)
  have fin : ∀ σ H Q, tE L.R A W (Dp.ev G (.b2 f fa fb)) σ H Q → tCB (rB2 f) (tCons (tE L.R A W (Dp.ev G fa)) (tCons (tE L.R A W (Dp.ev G fb)) tNil)) σ H Q := fun σ H Q h =>
    arg2 (k := fun x y δ1 => Dp.Out.lift δ1 (Dp.b2D f x y)) h fun x y H F δ d e q px py h2 =>
      let ⟨w, e3, g⟩ := Post.lift q h2
      b2_ok q px py e3 g
  have hpl := star_plain p X.env [b] (by rw [List.all_cons, hs2]; rfl)
  cases f with
  | max => exact (pe_callB op (gl_X xo hg) (free_of xo (by decide +kernel)) (by decide +kernel) pa (by decide +kernel) (by decide +kernel) (star_cons hs [b] X.env) hpl).imp fin
  | min => exact (pe_callB op (gl_X xo hg) (free_of xo (by decide +kernel)) (by decide +kernel) pa (by decide +kernel) (by decide +kernel) (star_cons hs [b] X.env) hpl).imp fin
end
end DpS
end

section
set_option Elab.async false
set_option linter.all false
set_option maxRecDepth 100000
set_option maxHeartbeats 4000000
set_option autoImplicit false
/-! DpB10: isinstance, methods, calls of defs. -/
namespace DpS
open PySem PySem.Spec L2
section
variable {L : LX} {G : Dp.Gam} {N : List Str} {sc : Scope} {cal : Bool} {A : Act} {W : WX} {X : Cx} {x : Expr}
variable {a b c : Expr} {fa fb fc : Dp.E} {p : Pos} {es : List Expr} {fs : Dp.Es}

/-! ### isinstance -/
theorem PRep.move {R : RC} {H H' F F' : Hp} {d : Dp.D} {v : V} (h : PRep R H F d v) (k : ∀ a u, H a = some u → ¬ Tb u → H' a = some u) (s : Sub F F') : PRep R H' F' d v := by
  cases d with
  | lst xs => obtain ⟨a, vs, e, h1, h2⟩ := h; exact ⟨a, vs, e, k _ _ h1 (fun ⟨_, e⟩ => nomatch e), h2.sub s⟩
  | dct t ks ws => cases t with
    | false => obtain ⟨a, kvs, e, h1, h2, h3⟩ := h; exact ⟨a, kvs, e, k _ _ h1 (fun ⟨_, e⟩ => nomatch e), h2, h3.sub s⟩
    | true => obtain ⟨a, kvs, e, h1, h2, h3⟩ := h; exact ⟨a, kvs, e, k _ _ h1 (fun ⟨_, e⟩ => nomatch e), h2, h3.sub s⟩
  | obj c fs => obtain ⟨a, dx, gs, e, h1, h2⟩ := h; exact ⟨a, dx, gs, e, k _ _ h1 (fun ⟨_, e⟩ => nomatch e), h2.sub s⟩
  | non => exact h
  | bl _ => exact h
  | int _ => exact h
  | str _ => exact h
  | tup xs => exact Rep.sub s h
  | set _ => exact h
  | fn _ => exact h
  | scr _ => exact Rep.sub s h
  | kt _ => exact Rep.sub s h
theorem boot_ty : ∀ t : Dp.Ty, bootBuiltins (tyS t) = some (.type (tyS t)) := by
  intro t
  cases t <;> decide +kernel
theorem free_ty : ∀ t : Dp.Ty, bnames.contains (Str.ofString (tyS t)) = true ∧ (Str.ofString (tyS t)) ≠ "__name__" ∧ ((Str.ofString (tyS t)) == ("__debug__" : Str)) = false := by
  intro t
  cases t <;> exact ⟨by decide +kernel, by decide +kernel, by decide +kernel⟩
/-- the type t is named -/
def chkTy (sc : Scope) (t : Dp.Ty) : Expr → Bool
  | .Name y _ => decide (y = Str.ofString (tyS t)) && glB sc y
  | _ => false
def chkTys (sc : Scope) : List Dp.Ty → List Expr → Bool
  | [], [] => true
  | t :: ts, e :: es => chkTy sc t e && chkTys sc ts es
  | _, _ => false
theorem pe_ty {t : Dp.Ty} (xo : XOk L G N sc cal A W X) (h : chkTy sc t a = true) : PE X a (tC (.ty (tyS t))) := by
  cases a with
  | Name y p =>
    obtain ⟨h1, h2⟩ := band h
    have e := of_decide_eq_true h1
    subst e
    obtain ⟨n1, n2, n3⟩ := free_ty t
    exact pe_bltn (v := .ty (tyS t)) (gl_X xo h2) (free_of xo n1) (boot_ty t) rfl n2 n3
  | _ => cases h
theorem chkTy_star {t : Dp.Ty} (h : chkTy sc t a = true) : notStar a = true := by
  cases a <;> first | rfl | cases h
theorem pa_tys (xo : XOk L G N sc cal A W X) : ∀ (ts : List Dp.Ty) (es : List Expr), chkTys sc ts es = true → PA X es (fun σ H Q => Q (ts.map fun t => .ty (tyS t)) H)
  | [], [], _ => pa_nil
  | t :: ts, e :: es, h => by
    obtain ⟨h1, h2⟩ := band h
    exact (pa_cons (pe_ty xo h1) (pa_tys xo ts es h2) (star_cons (chkTy_star h1) _ _)).imp fun σ H Q q => q
  | [], _ :: _, h => by cases h
  | _ :: _, [], h => by cases h
theorem de_isi1 {t : Dp.Ty} {p1 : Pos} (hg : glB sc "isinstance" = true) (hs : notStar a = true) (ha : DE L G N sc cal a (Dp.ev G fa)) (hb : chkTy sc t b = true) :
    DE L G N sc cal (.Call (.Name "isinstance" p1) [a, b] [] p) (Dp.ev G (.isi fa [t])) := by
  intro A W X xo
  have op : CallR X (.builtin "isinstance") (rIsi L.R.K) := by rw [← xo.K]; exact call_isi
  have pa := pa_cons (ha A W X xo) (pa_cons (pe_ty xo hb) pa_nil (star_cons (chkTy_star hb) [] X.env)) (star_cons hs [b] X.env)
  refine (pe_callB op (gl_X xo hg) (free_of xo (by decide +kernel)) (by decide +kernel) pa (by decide +kernel) (by decide +kernel) (star_cons hs [b] X.env) (star_plain p X.env [b] (by rw [List.all_cons, chkTy_star hb]; rfl))).imp fun σ H Q h => ?_
  refine tP.bind (f := Dp.ev G fa) (g := fun r σ1 => Dp.peek1 r σ1 fun x => Dp.Out.lift σ1 ((Dp.kdOf x).map fun k => .val (.bl ([t].any (Dp.kdTy k))))) back_E h fun x H1 F1 r δ1 q1 k1 rr1 h1 => ?_
  obtain ⟨d, px, h2⟩ := Post.peek1 q1 rr1 h1
  cases ek : Dp.kdOf d with
  | none => rw [ek] at h2; exact h2.elim
  | some k =>
    rw [ek] at h2
    refine ⟨x, .ty (tyS t), .type (kdS k), .type (tyS t), Dp.kdTy k t, rfl, .ty _, kd_ty q1.sub px ek, kit_all L.R.K k t, ?_⟩
    have e : ([t].any (Dp.kdTy k)) = Dp.kdTy k t := by rw [List.any_cons, List.any_nil, Bool.or_false]
    have h2 : Post L.R A W (RlE L.R A) σ H1 F1 δ1 (.ok (.val (.bl ([t].any (Dp.kdTy k)))) δ1) Q := h2
    rw [e] at h2
    exact Post.bl q1 h2
theorem de_isiT {ts : List Dp.Ty} {p1 p2 : Pos} {n : Nat} (hg : glB sc "isinstance" = true) (hs : notStar a = true) (hl : ts.length ≤ 100) (ha : DE L G N sc cal a (Dp.ev G fa)) (hb : chkTys sc ts es = true) :
    DE L G N sc cal (.Call (.Name "isinstance" p1) [a, .Tuple es n p2] [] p) (Dp.ev G (.isi fa ts)) := by
  intro A W X xo
  have op : CallR X (.builtin "isinstance") (rIsiT L.R.K) := by rw [← xo.K]; exact call_isiT
  have pa := pa_cons (ha A W X xo) (pa_cons (pe_tup (x1 := n) (pos := p2) (pa_tys xo ts es hb)) pa_nil (star_cons rfl [] X.env)) (star_cons hs [.Tuple es n p2] X.env)
  refine (pe_callB op (gl_X xo hg) (free_of xo (by decide +kernel)) (by decide +kernel) pa (by decide +kernel) (by decide +kernel) (star_cons hs [.Tuple es n p2] X.env) (star_plain p X.env [.Tuple es n p2] rfl)).imp fun σ H Q h => ?_
  refine tP.bind (f := Dp.ev G fa) (g := fun r σ1 => Dp.peek1 r σ1 fun x => Dp.Out.lift σ1 ((Dp.kdOf x).map fun k => .val (.bl (ts.any (Dp.kdTy k))))) back_E h fun x H1 F1 r δ1 q1 k1 rr1 h1 => ?_
  obtain ⟨d, px, h2⟩ := Post.peek1 q1 rr1 h1
  refine ⟨by rw [List.length_map]; exact Nat.le_trans hl (by rw [← sizeL]; decide), fun tp htp => ?_⟩
  cases ek : Dp.kdOf d with
  | none => rw [ek] at h2; exact h2.elim
  | some k =>
    rw [ek] at h2
    have g := Grow.fresh (A := A) (F := F1) (o := .tup (ts.map fun t => V.ty (tyS t))) q1.tab htp
    have px' : PRep L.R (upd H1 tp (.tup (ts.map fun t => V.ty (tyS t)))) F1 d x := px.move (fun b u hu ht => g.keep b u hu ht) (Sub.refl _)
    have cs : ∀ l : List Dp.Ty, Paired ClsV (l.map fun t => V.ty (tyS t)) (l.map fun t => Value.type (tyS t)) := by
      intro l
      induction l with
      | nil => exact .nil
      | cons t l ih => exact .cons (.ty _) ih
    refine ⟨x, tp, _, .type (kdS k), ts.map fun t => .type (tyS t), ts.any (Dp.kdTy k), rfl, upd_same, cs ts, kd_ty (g.rel q1).sub px' ek, kit_list L.R.K k ts, ?_⟩
    exact h2 _ _ F1 (g.rel q1) g.step rfl

/-! ### calls of defs -/
theorem CStep.grow {T : List (Addr × Str)} {H F H' F' : Hp} (h : CStep T none H F H' F') (e : A.T = T) : Grow A H F H' F' :=
  ⟨fun b o h1 t => h.keep b o h1 t (by simp), h.more, fun b o h1 => (h.new b o h1).elim .inl fun n => .inr ⟨n, h.ntb b o h1, h.sub b o h1⟩, by rw [e]; exact h.tab⟩
theorem evs_len : ∀ (es : Dp.Es) (δ δ1 : Dp.DSt) (ds : List Dp.D), Dp.evs G es δ = .ok ds δ1 → ds.length = es.len
  | .nil, δ, δ1, ds, h => by cases h; rfl
  | .cons e es, δ, δ1, ds, h => by
    have h : ((Dp.ev G e δ).used.bind fun d σ1 => (Dp.evs G es σ1).bind fun ds σ2 => .ok (d :: ds) σ2) = .ok ds δ1 := h
    cases e1 : (Dp.ev G e δ).used with
    | stuck => rw [e1] at h; cases h
    | exc _ _ => rw [e1] at h; cases h
    | ok d s =>
      rw [e1] at h
      have h : ((Dp.evs G es s).bind fun ds σ2 => .ok (d :: ds) σ2) = .ok ds δ1 := h
      cases e2 : Dp.evs G es s with
      | stuck => rw [e2] at h; cases h
      | exc _ _ => rw [e2] at h; cases h
      | ok es2 s2 =>
        rw [e2] at h
        cases h
        show es2.length + 1 = es.len + 1
        rw [evs_len es s _ _ e2]
/-- behind a call, by data -/
theorem callN_post {R : RC} {T : List (Addr × Str)} {σ : St} {H F : Hp} {δ : Dp.DSt} {out : Dp.Fout} {Q : VK} (q : DRel R A σ H F δ) (eT : A.T = T) (h : Post R A W (RlE R A) σ H F δ (Dp.callN δ out) Q) : FPost R T none H F out Q (WE W σ) := by
  cases out with
  | stuck => exact h.elim
  | ok r m => cases m with
    | some _ => exact h.elim
    | none =>
      intro v H' F' cs rr
      have g := cs.grow eT
      have f := Post.fin q (r := Dp.rvOf r) h
      refine f v H' F' g ?_
      cases r with
      | val d => exact rr
      | fr o => exact rr
  | exc x m => cases m with
    | some _ => exact h.elim
    | none =>
      intro H' F' c dx cs xr
      have g := cs.grow eT
      exact h H' F' c dx (g.rel q) g.step xr
theorem de_call {f : Nat} {y : Str} {p1 : Pos} (hc : cal = true) (h1 : L.fnm f = some y) (h2 : glB sc y = true) (h3 : okName y = true) (hs : (a :: es).all notStar = true) (hn : fs.len = L.fnp f) (ha : DA L G N sc cal (a :: es) (Dp.evs G fs)) :
    DE L G N sc cal (.Call (.Name y p1) (a :: es) [] p) (Dp.ev G (.call f fs)) := by
  intro A W X xo
  obtain ⟨k, fd, ps, hr, np, F, hm, hk, hb⟩ := xo.fns f y h1 hc
  rw [List.all_cons, Bool.and_eq_true] at hs
  refine (pe_callS F hr (gl_X xo h2) hm hk hb (E := WE W) (fun σ => passAt xo.tk σ) (ha A W X xo) (okName_of h3).1 (star_cons hs.1 es X.env) (star_plain p X.env es hs.2)).imp fun σ H Q h => ?_
  obtain ⟨F0, δ0, q0, h⟩ := h
  have h : Post L.R A W (RlE L.R A) σ H F0 δ0 ((Dp.evs G fs δ0).bind fun ds σ1 => Dp.callN σ1 (G.fn f none ds)) Q := h
  refine ⟨F0, δ0, q0, h.bind back_E fun vs H1 F1 ds δ1 e1 q1 st1 rr1 h1 => ⟨?_, F1, q1.sub, q1.ntb, by rw [← xo.T]; exact q1.tab, .inl ⟨ds, rr1, callN_post q1 xo.T h1⟩⟩⟩
  rw [Reps.length rr1, evs_len fs δ0 δ1 ds e1, hn, np]
/-- behind a call that changed the object of slot i -/
theorem CStep.put {T : List (Addr × Str)} {R : RC} {σ : St} {H F H' F' : Hp} {δ : Dp.DSt} {i : Nat} {o o' : Dp.Ob} {ad : Addr} (h : CStep T (some ad) H F H' F') (e : A.T = T) (q : DRel R A σ H F δ) (hs : Dp.slotOb δ i = some o) (hv : σ[i]? = some (some (.ref ad)))
    (hF : F' ad = none) (ob : ObAt R H' F' ad o') : DRel R A σ H' F' (Dp.putOb δ i o') ∧ Stp A σ H F δ H' F' (Dp.putOb δ i o') := by
  have ownAd : Own A σ δ ad := by
    unfold Dp.slotOb at hs
    cases z : δ[i]? with
    | none => rw [z] at hs; cases hs
    | some s => cases s with
      | un => rw [z] at hs; cases hs
      | sh d => rw [z] at hs; cases hs
      | ow u => exact .inr ⟨i, u, z, hv⟩
      | bo u =>
        obtain ⟨b, e1, e2, _⟩ := q.bo i u z
        rw [hv] at e1
        cases e1
        exact .inl e2
  have nAd : ¬ Nt A.H0 ad → A.bo = some ad := fun n => by
    rcases ownAd with z | ⟨j, u, e1, e2⟩
    · exact z
    · obtain ⟨b, e3, _, n0, _, _⟩ := q.ow j u e1
      rw [e2] at e3
      cases e3
      exact absurd n0 n
  have keep : ∀ b u, H b = some u → ¬ Tb u → b ≠ ad → H' b = some u := fun b u h1 t ne => h.keep b u h1 t (fun z => ne (Option.some.inj z).symm)
  have noF : ∀ b, F b = none → ¬ Nt H b → F' b = none := fun b n t => by
    cases z : F' b with
    | none => rfl
    | some u =>
      rcases h.new b u z with w | w
      · rw [n] at w; cases w
      · exact absurd w t
  -- the slots
  have slots : ∀ j s, (Dp.putOb δ i o')[j]? = some s → (j = i ∧ ((∃ u, δ[i]? = some (.ow u) ∧ s = .ow o') ∨ (∃ u, δ[i]? = some (.bo u) ∧ s = .bo o'))) ∨ (j ≠ i ∧ δ[j]? = some s) := by
    intro j s hj
    unfold Dp.slotOb at hs
    unfold Dp.putOb at hj
    cases z : δ[i]? with
    | none => rw [z] at hs; cases hs
    | some w =>
      have hi : i < δ.length := (List.getElem?_eq_some_iff.mp z).1
      cases w with
      | un => rw [z] at hs; cases hs
      | sh d => rw [z] at hs; cases hs
      | ow u =>
        rw [z] at hj
        by_cases ij : j = i
        · subst ij
          have hj : (δ.set j (.ow o'))[j]? = some s := hj
          rw [List.getElem?_set_self hi] at hj
          cases hj
          exact .inl ⟨rfl, .inl ⟨u, rfl, rfl⟩⟩
        · have hj : (δ.set i (.ow o'))[j]? = some s := hj
          rw [List.getElem?_set_ne (Ne.symm ij)] at hj
          exact .inr ⟨ij, hj⟩
      | bo u =>
        rw [z] at hj
        by_cases ij : j = i
        · subst ij
          have hj : (δ.set j (.bo o'))[j]? = some s := hj
          rw [List.getElem?_set_self hi] at hj
          cases hj
          exact .inl ⟨rfl, .inr ⟨u, rfl, rfl⟩⟩
        · have hj : (δ.set i (.bo o'))[j]? = some s := hj
          rw [List.getElem?_set_ne (Ne.symm ij)] at hj
          exact .inr ⟨ij, hj⟩
  have len : (Dp.putOb δ i o').length = δ.length := by
    unfold Dp.putOb
    cases z : δ[i]? with
    | none => rfl
    | some w => cases w <;> first | rfl | exact List.length_set ..
  refine ⟨⟨q.len.trans len.symm, h.sub, q.old.trans h.more, h.ntb, fun j d hj => ?_, fun j u hj => ?_, fun j u hj => ?_, fun j k u w hj hk => ?_, fun b hb => ?_, fun j k u w b hj hk ej ek => ?_, fun b u hb t nb => ?_, by rw [e]; exact h.tab⟩,
    ⟨fun b u hb t no => keep b u hb t (fun z => no (by rw [z]; exact ownAd)), h.there, h.more, fun b u hb => (h.new b u hb).elim .inl fun n => .inr (.inl n), fun j u hj => ?_⟩⟩
  · rcases slots j _ hj with ⟨_, (⟨u, _, z⟩ | ⟨u, _, z⟩)⟩ | ⟨_, z⟩
    · cases z
    · cases z
    · obtain ⟨v, e1, r1⟩ := q.sh j d z
      exact ⟨v, e1, r1.sub h.more⟩
  · rcases slots j _ hj with ⟨rfl, (⟨w, e1, z⟩ | ⟨w, e1, z⟩)⟩ | ⟨ne, z⟩
    · cases z
      obtain ⟨b, e2, n, n0, nb, _⟩ := q.ow j w e1
      rw [hv] at e2
      cases e2
      exact ⟨ad, hv, hF, n0, nb, ob⟩
    · cases z
    · obtain ⟨b, e2, n, n0, nb, ob2⟩ := q.ow j u z
      have nba : b ≠ ad := fun zz => by
        subst zz
        rcases ownAd with y | ⟨k, w, e3, e4⟩
        · exact nb y
        · have e5 : i = k ∨ ∃ w, δ[i]? = some (.bo w) := by
            unfold Dp.slotOb at hs
            cases y : δ[i]? with
            | none => rw [y] at hs; cases hs
            | some s => cases s with
              | un => rw [y] at hs; cases hs
              | sh d => rw [y] at hs; cases hs
              | ow w2 => exact .inl (q.dis i k w2 w b y e3 hv e4)
              | bo w2 => exact .inr ⟨w2, rfl⟩
          rcases e5 with e5 | ⟨w2, e5⟩
          · subst e5
            exact ne (q.dis j i u w b z e3 e2 e4)
          · obtain ⟨c2, e6, e7, _⟩ := q.bo i w2 e5
            rw [hv] at e6
            cases e6
            exact nb e7
      exact ⟨b, e2, noF b n ob2.nnt, n0, nb, ob2.move (fun u2 h2 t => keep b u2 h2 t nba) h.more⟩
  · rcases slots j _ hj with ⟨rfl, (⟨w, e1, z⟩ | ⟨w, e1, z⟩)⟩ | ⟨ne, z⟩
    · cases z
    · cases z
      obtain ⟨b, e2, e3, _⟩ := q.bo j w e1
      rw [hv] at e2
      cases e2
      exact ⟨ad, hv, e3, ob⟩
    · obtain ⟨b, e2, e3, ob2⟩ := q.bo j u z
      by_cases zz : b = ad
      · subst zz
        -- another slot with the borrowed object: slot i holds it too
        exact ⟨b, e2, e3, by
          have : False := by
            rcases ownAd with y | ⟨k, w, e4, e5⟩
            · unfold Dp.slotOb at hs
              cases y2 : δ[i]? with
              | none => rw [y2] at hs; cases hs
              | some s => cases s with
                | un => rw [y2] at hs; cases hs
                | sh d => rw [y2] at hs; cases hs
                | ow w2 =>
                  obtain ⟨c2, e6, _, _, e7, _⟩ := q.ow i w2 y2
                  rw [hv] at e6
                  cases e6
                  exact e7 e3
                | bo w2 => exact ne (q.one j i u w2 z y2)
            · obtain ⟨c2, e6, _, _, e7, _⟩ := q.ow k w e4
              rw [e5] at e6
              cases e6
              exact e7 e3
          exact this.elim⟩
      · exact ⟨b, e2, e3, ob2.move (fun u2 h2 t => keep b u2 h2 t zz) h.more⟩
  · have bo1 : ∀ (j : Nat) (u : Dp.Ob), (Dp.putOb δ i o')[j]? = some (.bo u) → ∃ u2, δ[j]? = some (.bo u2) := fun j u hj => by
      rcases slots j _ hj with ⟨rfl, (⟨w, e1, z⟩ | ⟨w, e1, z⟩)⟩ | ⟨ne, z⟩
      · cases z
      · exact ⟨w, e1⟩
      · exact ⟨u, z⟩
    obtain ⟨u1, e1⟩ := bo1 j u hj
    obtain ⟨u2, e2⟩ := bo1 k w hk
    exact q.one j k u1 u2 e1 e2
  · obtain ⟨n, t⟩ := q.bt b hb
    by_cases zz : b = ad
    · subst zz; exact ⟨hF, ob.nnt⟩
    · exact ⟨noF b n t, h.there b t⟩
  · have own1 : ∀ (j : Nat) (u : Dp.Ob), (Dp.putOb δ i o')[j]? = some (.ow u) → ∃ u2, δ[j]? = some (.ow u2) := fun j u hj => by
      rcases slots j _ hj with ⟨rfl, (⟨w, e1, z⟩ | ⟨w, e1, z⟩)⟩ | ⟨ne, z⟩
      · exact ⟨w, e1⟩
      · cases z
      · exact ⟨u, z⟩
    obtain ⟨u1, e1⟩ := own1 j u hj
    obtain ⟨u2, e2⟩ := own1 k w hk
    exact q.dis j k u1 u2 b e1 e2 ej ek
  · have hb' := q.base b u hb t nb
    refine keep b u hb' t fun zz => ?_
    subst zz
    by_cases n0 : Nt A.H0 b
    · exact t (n0 u hb)
    · exact nb (nAd n0)
  · rcases slots j _ hj with ⟨rfl, (⟨w, e1, z⟩ | ⟨w, e1, z⟩)⟩ | ⟨ne, z⟩
    · exact ⟨w, e1⟩
    · cases z
    · exact ⟨u, z⟩
end
end DpS
end

section
set_option Elab.async false
set_option linter.all false
set_option maxRecDepth 100000
set_option maxHeartbeats 4000000
set_option autoImplicit false
/-! DpB11r: x[::-1] of a list, of a tuple. -/
namespace HT
open PySem PySem.Spec PyProof.Rows
section
variable {prog : Program} {w : World} {A : Around} {E : Value → Shared → Prop} {s : Shared}
theorem adjust_rev (n : Nat) : Builtin.Slice.sliceAdjust none none (-1) (n : Int) = ((n : Int) - 1, -1) := by
  unfold Builtin.Slice.sliceAdjust
  have h1 : ((-1 : Int) < 0) := by omega
  simp only [h1, if_true]
theorem places_rev (n : Nat) : Builtin.Slice.slicePlaces ((n : Int) - 1) (-1) (-1) = n := by
  unfold Builtin.Slice.slicePlaces
  have h1 : ¬ ((-1 : Int) > 0) := by omega
  simp only [h1, if_false]
  split
  · have : -(-1 : Int) = 1 := by omega
    rw [this, Int.ediv_one]
    omega
  · omega
theorem sliceApplied_rev {sl : Addr} {vl vu vs : Value} {n : Nat} {Q : Int × Int × Nat → Shared → Prop} (hs : s.heap.IsSliceOf sl vl vu vs) (pl : IsPart vl none) (pu : IsPart vu none) (ps : IsPart vs (some (-1)))
    (h : Q ((n : Int) - 1, -1, n) s) : wpAny (model prog w) A (Builtin.Slice.sliceApplied (.ref sl) (pure (n : Int))) Q E s := by
  obtain ⟨os, hos, hcs, hds⟩ := id hs
  unfold Builtin.Slice.sliceApplied Builtin.Slice.sliceFields
  refine wpAny_bind (wpAny_bind (wpAny_field hos hds (x := vl) rfl (wpAny_bind (wpAny_field hos hds (x := vu) rfl (wpAny_bind (wpAny_field hos hds (x := vs) rfl (wpAny_pure ?_)))))))
  refine wpAny_bind (slicePart_ ps ?_)
  show wpAny _ _ (if ((-1 : Int) == 0) = true then _ else _) _ _ s
  rw [if_neg (by decide)]
  refine wpAny_bind (slicePart_ pl (wpAny_bind (slicePart_ pu (wpAny_bind (wpAny_pure ?_)))))
  show wpAny _ _ (match Builtin.Slice.sliceAdjust none none (-1) (n : Int) with | (lo, hi) => pure (lo, (-1 : Int), Builtin.Slice.slicePlaces lo hi (-1))) _ _ s
  rw [adjust_rev n]
  show wpAny _ _ (pure ((n : Int) - 1, (-1 : Int), Builtin.Slice.slicePlaces ((n : Int) - 1) (-1) (-1))) _ _ s
  rw [places_rev]
  exact wpAny_pure h
theorem pick_rev (xs : Array Value) : ((List.range xs.size).filterMap fun (m : Nat) => xs[(((xs.size : Int) - 1) + (m : Int) * (-1)).toNat]?).toArray = xs.toList.reverse.toArray := by
  congr 1
  refine List.ext_getElem? fun i => ?_
  have key : ((List.range xs.size).filterMap fun (m : Nat) => xs[(((xs.size : Int) - 1) + (m : Int) * (-1)).toNat]?) = (List.range xs.size).map fun m => xs.toList.getD (xs.size - 1 - m) .none := by
    have gen : ∀ l : List Nat, (∀ m ∈ l, m < xs.size) → (l.filterMap fun (m : Nat) => xs[(((xs.size : Int) - 1) + (m : Int) * (-1)).toNat]?) = l.map fun m => xs.toList.getD (xs.size - 1 - m) .none := fun l hl => by
      induction l with
      | nil => rfl
      | cons m l ih =>
        have hm := hl m (List.mem_cons_self ..)
        have e : (((xs.size : Int) - 1) + (m : Int) * (-1)).toNat = xs.size - 1 - m := by omega
        have hlt : xs.size - 1 - m < xs.size := by omega
        have e2 : xs[(((xs.size : Int) - 1) + (m : Int) * (-1)).toNat]? = some (xs.toList.getD (xs.size - 1 - m) .none) := by
          rw [e, Array.getElem?_eq_getElem hlt, List.getD_eq_getElem?_getD, List.getElem?_eq_getElem (by rw [Array.length_toList]; exact hlt)]
          rfl
        rw [List.filterMap_cons, e2, List.map_cons, ih fun k hk => hl k (List.mem_cons_of_mem _ hk)]
    exact gen _ fun m hm => List.mem_range.mp hm
  rw [key, List.getElem?_map]
  by_cases hi : i < xs.size
  · rw [List.getElem?_range hi, List.getElem?_reverse (by rw [Array.length_toList]; exact hi), Array.length_toList]
    show some (xs.toList.getD (xs.size - 1 - i) .none) = _
    rw [List.getD_eq_getElem?_getD, List.getElem?_eq_getElem (by rw [Array.length_toList]; omega)]
    rfl
  · rw [List.getElem?_eq_none (by rw [List.length_range]; omega), List.getElem?_eq_none (by rw [List.length_reverse, Array.length_toList]; omega)]
    rfl
theorem getItem_tuple_rev {t sl : Addr} {items : Array Value} {vl vu vs : Value} {Q : Value → Shared → Prop} (ht : IsTup s.heap t items) (hs : s.heap.IsSliceOf sl vl vu vs) (pl : IsPart vl none) (pu : IsPart vu none) (ps : IsPart vs (some (-1)))
    (h : Q (.ref s.heap.objs.size) { s with heap := s.heap.push { cls := .type "tuple", data := .seq items.toList.reverse.toArray } }) (hsz : items.size ≤ sizeLine) : wpAny (model prog w) A (getItem (.ref t) (.ref sl)) Q E s := by
  have htake : sizeOk (.seq items.toList.reverse.toArray) := by
    show items.toList.reverse.toArray.size ≤ sizeLine
    rw [List.size_toArray, List.length_reverse, Array.length_toList]
    exact hsz
  obtain ⟨os, hos, hcs, hds⟩ := id hs
  have hTs : s.TypeIs (.ref sl) "slice" := ⟨os, hos, hcs⟩
  unfold getItem
  try with_reducible refine wpAny_holding ?_
  first | refine wpAny_bind (wpAny_pure ?_) | skip
  refine wpAny_bind (wpAny_sequenceKey ht.typeIs (by decide) ?_)
  refine wpAny_bind (wpAny_callSpecial?_slot (name := Str.ofString "__getitem__") ht.typeIs PyProof.Rows.slot_tuple_getitem
    (wpAny_call_entry PyProof.Rows.slot_tuple_getitem ht.typeIs entry_tuple_getitem ?_ (args_tuple_getitem _ _)))
  show wpAny _ _ (Builtin.Tuple.tupleItemsOf (.ref t) >>= _) _ _ s
  refine wpAny_bind (tupleItemsOf_ ht ?_)
  refine wpAny_bind (wpAny_typeOf hTs ?_)
  rw [if_pos (by decide)]
  refine wpAny_bind (sliceApplied_rev hs pl pu ps ?_)
  have hno : ¬ ((((items.size : Int) - 1) == 0 && (-1 : Int) == 1 && items.size == items.size) = true) := by
    intro q
    rw [Bool.and_eq_true, Bool.and_eq_true] at q
    exact absurd (eq_of_beq q.1.2) (by decide)
  show wpAny _ _ (if (((items.size : Int) - 1) == 0 && (-1 : Int) == 1 && items.size == items.size) = true then _ else _) _ _ s
  rw [if_neg hno, pick_rev]
  first
    | exact wpAny_bind (m := Builtin.Tuple.tupleExact _) (wpAny_newObj_type (wpAny_pure ⟨_, rfl, wpAny_pure h⟩) htake)
    | exact wpAny_bind (m := Builtin.Tuple.tupleExact _) (wpAny_newObj_type (wpAny_bind (wpAny_pure (wpAny_pure ⟨_, rfl, wpAny_pure h⟩))) htake)
    | exact wpAny_bind (wpAny_bind (m := Builtin.Tuple.tupleExact _) (wpAny_newObj_type (wpAny_pure (wpAny_pure ⟨_, rfl, wpAny_pure h⟩)) htake))
    | exact wpAny_bind (wpAny_bind (m := Builtin.Tuple.tupleExact _) (wpAny_newObj_type (wpAny_pure ⟨_, rfl, wpAny_pure h⟩) htake))
end
end HT
namespace L2
open PySem PySem.Spec PyProof.Rows
section
variable {X : Cx}
/-- x[::-1], x a list or a tuple -/
def tRevX (K : PySem.W.Frag) (te : TE) : TE := fun σ H Q => te σ H fun x H1 => ∃ a xs, x = .ref a ∧ ((SqL K H1 a xs ∧ ∀ p, H1 p = none → Q (.ref p) (upd H1 p (.lst xs.reverse))) ∨ (SqT K H1 a xs ∧ ∀ p, H1 p = none → Q (.ref p) (upd H1 p (.tup xs.reverse))))
theorem pe_revX {e : Expr} {te : TE} {k : Nat} {p1 p2 p3 pos : Pos} (he : PE X e te) : PE X (.Subscript e (.Slice none none (some (.UnaryOp .USub (.Constant (.int 1) k p1) p2)) p3) pos) (tRevX X.K te) := by
  refine ⟨fun pins s σ H Q I h => ?_⟩
  refine Subscript_ (thn (he.run pins s σ H _ I h) fun v s1 ⟨x, H1, I1, r1, q1⟩ => ?_)
  obtain ⟨a, xs, ex, q1⟩ := q1
  subst ex
  cases r1
  have hst : PO X (some (.UnaryOp .USub (.Constant (.int 1) k p1) p2)) (tPart (tUn (rU fun i => .int (-i)) (tC (.int 1)))) := po_some (pe_un un_neg pe_int)
  refine wpAny_Slice (thn (po_none.run pins s1 σ H1 (fun o H2 => o = none ∧ H2 = H1) I1 ⟨rfl, rfl⟩) fun vl s2 ⟨l, H2, I2, pl, el, e2⟩ => ?_)
  subst el e2
  refine thn (po_none.run pins s2 σ H2 (fun o H3 => o = none ∧ H3 = H2) I2 ⟨rfl, rfl⟩) fun vu s3 ⟨u, H3, I3, pu, eu, e3⟩ => ?_
  subst eu e3
  refine thn (hst.run pins s3 σ H3 (fun o H4 => o = some (-1) ∧ H4 = H3) I3 ⟨1, rfl, -1, rfl, rfl, rfl⟩) fun vs s4 ⟨o, H4, I4, ps, eo, e4⟩ => ?_
  subst eo e4
  have I5 : Inv X pins σ H4 { s4 with heap := s4.heap.push { cls := .type "slice", data := .fields #[vl, vu, vs] } } := I4.kept (t' := s4.toks) fun b ob q => Heap.get?_push_of_some _ q
  show wpAny (model X.prog X.w) X.A (subscriptTail e (.Slice none none (some (.UnaryOp .USub (.Constant (.int 1) k p1) p2)) p3) (.ref a) (.ref s4.heap.objs.size)) (EP X pins σ Q) X.xe { s4 with heap := s4.heap.push { cls := .type "slice", data := .fields #[vl, vu, vs] } }
  rcases q1 with ⟨hx, q⟩ | ⟨hx, q⟩
  · obtain ⟨its, r, ht, hz⟩ := I5.list hx
    have hlen := r.length
    refine tail_any (ops := [.ref a, .ref s4.heap.objs.size]) ht.isList.typeIs (PySem.slot_list_getitem.lookup) ?_ (by with_unfolding_all rfl)
    refine wpAny_getItem_list_slice ht.isList (Heap.IsSliceOf.new _ vl vu vs) pl pu ps (by decide) ?_ (by rw [List.size_toArray]; omega)
    rw [PySem.W.krv_pick]
    refine ⟨.ref _, _, I5.laid (t' := s4.toks) (o := .lst xs.reverse) (fun b ob q => Heap.get?_push_of_some _ q) (Nat.le_refl _) ?_, rfl, q _ (I5.hok.fresh (Nat.le_refl _))⟩
    exact ⟨by rw [List.length_reverse]; exact hz, _, 0, r.reverse, Heap.get?_push_size _ rfl⟩
  · obtain ⟨its, r, ht, hz⟩ := I5.tuple hx
    have hlen : its.toArray.size = xs.length := by rw [List.size_toArray]; exact r.length.symm
    refine tail_any (ops := [.ref a, .ref s4.heap.objs.size]) ht.typeIs (PyProof.Rows.slot_tuple_getitem.lookup) ?_ (by with_unfolding_all rfl)
    refine HT.getItem_tuple_rev ht (Heap.IsSliceOf.new _ vl vu vs) pl pu ps ?_ (by rw [hlen]; exact hz)
    refine ⟨.ref _, _, I5.laid (t' := s4.toks) (o := .tup xs.reverse) (fun b ob q => Heap.get?_push_of_some _ q) (Nat.le_refl _) ?_, rfl, q _ (I5.hok.fresh (Nat.le_refl _))⟩
    exact ⟨by rw [List.length_reverse]; exact hz, _, r.reverse, IsTup.new _ _⟩
end
end L2
end

section
set_option Elab.async false
set_option linter.all false
set_option maxRecDepth 100000
set_option maxHeartbeats 4000000
set_option autoImplicit false
/-! DpB11: methods, calls that change an object, is of bools, [::-1]. -/
namespace DpS
open PySem PySem.Spec L2
section
variable {L : LX} {G : Dp.Gam} {N : List Str} {sc : Scope} {cal : Bool} {A : Act} {W : WX} {X : Cx} {x : Expr}
variable {a b c : Expr} {fa fb fc : Dp.E} {p : Pos} {es : List Expr} {fs : Dp.Es}

/-! ### methods -/
/-- no call of a bare name: it can't be super() -/
def plainRecv : Expr → Bool
  | .Call (.Name _ _) [] [] _ => false
  | _ => true
theorem base_plain {o : Expr} (h : plainRecv o = true) (attr : Str) (env : Env) (whole : Sem Value) : attributeBase o attr env whole = whole := by
  cases o with
  | Call f as ks p => cases f with
    | Name y q => cases as with
      | nil => cases ks with
        | nil => cases h
        | cons _ _ => rfl
      | cons _ _ => rfl
    | _ => rfl
  | _ => rfl
theorem tm1 {R : RC} {f g : Dp.DSt → Dp.Out Dp.RV} {m : Dp.M1} {σ : St} {H : Hp} {Q : VK} {r : V → List V → Hp → VK → Prop} (str : ∀ d, Dp.m1K m d = true → ∃ s, d = .str s)
    (h : tE R A W (fun δ => (f δ).bind fun r δ1 => Dp.peek1 r δ1 fun z => if Dp.m1K m z then (g δ1).bind fun q δ2 => Dp.peek2 r q δ2 fun x y => Dp.Out.lift δ2 (Dp.m1D m x y) else .stuck) σ H Q)
    (ok : ∀ x y H F δ d e t, DRel R A σ H F δ → PRep R H F d x → PRep R H F e y → Dp.m1D m d e = some t → Fin R A H F t Q → r x [y] H Q) : tM1 r (tE R A W f) (tE R A W g) σ H Q := by
  refine tP.bind back_E h fun x H1 F1 r1 δ1 q1 k1 rr1 h1 => ?_
  obtain ⟨d, px, h2⟩ := Post.peek1 q1 rr1 h1
  cases e : Dp.m1K m d with
  | false => rw [e] at h2; exact h2.elim
  | true =>
    rw [e, if_pos rfl] at h2
    obtain ⟨s, rfl⟩ := str d e
    refine ⟨⟨_, px⟩, F1, δ1, q1, h2.bind back_E fun y H2 F2 r2 δ2 _ q2 st2 rr2 h3 => ?_⟩
    obtain ⟨d', e', px', py, h4⟩ := Post.peek2 q2 (rr1.step st2) rr2 h3
    obtain ⟨w, e3, fi⟩ := Post.lift q2 h4
    exact ok x y H2 F2 δ2 d' e' w q2 px' py e3 fi
theorem de_join {apos : Pos} (h0 : plainRecv a = true) (hs : notStar b = true) (hl : (apos.endLine == p.line) = true) (ha : DE L G N sc cal a (Dp.ev G fa)) (hb : DE L G N sc cal b (Dp.ev G fb)) :
    DE L G N sc cal (.Call (.Attribute a "join" apos) [b] [] p) (Dp.ev G (.m1 .join fa fb)) := by
  intro A W X xo
  refine (pe_join (ha A W X xo) (hb A W X xo) (star_cons hs [] X.env) (base_plain h0 _ _ _) hl).imp fun σ H Q h => ?_
  refine tm1 (m := .join) (fun d => by cases d <;> intro h <;> first | exact ⟨_, rfl⟩ | cases h) h fun x y H F δ d e t q px py e3 fi => ?_
  rw [xo.K]
  exact join_ok q px py e3 fi
theorem de_sindex {apos : Pos} (h0 : plainRecv a = true) (hs : notStar b = true) (hl : (apos.endLine == p.line) = true) (ha : DE L G N sc cal a (Dp.ev G fa)) (hb : DE L G N sc cal b (Dp.ev G fb)) :
    DE L G N sc cal (.Call (.Attribute a "index" apos) [b] [] p) (Dp.ev G (.m1 .sindex fa fb)) := by
  intro A W X xo
  refine (pe_m1 (id := "str.index") PySem.F.slot_str_index PySem.F.type_str_index mt_sindex (ha A W X xo) (hb A W X xo) (star_cons hs [] X.env) (base_plain h0 _ _ _) hl).imp fun σ H Q h => ?_
  refine tm1 (m := .sindex) (fun d => by cases d <;> intro h <;> first | exact ⟨_, rfl⟩ | cases h) h fun x y H F δ d e t q px py e3 fi => ?_
  exact sindex_ok q px py e3 fi

/-! ### is of bools; [::-1] -/
theorem isB_const {n : Bool} {X : Cx} : OpR X (compareOp (if n then CmpOp.Is else CmpOp.IsNot)) (fun x y H Q => ∃ a b : Bool, x = .bl a ∧ y = .bl b ∧ Q (.bl ((b == a) == n)) H) := by
  cases n with
  | true =>
    intro pins s σ H x y v u Q I rx ry ⟨a, b, e1, e2, q⟩
    exact op_isBl pins s σ H x y v u Q I rx ry ⟨a, b, e1, e2, by
      have e : decide (a = b) = ((b == a) == true) := by cases a <;> cases b <;> rfl
      rw [e]; exact q⟩
  | false =>
    intro pins s σ H x y v u Q I rx ry ⟨a, b, e1, e2, q⟩
    exact op_notBl pins s σ H x y v u Q I rx ry ⟨a, b, e1, e2, by
      have e : (!decide (a = b)) = ((b == a) == false) := by cases a <;> cases b <;> rfl
      rw [e]; exact q⟩
theorem de_rev {k : Nat} {p1 p2 p3 : Pos} (ha : DE L G N sc cal a (Dp.ev G fa)) : DE L G N sc cal (.Subscript a (.Slice none none (some (.UnaryOp .USub (.Constant (.int 1) k p1) p2)) p3) p) (Dp.ev G (.rev fa)) := by
  intro A W X xo
  refine (pe_revX (ha A W X xo)).imp fun σ H Q h => ?_
  refine tP.bind (f := Dp.ev G fa) (g := fun r σ1 => Dp.peek1 r σ1 fun x => Dp.Out.lift σ1 (Dp.revD x)) back_E h fun x H1 F1 r1 δ1 q1 k1 rr1 h1 => ?_
  obtain ⟨d, px, h2⟩ := Post.peek1 q1 rr1 h1
  obtain ⟨w, e3, f⟩ := Post.lift q1 h2
  cases d with
  | lst xs =>
    obtain ⟨a, vs, e1, h1, r1⟩ := px
    cases e3
    exact ⟨a, vs, e1, .inl ⟨SqL.of h1, f.lst q1.tab q1.sub r1.reverse⟩⟩
  | tup xs =>
    obtain ⟨a, vs, e1, h1, r1⟩ := px
    cases e3
    exact ⟨a, vs, e1, .inr ⟨SqT.of (q1.sub _ _ h1), f.tup q1.tab q1.sub r1.reverse⟩⟩
  | _ => cases e3

/-! ### calls that change an object -/
/-- an object's place: the address, what it is -/
theorem slot_at {R : RC} {σ : St} {H F : Hp} {δ : Dp.DSt} {i : Nat} {o : Dp.Ob} (q : DRel R A σ H F δ) (hs : Dp.slotOb δ i = some o) : ∃ ad, σ[i]? = some (some (.ref ad)) ∧ F ad = none ∧ ObAt R H F ad o := by
  unfold Dp.slotOb at hs
  cases z : δ[i]? with
  | none => rw [z] at hs; cases hs
  | some s => cases s with
    | un => rw [z] at hs; cases hs
    | sh d => rw [z] at hs; cases hs
    | ow u =>
      rw [z] at hs
      cases hs
      obtain ⟨b, e1, e2, _, _, ob⟩ := q.ow i o z
      exact ⟨b, e1, e2, ob⟩
    | bo u =>
      rw [z] at hs
      cases hs
      obtain ⟨b, e1, e2, ob⟩ := q.bo i o z
      exact ⟨b, e1, (q.bt b e2).1, ob⟩
theorem callM_post {R : RC} {T : List (Addr × Str)} {σ : St} {H F : Hp} {δ : Dp.DSt} {i : Nat} {o : Dp.Ob} {ad : Addr} {out : Dp.Fout} {Q : VK} (q : DRel R A σ H F δ) (eT : A.T = T) (hs : Dp.slotOb δ i = some o) (hv : σ[i]? = some (some (.ref ad)))
    (h : Post R A W (RlE R A) σ H F δ (Dp.callM δ i out) Q) : FPost R T (some ad) H F out Q (WE W σ) := by
  cases out with
  | stuck => exact h.elim
  | ok r m => cases m with
    | none => exact h.elim
    | some o' =>
      intro v H' F' cs hF ob rr
      obtain ⟨q', st⟩ := cs.put eT q hs hv hF ob
      refine h v H' F' q' st ?_
      cases r with
      | val d => exact rr
      | fr u =>
        obtain ⟨b, e1, n, e2, ob2⟩ := rr
        exact ⟨b, e1, n, e2, fun w => (q.ownS (st.ownS w)).2 n, ob2⟩
  | exc x m => cases m with
    | none => exact h.elim
    | some o' =>
      intro H' F' c dx cs hF ob xr
      obtain ⟨q', st⟩ := cs.put eT q hs hv hF ob
      exact h H' F' c dx q' st xr
theorem de_callm {f i : Nat} {x y : Str} {p1 p2 : Pos} (hc : cal = true) (h1 : L.fnm f = some y) (h2 : glB sc y = true) (h3 : okName y = true) (k1 : N[i]? = some x) (k2 : visB sc x = true) (k3 : okName x = true) (hs : es.all notStar = true) (hn : fs.len + 1 = L.fnp f)
    (ha : DA L G N sc cal es (Dp.evs G fs)) : DE L G N sc cal (.Call (.Name y p1) (.Name x p2 :: es) [] p) (Dp.ev G (.callm f i fs)) := by
  intro A W X xo
  obtain ⟨k, fd, ps, hr, np, F, hm, hk, hb⟩ := xo.fns f y h1 hc
  have hv : PE X (.Name x p2) (tVar i) := pe_var (i := i) (by rw [xo.N]; exact k1) (by rw [xo.sc]; exact vis_of k2) (okName_of k3).1 (okName_of k3).2
  refine (pe_callS F hr (gl_X xo h2) hm hk hb (E := WE W) (fun σ => passAt xo.tk σ) (pa_cons hv (ha A W X xo) (star_cons rfl es X.env)) (okName_of h3).1 (star_cons rfl es X.env) (star_plain p X.env es hs)).imp fun σ H Q h => ?_
  obtain ⟨F0, δ0, q0, h⟩ := h
  rw [Dp.ev] at h
  cases e0 : Dp.slotOb δ0 i with
  | none => rw [e0] at h; exact h.elim
  | some o0 =>
    rw [e0] at h
    obtain ⟨ad, ea, _, _⟩ := slot_at q0 e0
    have h : Post L.R A W (RlE L.R A) σ H F0 δ0 ((Dp.evs G fs δ0).bind fun ds σ1 => match Dp.slotOb σ1 i with
      | some o => Dp.callM σ1 i (G.fn f (some o) ds)
      | none => .stuck) Q := h
    refine ⟨.ref ad, ea, F0, δ0, q0, h.bind back_E fun vs H1 F1 ds δ1 e1 q1 st1 rr1 h1 => ?_⟩
    cases e2 : Dp.slotOb δ1 i with
    | none => rw [e2] at h1; exact h1.elim
    | some o1 =>
      rw [e2] at h1
      obtain ⟨ad', ea', hF, ob⟩ := slot_at q1 e2
      rw [ea] at ea'
      cases ea'
      refine ⟨?_, F1, q1.sub, q1.ntb, by rw [← xo.T]; exact q1.tab, .inr ⟨ad, vs, o1, ds, rfl, hF, ob, rr1, callM_post q1 xo.T e2 ea h1⟩⟩
      rw [List.length_cons, Reps.length rr1, evs_len fs δ0 δ1 ds e1, hn, np]
end
end DpS
end

section
set_option Elab.async false
set_option linter.all false
set_option maxRecDepth 100000
set_option maxHeartbeats 4000000
set_option autoImplicit false
/-! DpB12: what a loop walks. -/
namespace DpS
open PySem PySem.Spec L2

/-- J yields what tells xs, one by one -/
def ItOk (R : RC) (A : Act) (F : Hp) (J : It) (xs : List Dp.D) : Prop := ∀ (i : Nat) (σ : St) (H F' : Hp) (δ : Dp.DSt), Sub F F' → DRel R A σ H F' δ →
  (∀ d, xs[i]? = some d → J.go i H ∧ ∀ x H', J.yld i H x H' → ∃ F2, Grow A H F' H' F2 ∧ Rep R F2 d x) ∧ (i = xs.length → J.stop i H)
def RlI (R : RC) (A : Act) (σ : St) (Hq H F : Hp) (δ : Dp.DSt) (xs : List Dp.D) (J : It) : Prop := ItOk R A F J xs
abbrev tI (R : RC) (A : Act) (W : WX) (f : Dp.DSt → Dp.Out (List Dp.D)) : TI := tP R A W (RlI R A) f
def DI (L : LX) (G : Dp.Gam) (N : List Str) (sc : Scope) (cal : Bool) (tg x : Expr) (f : Dp.DSt → Dp.Out (List Dp.D)) : Prop :=
  ∀ A W X, XOk L G N sc cal A W X → PI X tg x (tI L.R A W f)
theorem _root_.L2.PI.imp {X : Cx} {tg e : Expr} {t t' : TI} (h : PI X tg e t) (k : ∀ σ H Q, t' σ H Q → t σ H Q) : PI X tg e t' := ⟨fun pins s σ H Q I q => h.run pins s σ H Q I (k σ H Q q)⟩
section
variable {R : RC} {A : Act} {F : Hp} {a b : Addr} {ds es : List Dp.D} {vs ws : List V}
theorem back_I : Back (RlI R A) := fun _ _ _ _ _ _ _ _ _ h => h
theorem Reps.at {i : Nat} {d : Dp.D} (h : Reps R F ds vs) (e : ds[i]? = some d) : ∃ v, vs[i]? = some v ∧ Rep R F d v := by
  induction ds generalizing vs i with
  | nil => cases e
  | cons x xs ih =>
    obtain ⟨w, ws, rfl, h1, h2⟩ := h
    cases i with
    | zero => cases e; exact ⟨w, rfl, h1⟩
    | succ i => exact ih (vs := ws) (i := i) h2 e
theorem it_list (h : F a = some (.lst vs)) (r : Reps R F ds vs) : ItOk R A F (Itl R.K a) ds := by
  intro i σ H F' δ sub q
  have hs : SqL R.K H a vs := SqL.of (q.sub _ _ (sub _ _ h))
  refine ⟨fun d e => ?_, fun hl => ⟨vs, hs, by rw [r.length]; exact Nat.le_of_eq hl.symm⟩⟩
  obtain ⟨v, ev, rv⟩ := r.at e
  refine ⟨⟨vs, v, hs, ev⟩, fun x H' ⟨eH, y⟩ => ?_⟩
  subst eH
  have := y vs hs
  rw [ev] at this
  cases this
  exact ⟨F', Grow.refl q.tab, rv.sub sub⟩
theorem it_tupS (hs : SqT R.K F a vs) (r : Reps R F ds vs) : ItOk R A F (Itt R.K a) ds := by
  intro i σ H F' δ sub q
  have hs : SqT R.K H a vs := (sub.trans q.sub).sqT hs
  refine ⟨fun d e => ?_, fun hl => ⟨vs, hs, by rw [r.length]; exact Nat.le_of_eq hl.symm⟩⟩
  obtain ⟨v, ev, rv⟩ := r.at e
  refine ⟨⟨vs, v, hs, ev⟩, fun x H' ⟨eH, y⟩ => ?_⟩
  subst eH
  have := y vs hs
  rw [ev] at this
  cases this
  exact ⟨F', Grow.refl q.tab, rv.sub sub⟩
theorem it_tup (h : F a = some (.tup vs)) (r : Reps R F ds vs) : ItOk R A F (Itt R.K a) ds := it_tupS (SqT.of h) r
theorem it_str (s : List Nat) : ItOk R A F (Its ⟨s.toArray⟩) (s.map fun c => .str [c]) := by
  intro i σ H F' δ sub q
  refine ⟨fun d e => ?_, fun hl => ?_⟩
  · rw [List.getElem?_map] at e
    obtain ⟨c, ec, rfl⟩ := Option.map_eq_some_iff.mp e
    have hi : i < s.length := (List.getElem?_eq_some_iff.mp ec).1
    refine ⟨by show i < s.toArray.size; rw [List.size_toArray]; exact hi, fun x H' ⟨eH, c', e1, e2⟩ => ?_⟩
    subst eH
    have e1 : s.toArray[i]? = some c' := e1
    rw [List.getElem?_toArray, ec] at e1
    cases e1
    exact ⟨F', Grow.refl q.tab, e2⟩
  · show s.toArray.size ≤ i
    rw [List.size_toArray]
    rw [List.length_map] at hl
    exact Nat.le_of_eq hl.symm
theorem rangeD_at {lo hi st : Int} {i : Nat} {d : Dp.D} (e : (Dp.rangeD lo hi st)[i]? = some d) : i < ((hi - lo + st - 1) / st).toNat ∧ d = .int (lo + (i : Int) * st) := by
  unfold Dp.rangeD at e
  rw [List.getElem?_map] at e
  obtain ⟨c, ec, rfl⟩ := Option.map_eq_some_iff.mp e
  obtain ⟨h1, h2⟩ := List.getElem?_eq_some_iff.mp ec
  rw [List.length_range] at h1
  rw [List.getElem_range] at h2
  subst h2
  exact ⟨h1, rfl⟩
theorem rangeD_len (lo hi st : Int) : (Dp.rangeD lo hi st).length = ((hi - lo + st - 1) / st).toNat := by
  unfold Dp.rangeD
  rw [List.length_map, List.length_range]
theorem it_range {lo hi : Int} {n : Nat} (hn : ((hi - lo + 1 - 1) / 1).toNat = n) : ItOk R A F (Itr lo n) (Dp.rangeD lo hi 1) := by
  intro i σ H F' δ sub q
  subst hn
  refine ⟨fun d e => ?_, fun hl => ?_⟩
  · obtain ⟨h1, rfl⟩ := rangeD_at e
    refine ⟨h1, fun x H' ⟨eH, ex⟩ => ?_⟩
    subst eH
    exact ⟨F', Grow.refl q.tab, by rw [ex]; show V.int _ = V.int _; congr 1; omega⟩
  · rw [rangeD_len] at hl
    exact Nat.le_of_eq hl.symm
theorem it_rangeC {lo hi st : Int} {n : Nat} (hn : ((hi - lo + st - 1) / st).toNat = n) : ItOk R A F (Itc lo st n) (Dp.rangeD lo hi st) := by
  intro i σ H F' δ sub q
  subst hn
  refine ⟨fun d e => ?_, fun hl => ?_⟩
  · obtain ⟨h1, rfl⟩ := rangeD_at e
    refine ⟨h1, fun x H' ⟨eH, ex⟩ => ?_⟩
    subst eH
    exact ⟨F', Grow.refl q.tab, by rw [ex]; rfl⟩
  · rw [rangeD_len] at hl
    exact Nat.le_of_eq hl.symm
theorem enumD_at : ∀ {k i : Nat} {ds : List Dp.D} {d : Dp.D}, (Dp.enumD k ds)[i]? = some d → ∃ x, ds[i]? = some x ∧ d = .tup [.int ((k + i : Nat) : Int), x]
  | k, i, [], d, e => by cases e
  | k, 0, x :: r, d, e => by cases e; exact ⟨x, rfl, rfl⟩
  | k, i + 1, x :: r, d, e => by
    obtain ⟨y, e1, e2⟩ := enumD_at (k := k + 1) (i := i) (ds := r) e
    refine ⟨y, e1, ?_⟩
    rw [e2]
    have : k + 1 + i = k + (i + 1) := by omega
    rw [this]
theorem enumD_len : ∀ (k : Nat) (ds : List Dp.D), (Dp.enumD k ds).length = ds.length
  | _, [] => rfl
  | k, x :: r => by
    show (Dp.enumD (k + 1) r).length + 1 = r.length + 1
    rw [enumD_len]
end

section
variable {L : LX} {G : Dp.Gam} {N : List Str} {sc : Scope} {cal : Bool} {A : Act} {W : WX} {X : Cx} {x tg : Expr}
variable {a b c : Expr} {fa fb fc : Dp.E} {p p1 tpos : Pos} {elts : List Expr} {kk : Nat}
/-- a list, a tuple or a text -/
theorem pi_any {X : Cx} {te : TE} (he : PE X x te) : PI X tg x (fun σ H Q => te σ H fun v H1 => (∃ a, v = .ref a ∧ (∃ xs, SqL X.K H1 a xs) ∧ Q (Itl X.K a) H1) ∨ (∃ a, v = .ref a ∧ (∃ xs, SqT X.K H1 a xs) ∧ Q (Itt X.K a) H1) ∨ ∃ z, v = .str z ∧ Q (Its z) H1) := by
  refine ⟨fun pins s σ H R I h => ?_⟩
  refine thn (he.run pins s σ H _ I h) fun v s1 ⟨x, H1, I1, r1, q1⟩ => ?_
  rcases q1 with ⟨a, e, ⟨xs, hq⟩, q⟩ | ⟨a, e, ⟨xs, hq⟩, q⟩ | ⟨z, e, q⟩
  · subst e
    cases r1
    obtain ⟨its, rv, p, hz⟩ := I1.list hq
    refine wpAny_pyIter_list p.isList ?_
    refine ⟨s1.heap.objs.size, [s1.heap.objs.size], _, _, H1, rfl, I1.kept (t' := s1.toks) fun b o e => Heap.get?_push_of_some _ e, turn_list a _, ⟨_, Heap.get?_push_size _ rfl, rfl, rfl⟩, fun b hb => ?_, q⟩
    have e : b = s1.heap.objs.size := by simpa using hb
    subst e
    exact I1.fpOk (Nat.le_refl _) (I1.hok.fresh (Nat.le_refl _))
  · subst e
    cases r1
    obtain ⟨its, rv, p, hz⟩ := I1.tuple hq
    refine wpAny_pyIter_tuple (show s1.heap.IsTuple a its.toArray from p) ?_
    refine ⟨s1.heap.objs.size, [s1.heap.objs.size], _, _, H1, rfl, I1.kept (t' := s1.toks) fun b o e => Heap.get?_push_of_some _ e, turn_tuple a _, ⟨_, Heap.get?_push_size _ rfl, rfl, rfl⟩, fun b hb => ?_, q⟩
    have e : b = s1.heap.objs.size := by simpa using hb
    subst e
    exact I1.fpOk (Nat.le_refl _) (I1.hok.fresh (Nat.le_refl _))
  · subst e
    obtain ⟨t, rfl⟩ := r1
    cases ha : z.cps.all (· < 128)
    · exact wpAny_pyIter_wide ha (pi_one (tk := s1.toks) I1 _ (turn_str _ z t "str_iterator" (.inr rfl)) ⟨_, Heap.get?_push_size _ rfl, rfl, rfl⟩ q)
    · exact wpAny_pyIter_ascii ha (pi_one (tk := s1.toks) I1 _ (turn_str _ z t "str_ascii_iterator" (.inl rfl)) ⟨_, Heap.get?_push_size _ rfl, rfl, rfl⟩ q)
/-- an iterable kept, then walked -/
theorem Post.items {R : RC} {σ : St} {H F : Hp} {δ : Dp.DSt} {o : Option (List Dp.D)} {J : It} {Q : It → Hp → Prop} (q : DRel R A σ H F δ) (h : Post R A W (RlI R A) σ H F δ (Dp.Out.lift δ o) Q) (k : ∀ xs, o = some xs → ItOk R A F J xs) (n : o ≠ none) : Q J H := by
  cases o with
  | none => exact absurd rfl n
  | some xs => exact h J H F q Stp.refl (k xs rfl)
theorem di_seq (ha : DE L G N sc cal a (Dp.ev G fa)) : DI L G N sc cal tg a (Dp.evi G (.seq fa)) := by
  intro A W X xo
  refine (pi_any (ha A W X xo)).imp fun σ H Q h => ?_
  refine used_val (tP.bind (f := fun δ => (Dp.ev G fa δ).used) (g := fun d σ1 => Dp.Out.lift σ1 (Dp.itemsD d)) back_I h fun v H1 F1 d δ1 q1 k1 rr h1 => ?_)
  have rr : Rep L.R F1 d v := rr
  cases e : Dp.itemsD d with
  | none => rw [e] at h1; exact h1.elim
  | some xs =>
    rw [e] at h1
    rw [xo.K]
    cases d with
    | lst ds =>
      obtain ⟨ad, vs, ev, hF, r⟩ := rr
      cases e
      exact .inl ⟨ad, ev, ⟨vs, SqL.of (q1.sub _ _ hF)⟩, h1 _ H1 F1 q1 Stp.refl (it_list hF r)⟩
    | tup ds =>
      obtain ⟨ad, vs, ev, hF, r⟩ := rr
      cases e
      exact .inr (.inl ⟨ad, ev, ⟨vs, SqT.of (q1.sub _ _ hF)⟩, h1 _ H1 F1 q1 Stp.refl (it_tup hF r)⟩)
    | kt ds =>
      obtain ⟨ad, vs, ev, hF, r⟩ := rr
      cases e
      exact .inr (.inl ⟨ad, ev, ⟨vs, q1.sub.sqT hF⟩, h1 _ H1 F1 q1 Stp.refl (it_tupS hF r)⟩)
    | str s =>
      cases e
      exact .inr (.inr ⟨_, rr, h1 _ H1 F1 q1 Stp.refl (it_str s)⟩)
    | _ => cases e
theorem ok_range : Gl X "range" → True := fun _ => trivial
/-- range's parts -/
theorem rngO_ok {r q t : Dp.RV} {xs : List Dp.D} (h : Dp.rngO r q t = some xs) : ∃ i j k : Int, r = .val (.int i) ∧ q = .val (.int j) ∧ t = .val (.int k) ∧ Dp.inR i = true ∧ Dp.inR j = true ∧ 0 < k ∧ k < 1073741824 ∧ xs = Dp.rangeD i j k := by
  cases r with
  | val d => cases d with
    | int i => cases q with
      | val e => cases e with
        | int j => cases t with
          | val f => cases f with
            | int k =>
              have h : (if Dp.inR i && Dp.inR j && decide (0 < k) && decide (k < 1073741824) then some (Dp.rangeD i j k) else none) = some xs := h
              split at h
              · rename_i z
                rw [Bool.and_eq_true, Bool.and_eq_true, Bool.and_eq_true] at z
                cases h
                exact ⟨i, j, k, rfl, rfl, rfl, z.1.1.1, z.1.1.2, of_decide_eq_true z.1.2, of_decide_eq_true z.2, rfl⟩
              · cases h
            | _ => cases h
          | _ => cases h
        | _ => cases h
      | _ => cases h
    | _ => cases h
  | _ => cases h
theorem inR_ok {i : Int} (h : Dp.inR i = true) : -(2 ^ 62) ≤ i ∧ i < 2 ^ 62 := of_decide_eq_true h
theorem di_rng1 {k1 k2 : Dp.D} (hg : glB sc "range" = true) (hs : notStar a = true) (ha : DE L G N sc cal a (Dp.ev G fa)) : DI L G N sc cal tg (.Call (.Name "range" p1) [a] [] p) (Dp.evi G (.rng (.k (.int 0)) fa (.k (.int 1)))) := by
  intro A W X xo
  refine (pi_range1 (gl_X xo hg) (free_of xo (by decide +kernel)) (pa_cons (ha A W X xo) pa_nil (star_cons hs [] X.env)) (star_cons hs [] X.env)).imp fun σ H Q h => ?_
  refine tP.bind (f := Dp.ev G fa) (g := fun q σ2 => Dp.Out.lift σ2 (Dp.rngO (.val (.int 0)) q (.val (.int 1)))) back_I h fun v H1 F1 r δ1 q1 k1 rr h1 => ?_
  cases e : Dp.rngO (.val (.int 0)) r (.val (.int 1)) with
  | none => rw [e] at h1; exact h1.elim
  | some xs =>
    obtain ⟨i, j, k, e1, rfl, e3, hi, hj, _, _, rfl⟩ := rngO_ok e
    cases e1
    cases e3
    rw [e] at h1
    refine ⟨j, by rw [show v = _ from rr], (inR_ok hj).1, (inR_ok hj).2, h1 _ H1 F1 q1 Stp.refl (it_range (by omega))⟩
theorem di_rng2 (hg : glB sc "range" = true) (hs : notStar a = true) (hs2 : notStar b = true) (ha : DE L G N sc cal a (Dp.ev G fa)) (hb : DE L G N sc cal b (Dp.ev G fb)) : DI L G N sc cal tg (.Call (.Name "range" p1) [a, b] [] p) (Dp.evi G (.rng fa fb (.k (.int 1)))) := by
  intro A W X xo
  refine (pi_range2 (gl_X xo hg) (free_of xo (by decide +kernel)) (pa_cons (ha A W X xo) (pa_cons (hb A W X xo) pa_nil (star_cons hs2 [] X.env)) (star_cons hs [b] X.env)) (by rw [star_cons hs, star_cons hs2]; rfl) (star_cons hs2 [] X.env)).imp fun σ H Q h => ?_
  refine tP.bind (f := Dp.ev G fa) (g := fun r σ1 => (Dp.ev G fb σ1).bind fun q σ2 => Dp.Out.lift σ2 (Dp.rngO r q (.val (.int 1)))) back_I h fun v H1 F1 r δ1 q1 k1 rr h1 => ⟨F1, δ1, q1, h1.bind back_I fun w H2 F2 q δ2 _ q2 st2 rr2 h2 => ?_⟩
  cases e : Dp.rngO r q (.val (.int 1)) with
  | none => rw [e] at h2; exact h2.elim
  | some xs =>
    obtain ⟨i, j, k, rfl, rfl, e3, hi, hj, _, _, rfl⟩ := rngO_ok e
    cases e3
    rw [e] at h2
    refine ⟨i, j, by rw [show v = _ from rr, show w = _ from rr2], ⟨(inR_ok hi).1, (inR_ok hi).2, (inR_ok hj).1, (inR_ok hj).2⟩, h2 _ H2 F2 q2 Stp.refl (it_range (by omega))⟩
theorem rgC_ok {i j k : Int} (hi : Dp.inR i = true) (hj : Dp.inR j = true) (h0 : 0 < k) (h1 : k < 1073741824) : RgC i j k ((j - i + k - 1) / k).toNat := by
  have hi := inR_ok hi
  have hj := inR_ok hj
  have sz : Builtin.Range.rangeSize i j k = (((j - i + k - 1) / k).toNat : Int) := by
    unfold Builtin.Range.rangeSize
    rw [if_pos h0]
    by_cases hij : i < j
    · rw [if_pos hij]
      have e : j - i + k - 1 = (j - i - 1) + k * 1 := by omega
      rw [e, Int.add_mul_ediv_left _ _ (by omega)]
      have : 0 ≤ (j - i - 1) / k := Int.ediv_nonneg (by omega) (by omega)
      omega
    · rw [if_neg hij]
      have : (j - i + k - 1) / k ≤ 0 := by
        have : (j - i + k - 1) / k < 1 := Int.ediv_lt_of_lt_mul h0 (by omega)
        omega
      omega
  refine ⟨by omega, by omega, ?_, sz⟩
  unfold Builtin.Range.small
  have le : (((j - i + k - 1) / k).toNat : Int) ≤ 2 ^ 62 + 2 ^ 62 - 1 + 1 := by
    have h : (j - i + k - 1) / k ≤ j - i + k - 1 ∨ (j - i + k - 1) / k ≤ 0 := by
      by_cases hn : 0 ≤ j - i + k - 1
      · exact .inl (Int.ediv_le_self _ hn)
      · exact .inr (by
          have : (j - i + k - 1) / k < 0 := Int.ediv_neg_of_neg_of_pos (by omega) h0
          omega)
    have sz2 : (((j - i + k - 1) / k).toNat : Int) = if i < j then (j - i - 1) / k + 1 else 0 := by
      rw [← sz]; unfold Builtin.Range.rangeSize; rw [if_pos h0]
    rw [sz2]
    split
    · have : (j - i - 1) / k ≤ j - i - 1 := Int.ediv_le_self _ (by omega)
      omega
    · omega
  rw [sz]
  have hk : (k > 0) := h0
  simp only [Builtin.Range.rangeFitsLong, Bool.and_eq_true, Bool.or_eq_true, decide_eq_true_eq, beq_iff_eq, hk, if_true]
  refine ⟨⟨⟨⟨by omega, by omega⟩, by omega⟩, ?_⟩, .inr (by omega)⟩
  have := le
  by_cases hlt : (((j - i + k - 1) / k).toNat : Int) < 2 ^ 63
  · exact ⟨by omega, hlt⟩
  · exfalso
    have sz2 : (((j - i + k - 1) / k).toNat : Int) = if i < j then (j - i - 1) / k + 1 else 0 := by
      rw [← sz]; unfold Builtin.Range.rangeSize; rw [if_pos h0]
    rw [sz2] at hlt
    split at hlt
    · have : (j - i - 1) / k ≤ j - i - 1 := Int.ediv_le_self _ (by omega)
      omega
    · omega
theorem di_rng3 (hg : glB sc "range" = true) (hs : notStar a = true) (hs2 : notStar b = true) (hs3 : notStar c = true) (ha : DE L G N sc cal a (Dp.ev G fa)) (hb : DE L G N sc cal b (Dp.ev G fb)) (hc : DE L G N sc cal c (Dp.ev G fc)) : DI L G N sc cal tg (.Call (.Name "range" p1) [a, b, c] [] p) (Dp.evi G (.rng fa fb fc)) := by
  intro A W X xo
  refine (pi_range3 (gl_X xo hg) (free_of xo (by decide +kernel)) (pa_cons (ha A W X xo) (pa_cons (hb A W X xo) (pa_cons (hc A W X xo) pa_nil (star_cons hs3 [] X.env)) (star_cons hs2 [c] X.env)) (star_cons hs [b, c] X.env)) (star_cons hs [b, c] X.env) (star_plain p X.env [b, c] (by rw [List.all_cons, hs2, List.all_cons, hs3]; rfl))).imp fun σ H Q h => ?_
  refine tP.bind (f := Dp.ev G fa) (g := fun r σ1 => (Dp.ev G fb σ1).bind fun q σ2 => (Dp.ev G fc σ2).bind fun t σ3 => Dp.Out.lift σ3 (Dp.rngO r q t)) back_I h fun v H1 F1 r δ1 q1 k1 rr h1 => ⟨F1, δ1, q1, h1.bind back_I fun w H2 F2 q δ2 _ q2 st2 rr2 h2 => ⟨F2, δ2, q2, h2.bind back_I fun z H3 F3 t δ3 _ q3 st3 rr3 h3 => ?_⟩⟩
  cases e : Dp.rngO r q t with
  | none => rw [e] at h3; exact h3.elim
  | some xs =>
    obtain ⟨i, j, k, rfl, rfl, rfl, hi, hj, k0, k1, rfl⟩ := rngO_ok e
    rw [e] at h3
    exact ⟨i, j, k, _, by rw [show v = _ from rr, show w = _ from rr2, show z = _ from rr3], rgC_ok hi hj k0 k1, h3 _ H3 F3 q3 Stp.refl (it_rangeC rfl)⟩
end
end DpS
end

section
set_option Elab.async false
set_option linter.all false
set_option maxRecDepth 100000
set_option maxHeartbeats 4000000
set_option autoImplicit false
/-! DpB12z: enumerate, zip of two and three, over lists, tuples, texts in any mix. -/
namespace DpS
open PySem PySem.Spec L2

/-- a source: a list, a tuple, a text -/
inductive Sk where
  | l (a : Addr) | t (a : Addr) | s (z : Str)
def Sk.v : Sk → V
  | .l a => .ref a
  | .t a => .ref a
  | .s z => .str z
def Sk.at (K : PySem.W.Frag) (H : Hp) : Sk → List V → Prop
  | .l a, xs => SqL K H a xs
  | .t a, xs => SqT K H a xs
  | .s z, xs => xs = z.cps.toList.map fun c => V.str ⟨#[c]⟩
def Sk.ads : Sk → List Addr
  | .l a => [a]
  | .t a => [a]
  | .s _ => []
def Sk.itr : Sk → Addr → Nat → Heap → Prop
  | .l a, it, i, h => h.IsListIter it a i
  | .t a, it, i, h => h.IsTupleIter it a i
  | .s z, it, i, h => ∃ t, h.IsStrIter it (strIterType z) z t i
theorem Sk.obj {k : Sk} {it : Addr} {i : Nat} {h : Heap} (st : k.itr it i h) : ∃ o, h.get? it = some o ∧ ∀ v, o.data ≠ .cell v := by
  cases k with
  | l a => obtain ⟨o, ho, _, d⟩ := st; exact ⟨o, ho, fun v q => by rw [d] at q; cases q⟩
  | t a => obtain ⟨o, ho, _, d⟩ := st; exact ⟨o, ho, fun v q => by rw [d] at q; cases q⟩
  | s z => obtain ⟨t, o, ho, _, d⟩ := st; exact ⟨o, ho, fun v q => by rw [d] at q; cases q⟩
theorem Sk.keep {k : Sk} {it : Addr} {i : Nat} {h h' : Heap} (st : k.itr it i h) (e : ∀ o, h.get? it = some o → h'.get? it = some o) : k.itr it i h' := by
  cases k with
  | l a => obtain ⟨o, ho, r⟩ := st; exact ⟨o, e o ho, r⟩
  | t a => obtain ⟨o, ho, r⟩ := st; exact ⟨o, e o ho, r⟩
  | s z => obtain ⟨t, o, ho, r⟩ := st; exact ⟨t, o, e o ho, r⟩
theorem vals_back {xs : List V} {its : List Value} (r : Vals xs its) {i : Nat} {u : Value} (h : its[i]? = some u) : ∃ x, xs[i]? = some x ∧ RelV x u := by
  have hl := r.length
  have hi : i < its.length := (List.getElem?_eq_some_iff.mp h).1
  have hx : xs[i]? = some xs[i] := List.getElem?_eq_getElem (by omega)
  obtain ⟨u', hu, ru⟩ := r.get hx
  rw [h] at hu
  cases hu
  exact ⟨_, hx, ru⟩
section
variable {X : Cx} {pins : List (Addr × Obj)} {σ : St} {H : Hp} {s : Shared}
theorem Sk.inj (I : Inv X pins σ H s) {k : Sk} {xs ys : List V} (h1 : k.at X.K H xs) (h2 : k.at X.K H ys) : xs = ys := by
  cases k with
  | l a => exact I.list_inj h1 h2
  | t a => exact I.tuple_inj h1 h2
  | s z => exact Eq.trans h1 (Eq.symm h2)
/-- what its iterator draws -/
theorem Sk.draws (I : Inv X pins σ H s) (hc : X.calm = true) {k : Sk} {xs : List V} (hx : k.at X.K H xs) (it : Addr) (ap : ∀ b ∈ k.ads, b ≠ it) {i : Nat} (st : k.itr it i s.heap) :
    ∃ (P : Nat → Value → Prop) (S : Nat → Heap → Prop), Draws X.prog X.w X.A.in1 it (it :: k.ads) xs.length P S ∧ S i s.heap ∧ (∀ j h, S j h → k.itr it j h) ∧ ∀ j v, P j v → ∃ x, xs[j]? = some x ∧ RelV x v := by
  have hh : X.A.in1.handled = none := I.ok.hd hc
  cases k with
  | l a =>
    obtain ⟨its, rv, p, hz⟩ := I.list hx
    have hl := rv.length
    have hs : its.toArray.size = xs.length := by rw [List.size_toArray]; omega
    rw [← hs]
    refine ⟨_, _, Draws.list hh it a (ap a (by simp [Sk.ads])) its.toArray, ⟨st, p.isList⟩, fun j h z => z.1, fun j v hv => vals_back rv (by simpa using hv)⟩
  | t a =>
    obtain ⟨its, rv, p, hz⟩ := I.tuple hx
    have hl := rv.length
    have hs : its.toArray.size = xs.length := by rw [List.size_toArray]; omega
    rw [← hs]
    refine ⟨_, _, Draws.tuple hh it a (ap a (by simp [Sk.ads])) its.toArray, ⟨st, p⟩, fun j h z => z.1, fun j v hv => vals_back rv (by simpa using hv)⟩
  | s z =>
    obtain ⟨t, st⟩ := st
    have hx : xs = z.cps.toList.map fun c => V.str ⟨#[c]⟩ := hx
    subst hx
    have hs : z.cps.size = (z.cps.toList.map fun c => V.str ⟨#[c]⟩).length := by rw [List.length_map, Array.length_toList]
    rw [← hs]
    refine ⟨_, _, Draws.text hh it z t, st, fun j h q => ⟨t, q⟩, fun j v ⟨c, u, hc, ev⟩ => ⟨.str ⟨#[c]⟩, ?_, ⟨u, ev⟩⟩⟩
    rw [List.getElem?_map]
    simp [hc]
/-- how it begins -/
theorem Sk.begin_ (I : Inv X pins σ H s) {k : Sk} {xs : List V} (hx : k.at X.K H xs) {u : Value} (r : RelV k.v u) :
    ∃ o Hh, Begins u o Hh ∧ Hh s.heap ∧ (∀ it h, h.get? it = some o → k.itr it 0 h) ∧ ∀ b ∈ k.ads, b < s.heap.objs.size := by
  cases k with
  | l a =>
    obtain ⟨its, rv, p, hz⟩ := I.list hx
    cases r
    exact ⟨_, _, begins_list a its.toArray, p.isList, fun it h e => ⟨_, e, rfl, rfl⟩, fun b hb => by
      obtain rfl : b = a := by simpa [Sk.ads] using hb
      exact p.lt⟩
  | t a =>
    obtain ⟨its, rv, p, hz⟩ := I.tuple hx
    cases r
    exact ⟨_, _, begins_tuple a its.toArray, p, fun it h e => ⟨_, e, rfl, rfl⟩, fun b hb => by
      obtain rfl : b = a := by simpa [Sk.ads] using hb
      obtain ⟨o, e, _⟩ := p
      exact Heap.lt_size e⟩
  | s z =>
    obtain ⟨t, rfl⟩ := r
    exact ⟨_, _, begins_text z t, trivial, fun it h e => ⟨t, _, e, rfl, rfl⟩, fun b hb => by cases hb⟩
end
/-! ### zip of two -/
def Itk2 (K : PySem.W.Frag) (k1 k2 : Sk) : It :=
  ⟨fun i H => ∃ (xs ys : List V), k1.at K H xs ∧ k2.at K H ys ∧ i < xs.length ∧ i < ys.length,
    fun i H v H' => ∃ T x y, v = .ref T ∧ H T = none ∧ H' = upd H T (.tup [x, y]) ∧ (∀ xs, k1.at K H xs → xs[i]? = some x) ∧ ∀ ys, k2.at K H ys → ys[i]? = some y,
    fun i H => ∃ xs ys : List V, k1.at K H xs ∧ k2.at K H ys ∧ i = min xs.length ys.length⟩
theorem turn_k2 {P : Program} {w : World} {K : PySem.W.Frag} {elts : List Expr} {kk : Nat} {tpos : Pos} {k1 k2 : Sk} {N : Addr} (h1 : ∀ b ∈ k1.ads, b < N) (h2 : ∀ b ∈ k2.ads, b < N) :
    Turn P w K (.Tuple elts kk tpos) (Itk2 K k1 k2) [N + 4, N + 2, N + 3, N, N + 1] (N + 4) (fun i h => IsZip h (N + 4) (N + 2) (N + 3) .none ∧ IsTupOf2 h (N + 2) (.ref N) (.ref (N + 1)) ∧ (∃ x y, IsTupOf2 h (N + 3) x y) ∧ k1.itr N i h ∧ k2.itr (N + 1) i h) where
  mem := by simp
  obj := fun i h st c hc => by
    obtain ⟨hz, hTI, ⟨x, y, hTO⟩, s1, s2⟩ := st
    have e' : c = N + 4 ∨ c = N + 2 ∨ c = N + 3 ∨ c = N ∨ c = N + 1 := by simpa using hc
    rcases e' with q | q | q | q | q
    · rw [q]; exact ⟨_, hz, fun v q => nomatch q⟩
    · rw [q]; exact ⟨_, hTI, fun v q => nomatch q⟩
    · rw [q]; exact ⟨_, hTO, fun v q => nomatch q⟩
    · rw [q]; exact Sk.obj s1
    · rw [q]; exact Sk.obj s2
  keep := fun i h h' st k => by
    obtain ⟨hz, hTI, ⟨x, y, hTO⟩, s1, s2⟩ := st
    exact ⟨k (N + 4) (by simp) _ hz, k (N + 2) (by simp) _ hTI, ⟨x, y, k (N + 3) (by simp) _ hTO⟩, Sk.keep s1 fun o q => k N (by simp) o q, Sk.keep s2 fun o q => k (N + 1) (by simp) o q⟩
  item := by
    intro X hP hw hK hc i pins s σ H E I hf st hg
    subst hP hw hK
    obtain ⟨hz, hTI, hTO, s1, s2⟩ := st
    obtain ⟨xs, ys, hqx, hqy, lx, ly⟩ := hg
    obtain ⟨P1, S1, D1, t1, b1, p1⟩ := Sk.draws I hc hqx N (fun b hb e => by have := h1 b hb; rw [e] at this; exact Nat.lt_irrefl _ this) s1
    obtain ⟨P2, S2, D2, t2, b2, p2⟩ := Sk.draws I hc hqy (N + 1) (fun b hb e => by have := h2 b hb; rw [e] at this; exact absurd this (Nat.not_lt.mpr (Nat.le_succ N))) s2
    have W := GoesN.zip2 (elts := elts) (x1 := kk) (pos := tpos) (zip_sep2 h1 h2) D1 D2
    refine W.goes i s _ E (Nat.lt_min.mpr ⟨lx, ly⟩) ⟨hz, hTI, hTO, t1, t2⟩ fun v h' tk hY st' hk htk => ?_
    obtain ⟨T, u1, u2, rfl, hT, q1, q2, tup⟩ := hY
    obtain ⟨x, ex, rx⟩ := p1 i u1 q1
    obtain ⟨y, ey, ry⟩ := p2 i u2 q2
    obtain ⟨z', TI', TO', a1, a2⟩ := st'
    have new : ObjOk X.prog X.w (upd H T (.tup [x, y])) h' T (.tup [x, y]) := ⟨by show 2 ≤ sizeLine; decide, [u1, u2], .cons rx (.cons ry .nil), tup⟩
    have I1 : Inv X pins σ (upd H T (.tup [x, y])) { s with heap := h', toks := tk } :=
      I.turnedNew (t' := tk) (ch := [N + 4, N + 3, N, N + 1]) (fun c o hb q => hk c o hb q) (fun b hb => hf b (by
        have e' : b = N + 4 ∨ b = N + 3 ∨ b = N ∨ b = N + 1 := by simpa using hb
        rcases e' with q | q | q | q <;> rw [q] <;> simp)) hT new
    refine ⟨.ref T, _, I1, rfl, ⟨T, x, y, rfl, I.hok.fresh hT, rfl, fun l hl => by rw [Sk.inj I hl hqx]; exact ex, fun l hl => by rw [Sk.inj I hl hqy]; exact ey⟩, ⟨z', TI', TO', b1 _ _ a1, b2 _ _ a2⟩, fun c hcm => ?_⟩
    have hlt : c < s.heap.objs.size := by
      have e' : c = N + 4 ∨ c = N + 2 ∨ c = N + 3 ∨ c = N ∨ c = N + 1 := by simpa using hcm
      rcases e' with q | q | q | q | q
      · rw [q]; exact Heap.lt_size hz
      · rw [q]; exact Heap.lt_size hTI
      · obtain ⟨_, _, hTO⟩ := hTO; rw [q]; exact Heap.lt_size hTO
      · rw [q]; obtain ⟨_, e1, _⟩ := Sk.obj s1; exact Heap.lt_size e1
      · rw [q]; obtain ⟨_, e1, _⟩ := Sk.obj s2; exact Heap.lt_size e1
    rw [upd_ne (Nat.ne_of_lt (Nat.lt_of_lt_of_le hlt hT))]
    exact (hf c hcm).1
  done := by
    intro X hP hw hK hc i pins s σ H E I hf st hg
    subst hP hw hK
    obtain ⟨hz, hTI, hTO, s1, s2⟩ := st
    obtain ⟨xs, ys, hqx, hqy, hend⟩ := hg
    obtain ⟨P1, S1, D1, t1, b1, p1⟩ := Sk.draws I hc hqx N (fun b hb e => by have := h1 b hb; rw [e] at this; exact Nat.lt_irrefl _ this) s1
    obtain ⟨P2, S2, D2, t2, b2, p2⟩ := Sk.draws I hc hqy (N + 1) (fun b hb e => by have := h2 b hb; rw [e] at this; exact absurd this (Nat.not_lt.mpr (Nat.le_succ N))) s2
    have W := GoesN.zip2 (elts := elts) (x1 := kk) (pos := tpos) (zip_sep2 h1 h2) D1 D2
    rw [hend] at t1 t2
    exact W.stops s _ E ⟨hz, hTI, hTO, t1, t2⟩ fun h' tk hk htk => I.turnedL (t' := tk) (ch := [N + 4, N + 3, N, N + 1]) (fun c o hb q => hk c o hb q) (fun b hb => hf b (by
        have e' : b = N + 4 ∨ b = N + 3 ∨ b = N ∨ b = N + 1 := by simpa using hb
        rcases e' with q | q | q | q <;> rw [q] <;> simp))
  self := fun A i s Q E st h => wpAny_pyIter_zip st.1 h
/-! ### zip of three -/
def Itk3 (K : PySem.W.Frag) (k1 k2 k3 : Sk) : It :=
  ⟨fun i H => ∃ (xs ys zs : List V), k1.at K H xs ∧ k2.at K H ys ∧ k3.at K H zs ∧ i < xs.length ∧ i < ys.length ∧ i < zs.length,
    fun i H v H' => ∃ T x y z, v = .ref T ∧ H T = none ∧ H' = upd H T (.tup [x, y, z]) ∧ (∀ xs, k1.at K H xs → xs[i]? = some x) ∧ (∀ ys, k2.at K H ys → ys[i]? = some y) ∧ ∀ zs, k3.at K H zs → zs[i]? = some z,
    fun i H => ∃ xs ys zs : List V, k1.at K H xs ∧ k2.at K H ys ∧ k3.at K H zs ∧ i = min (min xs.length ys.length) zs.length⟩
theorem turn_k3 {P : Program} {w : World} {K : PySem.W.Frag} {elts : List Expr} {kk : Nat} {tpos : Pos} {k1 k2 k3 : Sk} {N : Addr} (h1 : ∀ b ∈ k1.ads, b < N) (h2 : ∀ b ∈ k2.ads, b < N) (h3 : ∀ b ∈ k3.ads, b < N) :
    Turn P w K (.Tuple elts kk tpos) (Itk3 K k1 k2 k3) [N + 5, N + 3, N + 4, N, N + 1, N + 2] (N + 5) (fun i h => IsZip h (N + 5) (N + 3) (N + 4) .none ∧ IsTupOf3 h (N + 3) (.ref N) (.ref (N + 1)) (.ref (N + 2)) ∧ (∃ x y z, IsTupOf3 h (N + 4) x y z) ∧ k1.itr N i h ∧ k2.itr (N + 1) i h ∧ k3.itr (N + 2) i h) where
  mem := by simp
  obj := fun i h st c hc => by
    obtain ⟨hz, hTI, ⟨x, y, z, hTO⟩, s1, s2, s3⟩ := st
    have e' : c = N + 5 ∨ c = N + 3 ∨ c = N + 4 ∨ c = N ∨ c = N + 1 ∨ c = N + 2 := by simpa using hc
    rcases e' with q | q | q | q | q | q
    · rw [q]; exact ⟨_, hz, fun v q => nomatch q⟩
    · rw [q]; exact ⟨_, hTI, fun v q => nomatch q⟩
    · rw [q]; exact ⟨_, hTO, fun v q => nomatch q⟩
    · rw [q]; exact Sk.obj s1
    · rw [q]; exact Sk.obj s2
    · rw [q]; exact Sk.obj s3
  keep := fun i h h' st k => by
    obtain ⟨hz, hTI, ⟨x, y, z, hTO⟩, s1, s2, s3⟩ := st
    exact ⟨k (N + 5) (by simp) _ hz, k (N + 3) (by simp) _ hTI, ⟨x, y, z, k (N + 4) (by simp) _ hTO⟩, Sk.keep s1 fun o q => k N (by simp) o q, Sk.keep s2 fun o q => k (N + 1) (by simp) o q, Sk.keep s3 fun o q => k (N + 2) (by simp) o q⟩
  item := by
    intro X hP hw hK hc i pins s σ H E I hf st hg
    subst hP hw hK
    obtain ⟨hz, hTI, hTO, s1, s2, s3⟩ := st
    obtain ⟨xs, ys, zs, hqx, hqy, hqz, lx, ly, lz⟩ := hg
    obtain ⟨P1, S1, D1, t1, b1, p1⟩ := Sk.draws I hc hqx N (fun b hb e => by have : (b : Nat) < N := h1 b hb; rw [e] at this; exact Nat.lt_irrefl _ this) s1
    obtain ⟨P2, S2, D2, t2, b2, p2⟩ := Sk.draws I hc hqy (N + 1) (fun b hb e => by have : (b : Nat) < N := h2 b hb; rw [e] at this; exact absurd this (Nat.not_lt.mpr (Nat.le_add_right N 1))) s2
    obtain ⟨P3, S3, D3, t3, b3, p3⟩ := Sk.draws I hc hqz (N + 2) (fun b hb e => by have : (b : Nat) < N := h3 b hb; rw [e] at this; exact absurd this (Nat.not_lt.mpr (Nat.le_add_right N 2))) s3
    have W := GoesN.zip3 (elts := elts) (x1 := kk) (pos := tpos) (zip_sep3 h1 h2 h3) D1 D2 D3
    refine W.goes i s _ E (Nat.lt_min.mpr ⟨Nat.lt_min.mpr ⟨lx, ly⟩, lz⟩) ⟨hz, hTI, hTO, t1, t2, t3⟩ fun v h' tk hY st' hk htk => ?_
    obtain ⟨T, u1, u2, u3, rfl, hT, q1, q2, q3, tup⟩ := hY
    obtain ⟨x, ex, rx⟩ := p1 i u1 q1
    obtain ⟨y, ey, ry⟩ := p2 i u2 q2
    obtain ⟨z, ez, rz⟩ := p3 i u3 q3
    obtain ⟨z', TI', TO', a1, a2, a3⟩ := st'
    have new : ObjOk X.prog X.w (upd H T (.tup [x, y, z])) h' T (.tup [x, y, z]) := ⟨by show 3 ≤ sizeLine; decide, [u1, u2, u3], .cons rx (.cons ry (.cons rz .nil)), tup⟩
    have I1 : Inv X pins σ (upd H T (.tup [x, y, z])) { s with heap := h', toks := tk } :=
      I.turnedNew (t' := tk) (ch := [N + 5, N + 4, N, N + 1, N + 2]) (fun c o hb q => hk c o hb q) (fun b hb => hf b (by
        have e' : b = N + 5 ∨ b = N + 4 ∨ b = N ∨ b = N + 1 ∨ b = N + 2 := by simpa using hb
        rcases e' with q | q | q | q | q <;> rw [q] <;> simp)) hT new
    refine ⟨.ref T, _, I1, rfl, ⟨T, x, y, z, rfl, I.hok.fresh hT, rfl, fun l hl => by rw [Sk.inj I hl hqx]; exact ex, fun l hl => by rw [Sk.inj I hl hqy]; exact ey, fun l hl => by rw [Sk.inj I hl hqz]; exact ez⟩, ⟨z', TI', TO', b1 _ _ a1, b2 _ _ a2, b3 _ _ a3⟩, fun c hcm => ?_⟩
    have hlt : c < s.heap.objs.size := by
      have e' : c = N + 5 ∨ c = N + 3 ∨ c = N + 4 ∨ c = N ∨ c = N + 1 ∨ c = N + 2 := by simpa using hcm
      rcases e' with q | q | q | q | q | q
      · rw [q]; exact Heap.lt_size hz
      · rw [q]; exact Heap.lt_size hTI
      · obtain ⟨_, _, _, hTO⟩ := hTO; rw [q]; exact Heap.lt_size hTO
      · rw [q]; obtain ⟨_, e1, _⟩ := Sk.obj s1; exact Heap.lt_size e1
      · rw [q]; obtain ⟨_, e1, _⟩ := Sk.obj s2; exact Heap.lt_size e1
      · rw [q]; obtain ⟨_, e1, _⟩ := Sk.obj s3; exact Heap.lt_size e1
    rw [upd_ne (Nat.ne_of_lt (Nat.lt_of_lt_of_le hlt hT))]
    exact (hf c hcm).1
  done := by
    intro X hP hw hK hc i pins s σ H E I hf st hg
    subst hP hw hK
    obtain ⟨hz, hTI, hTO, s1, s2, s3⟩ := st
    obtain ⟨xs, ys, zs, hqx, hqy, hqz, hend⟩ := hg
    obtain ⟨P1, S1, D1, t1, b1, p1⟩ := Sk.draws I hc hqx N (fun b hb e => by have : (b : Nat) < N := h1 b hb; rw [e] at this; exact Nat.lt_irrefl _ this) s1
    obtain ⟨P2, S2, D2, t2, b2, p2⟩ := Sk.draws I hc hqy (N + 1) (fun b hb e => by have : (b : Nat) < N := h2 b hb; rw [e] at this; exact absurd this (Nat.not_lt.mpr (Nat.le_add_right N 1))) s2
    obtain ⟨P3, S3, D3, t3, b3, p3⟩ := Sk.draws I hc hqz (N + 2) (fun b hb e => by have : (b : Nat) < N := h3 b hb; rw [e] at this; exact absurd this (Nat.not_lt.mpr (Nat.le_add_right N 2))) s3
    have W := GoesN.zip3 (elts := elts) (x1 := kk) (pos := tpos) (zip_sep3 h1 h2 h3) D1 D2 D3
    rw [hend] at t1 t2 t3
    exact W.stops s _ E ⟨hz, hTI, hTO, t1, t2, t3⟩ fun h' tk hk htk => I.turnedL (t' := tk) (ch := [N + 5, N + 4, N, N + 1, N + 2]) (fun c o hb q => hk c o hb q) (fun b hb => hf b (by
        have e' : b = N + 5 ∨ b = N + 4 ∨ b = N ∨ b = N + 1 ∨ b = N + 2 := by simpa using hb
        rcases e' with q | q | q | q | q <;> rw [q] <;> simp))
  self := fun A i s Q E st h => wpAny_pyIter_zip st.1 h
/-! ### enumerate -/
def Iek (K : PySem.W.Frag) (k : Sk) : It :=
  ⟨fun i H => ∃ (xs : List V), k.at K H xs ∧ i < xs.length,
    fun i H v H' => ∃ T x, v = .ref T ∧ H T = none ∧ H' = upd H T (.tup [.int (i : Nat), x]) ∧ ∀ xs, k.at K H xs → xs[i]? = some x,
    fun i H => ∃ xs : List V, k.at K H xs ∧ i = xs.length⟩
theorem turn_ek {P : Program} {w : World} {K : PySem.W.Frag} {elts : List Expr} {kk : Nat} {tpos : Pos} {k : Sk} {N : Addr} (h1 : ∀ b ∈ k.ads, b < N) :
    Turn P w K (.Tuple elts kk tpos) (Iek K k) [N + 1, N] (N + 1) (fun i h => (∃ old, IsEnum h (N + 1) N (0 + (i : Int)) old) ∧ k.itr N i h) where
  mem := by simp
  obj := fun i h st c hc => by
    obtain ⟨⟨old, he⟩, s1⟩ := st
    have e' : c = N + 1 ∨ c = N := by simpa using hc
    rcases e' with q | q
    · rw [q]; exact ⟨_, he, fun v q => nomatch q⟩
    · rw [q]; exact Sk.obj s1
  keep := fun i h h' st k => by
    obtain ⟨⟨old, he⟩, s1⟩ := st
    exact ⟨⟨old, k (N + 1) (by simp) _ he⟩, Sk.keep s1 fun o q => k N (by simp) o q⟩
  item := by
    intro X hP hw hK hc i pins s σ H E I hf st hg
    subst hP hw hK
    obtain ⟨he, s1⟩ := st
    obtain ⟨xs, hqx, lx⟩ := hg
    have ne : (N + 1 : Nat) ≠ N := Nat.succ_ne_self N
    have nin : N + 1 ∉ N :: k.ads := fun hm => by
      rcases List.mem_cons.mp hm with e | hm
      · exact ne e
      · have : (N + 1 : Nat) < N := h1 _ hm
        exact absurd this (Nat.not_lt.mpr (Nat.le_add_right N 1))
    obtain ⟨P1, S1, D1, t1, b1, p1⟩ := Sk.draws I hc hqx N (fun b hb e => by have : (b : Nat) < N := h1 b hb; rw [e] at this; exact Nat.lt_irrefl _ this) s1
    have W := GoesN.enumFrom (elts := elts) (x1 := kk) (pos := tpos) 0 D1 (N + 1) ne nin (List.mem_cons_self ..)
    refine W.goes i s _ E lx ⟨he, t1⟩ fun v h' tk hY st' hk htk => ?_
    obtain ⟨T, t, u1, rfl, hT, q1, tup⟩ := hY
    obtain ⟨x, ex, rx⟩ := p1 i u1 q1
    obtain ⟨he', a1⟩ := st'
    have new : ObjOk X.prog X.w (upd H T (.tup [.int (i : Nat), x])) h' T (.tup [.int (i : Nat), x]) := ⟨by show 2 ≤ sizeLine; decide, [.int (0 + (i : Int)) t, u1], .cons ⟨t, by rw [Int.zero_add]⟩ (.cons rx .nil), tup⟩
    have I1 : Inv X pins σ (upd H T (.tup [.int (i : Nat), x])) { s with heap := h', toks := tk } :=
      I.turnedNew (t' := tk) (ch := [N + 1, N]) (fun c o hb q => hk c o hb q) hf hT new
    refine ⟨.ref T, _, I1, rfl, ⟨T, x, rfl, I.hok.fresh hT, rfl, fun l hl => by rw [Sk.inj I hl hqx]; exact ex⟩, ⟨he', b1 _ _ a1⟩, fun c hcm => ?_⟩
    have hlt : c < s.heap.objs.size := by
      have e' : c = N + 1 ∨ c = N := by simpa using hcm
      rcases e' with q | q
      · obtain ⟨_, he⟩ := he; rw [q]; exact Heap.lt_size he
      · rw [q]; obtain ⟨_, e1, _⟩ := Sk.obj s1; exact Heap.lt_size e1
    rw [upd_ne (Nat.ne_of_lt (Nat.lt_of_lt_of_le hlt hT))]
    exact (hf c hcm).1
  done := by
    intro X hP hw hK hc i pins s σ H E I hf st hg
    subst hP hw hK
    obtain ⟨he, s1⟩ := st
    obtain ⟨xs, hqx, hend⟩ := hg
    have ne : (N + 1 : Nat) ≠ N := Nat.succ_ne_self N
    have nin : N + 1 ∉ N :: k.ads := fun hm => by
      rcases List.mem_cons.mp hm with e | hm
      · exact ne e
      · have : (N + 1 : Nat) < N := h1 _ hm
        exact absurd this (Nat.not_lt.mpr (Nat.le_add_right N 1))
    obtain ⟨P1, S1, D1, t1, b1, p1⟩ := Sk.draws I hc hqx N (fun b hb e => by have : (b : Nat) < N := h1 b hb; rw [e] at this; exact Nat.lt_irrefl _ this) s1
    have W := GoesN.enumFrom (elts := elts) (x1 := kk) (pos := tpos) 0 D1 (N + 1) ne nin (List.mem_cons_self ..)
    rw [hend] at t1 he
    exact W.stops s _ E ⟨he, t1⟩ fun h' tk hk htk => I.turnedL (t' := tk) (ch := [N + 1, N]) (fun c o hb q => hk c o hb q) hf
  self := fun A i s Q E st h => let ⟨⟨_, he⟩, _⟩ := st; wpAny_pyIter_enum he h
set_option maxHeartbeats 4000000 in
theorem meets_enum1 {v : Value} {o : Obj} {Hh : Heap → Prop} (B : Begins v o Hh) :
    Meets (Builtin.«enumerate.__new__» ⟨[.type "enumerate", v], []⟩) (fun _ R s => Hh s.heap ∧ R (.ok (.ret (.ref (s.heap.push o).objs.size))) { s with heap := (s.heap.push o).push { cls := .type "enumerate", data := .fields #[.none, .bool false, .ref s.heap.objs.size, rawInt 0, .none, .none] } }) := Meets.of_wp fun prog w A R s h => by
  obtain ⟨hp, g, d, tk, os⟩ := s
  obtain ⟨h1, h⟩ := h
  have hsub := sub_enumerate
  have q1 : ∀ {A' : Around} {E Q : Value → Shared → Prop}, Q (.ref hp.objs.size) ⟨hp.push o, g, d, tk, os⟩ → wpAny (model prog w) A' (pyIter v) Q E ⟨hp, g, d, tk, os⟩ := fun q => B.iter prog w _ _ ⟨hp, g, d, tk, os⟩ _ h1 q
  wp_walk using q1
  refine wpAny_stack_any (fun st => wpAny_pure ?_)
  split
  · rename_i c _ _ _ _ _
    cases (c == Value.type "enumerate") <;> (wp_walk using q1; exact ⟨_, rfl, h⟩)
  · wp_walk using q1; exact ⟨_, rfl, h⟩
theorem enum1 {prog : Program} {w : World} {A : Around} {E Q : Value → Shared → Prop} {s : Shared} {v : Value} {o : Obj} {Hh : Heap → Prop} (B : Begins v o Hh) (h1 : Hh s.heap)
    (h : ∀ h', IsEnum h' (s.heap.objs.size + 1) s.heap.objs.size 0 .none → h'.get? s.heap.objs.size = some o → (∀ b o, s.heap.get? b = some o → h'.get? b = some o) → Q (.ref (s.heap.objs.size + 1)) { s with heap := h' }) : wpAny (model prog w) A (call (.type "enumerate") [v]) Q E s := by
  refine callType_new F.called_enumerate (by decide) (F.typeCall_enumerate_1 _) (F.newCall_enumerate_1 _) (fun obj => F.args_object_init_2 obj _) F.entry_enumerate_new (meets_enum1 B) ⟨h1, ?_⟩
  have hz : (s.heap.push o).objs.size = s.heap.objs.size + 1 := Heap.size_push ..
  show _ ∧ _
  rw [hz]
  have he : IsEnum ((s.heap.push o).push { cls := .type "enumerate", data := .fields #[.none, .bool false, .ref s.heap.objs.size, rawInt 0, .none, .none] }) (s.heap.objs.size + 1) s.heap.objs.size 0 .none := by
    have z := Heap.get?_push_size (s.heap.push o) (o := { cls := .type "enumerate", data := .fields #[.none, .bool false, .ref s.heap.objs.size, rawInt 0, .none, .none] }) rfl
    rw [hz] at z; exact z
  exact ⟨⟨_, he, rfl⟩, h _ he (Heap.get?_push_of_some _ (Heap.get?_push_size _ B.free)) fun b o y => Heap.get?_push_of_some _ (Heap.get?_push_of_some _ y)⟩
/-! ### as iterables -/
section
variable {X : Cx} {e e2 e3 : Expr} {ta : TA} {p pos tpos : Pos} {elts : List Expr} {kk : Nat}
theorem pi_ek (hg : Gl X "enumerate") (hm : X.mg "enumerate" = none) (ha : PA X [e] ta) (hs : starEach [e] X.env = [(false, eval e X.env)]) :
    PI X (.Tuple elts kk tpos) (.Call (.Name "enumerate" p) [e] [] pos) (fun σ H R => ta σ H fun vs H1 => ∃ (k : Sk) (xs : List V), vs = [k.v] ∧ k.at X.K H1 xs ∧ R (Iek X.K k) H1) := by
  refine ⟨fun pins s σ H R I h => ?_⟩
  refine PyProof.Rows.Call_ (ld_blt I hg hm PyProof.Rows.boot_enumerate (PyProof.Rows.callWith_type1 (thn (ha.run pos pins s σ H _ I h) fun us s1 ⟨vs, H1, I1, r1, q1⟩ => ?_) hs rfl))
  obtain ⟨k, xs, ex, hq, q⟩ := q1
  subst ex
  cases r1 with
  | cons r rr =>
    cases rr
    obtain ⟨o, Hh, B, hH, st0, lt⟩ := Sk.begin_ I1 hq r
    refine enum1 B hH fun h' he hit hk => wpAny_pyIter_enum he ?_
    have I2 : Inv X pins σ H1 { s1 with heap := h' } := I1.kept (t' := s1.toks) hk
    refine ⟨s1.heap.objs.size + 1, [s1.heap.objs.size + 1, s1.heap.objs.size], _, _, H1, rfl, I2, turn_ek lt, ⟨⟨.none, he⟩, st0 _ _ hit⟩, fun b hb => ?_, q⟩
    have e' : b = s1.heap.objs.size + 1 ∨ b = s1.heap.objs.size := by simpa using hb
    have hle : s1.heap.objs.size ≤ b := by
      rcases e' with z | z <;> rw [z]
      · exact Nat.le_add_right _ 1
      · exact Nat.le_refl _
    exact I1.fpOk hle (I1.hok.fresh hle)
theorem pi_k2 (hg : Gl X "zip") (hm : X.mg "zip" = none) (ha : PA X [e, e2] ta)
    (hs : starEach [e, e2] X.env = (false, eval e X.env) :: starEach [e2] X.env) (hpl : (backTo pos (starEach [e2] X.env)).any (·.1) = false) :
    PI X (.Tuple elts kk tpos) (.Call (.Name "zip" p) [e, e2] [] pos) (fun σ H R => ta σ H fun vs H1 => ∃ (k1 k2 : Sk) (xs ys : List V), vs = [k1.v, k2.v] ∧ k1.at X.K H1 xs ∧ k2.at X.K H1 ys ∧ R (Itk2 X.K k1 k2) H1) := by
  refine ⟨fun pins s σ H R I h => ?_⟩
  refine PyProof.Rows.Call_ (ld_blt I hg hm PyProof.Rows.boot_zip (PyProof.Rows.callWith_type1 (thn (ha.run pos pins s σ H _ I h) fun us s1 ⟨vs, H1, I1, r1, q1⟩ => ?_) hs hpl))
  obtain ⟨k1, k2, xs, ys, ex, hq1, hq2, q⟩ := q1
  subst ex
  cases r1 with
  | cons r rr => cases rr with
    | cons r' rr =>
      cases rr
      obtain ⟨o, Hh, B, hH, st0, lt⟩ := Sk.begin_ I1 hq1 r
      obtain ⟨o', Hh', B', hH', st0', lt'⟩ := Sk.begin_ I1 hq2 r'
      refine zip_begins2 B B' hH hH' fun h' hz hTI hTO a1 a2 hsz hk => wpAny_pyIter_zip hz ?_
      have I2 : Inv X pins σ H1 { s1 with heap := h' } := I1.kept (t' := s1.toks) hk
      refine ⟨s1.heap.objs.size + 4, [s1.heap.objs.size + 4, s1.heap.objs.size + 2, s1.heap.objs.size + 3, s1.heap.objs.size, s1.heap.objs.size + 1], _, _, H1, rfl, I2, turn_k2 lt lt', ⟨hz, hTI, ⟨_, _, hTO⟩, st0 _ _ a1, st0' _ _ a2⟩, fun c hcm => ?_, q⟩
      have e' : c = s1.heap.objs.size + 4 ∨ c = s1.heap.objs.size + 2 ∨ c = s1.heap.objs.size + 3 ∨ c = s1.heap.objs.size ∨ c = s1.heap.objs.size + 1 := by simpa using hcm
      have hle : s1.heap.objs.size ≤ c := by
        rcases e' with z | z | z | z | z <;> rw [z]
        · exact Nat.le_add_right _ _
        · exact Nat.le_add_right _ _
        · exact Nat.le_add_right _ _
        · exact Nat.le_refl _
        · exact Nat.le_add_right _ _
      exact I1.fpOk hle (I1.hok.fresh hle)
theorem pi_k3 (hg : Gl X "zip") (hm : X.mg "zip" = none) (ha : PA X [e, e2, e3] ta)
    (hs : starEach [e, e2, e3] X.env = (false, eval e X.env) :: starEach [e2, e3] X.env) (hpl : (backTo pos (starEach [e2, e3] X.env)).any (·.1) = false) :
    PI X (.Tuple elts kk tpos) (.Call (.Name "zip" p) [e, e2, e3] [] pos) (fun σ H R => ta σ H fun vs H1 => ∃ (k1 k2 k3 : Sk) (xs ys zs : List V), vs = [k1.v, k2.v, k3.v] ∧ k1.at X.K H1 xs ∧ k2.at X.K H1 ys ∧ k3.at X.K H1 zs ∧ R (Itk3 X.K k1 k2 k3) H1) := by
  refine ⟨fun pins s σ H R I h => ?_⟩
  refine PyProof.Rows.Call_ (ld_blt I hg hm PyProof.Rows.boot_zip (PyProof.Rows.callWith_type1 (thn (ha.run pos pins s σ H _ I h) fun us s1 ⟨vs, H1, I1, r1, q1⟩ => ?_) hs hpl))
  obtain ⟨k1, k2, k3, xs, ys, zs, ex, hq1, hq2, hq3, q⟩ := q1
  subst ex
  cases r1 with
  | cons r rr => cases rr with
    | cons r' rr => cases rr with
      | cons r'' rr =>
        cases rr
        obtain ⟨o, Hh, B, hH, st0, lt⟩ := Sk.begin_ I1 hq1 r
        obtain ⟨o', Hh', B', hH', st0', lt'⟩ := Sk.begin_ I1 hq2 r'
        obtain ⟨o'', Hh'', B'', hH'', st0'', lt''⟩ := Sk.begin_ I1 hq3 r''
        refine zip_begins3 B B' B'' hH hH' hH'' fun h' hz hTI hTO a1 a2 a3 hsz hk => wpAny_pyIter_zip hz ?_
        have I2 : Inv X pins σ H1 { s1 with heap := h' } := I1.kept (t' := s1.toks) hk
        refine ⟨s1.heap.objs.size + 5, [s1.heap.objs.size + 5, s1.heap.objs.size + 3, s1.heap.objs.size + 4, s1.heap.objs.size, s1.heap.objs.size + 1, s1.heap.objs.size + 2], _, _, H1, rfl, I2, turn_k3 lt lt' lt'', ⟨hz, hTI, ⟨_, _, _, hTO⟩, st0 _ _ a1, st0' _ _ a2, st0'' _ _ a3⟩, fun c hcm => ?_, q⟩
        have e' : c = s1.heap.objs.size + 5 ∨ c = s1.heap.objs.size + 3 ∨ c = s1.heap.objs.size + 4 ∨ c = s1.heap.objs.size ∨ c = s1.heap.objs.size + 1 ∨ c = s1.heap.objs.size + 2 := by simpa using hcm
        have hle : s1.heap.objs.size ≤ c := by
          rcases e' with z | z | z | z | z | z <;> rw [z]
          · exact Nat.le_add_right _ _
          · exact Nat.le_add_right _ _
          · exact Nat.le_add_right _ _
          · exact Nat.le_refl _
          · exact Nat.le_add_right _ _
          · exact Nat.le_add_right _ _
        exact I1.fpOk hle (I1.hok.fresh hle)
end
/-! ### by data -/
section
variable {R : RC} {A : Act} {F : Hp} {k k1 k2 k3 : Sk} {ds es fs : List Dp.D} {vs ws us : List V}
theorem Reps.chars (s : List Nat) : Reps R F (s.map fun c => Dp.D.str [c]) ((⟨s.toArray⟩ : Str).cps.toList.map fun c => V.str ⟨#[c]⟩) := by
  show Reps R F _ (s.map fun c => V.str ⟨#[c]⟩)
  induction s with
  | nil => exact rfl
  | cons c s ih => exact ⟨_, _, rfl, rfl, ih⟩
theorem sk_of {d : Dp.D} {v : V} (h : Rep R F d v) (e : Dp.itemsD d = some ds) : ∃ (k : Sk) (vs : List V), v = k.v ∧ Reps R F ds vs ∧ ∀ H, Sub F H → k.at R.K H vs := by
  cases d with
  | lst xs =>
    cases e
    obtain ⟨a, vs, rfl, h1, r⟩ := h
    exact ⟨.l a, vs, rfl, r, fun H s => SqL.of (s _ _ h1)⟩
  | tup xs =>
    cases e
    obtain ⟨a, vs, rfl, h1, r⟩ := h
    exact ⟨.t a, vs, rfl, r, fun H s => SqT.of (s _ _ h1)⟩
  | kt xs =>
    cases e
    obtain ⟨a, vs, rfl, h1, r⟩ := h
    exact ⟨.t a, vs, rfl, r, fun H s => s.sqT h1⟩
  | str s =>
    cases e
    rw [show v = _ from h]
    exact ⟨.s ⟨s.toArray⟩, _, rfl, Reps.chars s, fun H _ => rfl⟩
  | _ => cases e
theorem it_ek (r : Reps R F ds vs) (hk : ∀ H, Sub F H → k.at R.K H vs) : ItOk R A F (Iek R.K k) (Dp.enumD 0 ds) := by
  intro i σ H F' δ sub q
  have hs := hk H (sub.trans q.sub)
  refine ⟨fun d e => ?_, fun hl => ⟨vs, hs, by rw [r.length, hl, enumD_len]⟩⟩
  obtain ⟨x, ex, rfl⟩ := enumD_at e
  obtain ⟨v, ev, rv⟩ := r.at ex
  refine ⟨⟨vs, hs, (List.getElem?_eq_some_iff.mp ev).1⟩, fun y H' ⟨T, z, ey, hT, eH, hz⟩ => ?_⟩
  have := hz vs hs
  rw [ev] at this
  cases this
  subst eH
  have g := Grow.laid (A := A) (o := .tup [.int (i : Nat), v]) q.tab hT q.sub (fun ⟨_, e⟩ => nomatch e)
  refine ⟨_, g, ?_⟩
  rw [ey]
  refine ⟨T, _, rfl, upd_same, .int (i : Nat), [v], rfl, ?_, v, [], rfl, (rv.sub sub).sub g.more, rfl⟩
  show V.int _ = V.int _
  congr 1
  omega
theorem zipD_at : ∀ {i : Nat} {xs ys : List Dp.D} {d : Dp.D}, (Dp.zipD xs ys)[i]? = some d → ∃ x y, xs[i]? = some x ∧ ys[i]? = some y ∧ d = .tup [x, y]
  | i, [], ys, d, e => by cases ys <;> cases e
  | i, x :: xs, [], d, e => by cases e
  | 0, x :: xs, y :: ys, d, e => by cases e; exact ⟨x, y, rfl, rfl, rfl⟩
  | i + 1, x :: xs, y :: ys, d, e => zipD_at (i := i) (xs := xs) (ys := ys) e
theorem zipD_len : ∀ (xs ys : List Dp.D), (Dp.zipD xs ys).length = min xs.length ys.length
  | [], ys => by cases ys <;> simp [Dp.zipD]
  | x :: xs, [] => by simp [Dp.zipD]
  | x :: xs, y :: ys => by simp [Dp.zipD, zipD_len xs ys]
theorem zip3D_at : ∀ {i : Nat} {xs ys zs : List Dp.D} {d : Dp.D}, (Dp.zip3D xs ys zs)[i]? = some d → ∃ x y z, xs[i]? = some x ∧ ys[i]? = some y ∧ zs[i]? = some z ∧ d = .tup [x, y, z]
  | i, [], ys, zs, d, e => by cases ys <;> cases zs <;> cases e
  | i, x :: xs, [], zs, d, e => by cases zs <;> cases e
  | i, x :: xs, y :: ys, [], d, e => by cases e
  | 0, x :: xs, y :: ys, z :: zs, d, e => by cases e; exact ⟨x, y, z, rfl, rfl, rfl, rfl⟩
  | i + 1, x :: xs, y :: ys, z :: zs, d, e => zip3D_at (i := i) (xs := xs) (ys := ys) (zs := zs) e
theorem zip3D_len : ∀ (xs ys zs : List Dp.D), (Dp.zip3D xs ys zs).length = min (min xs.length ys.length) zs.length
  | [], ys, zs => by cases ys <;> cases zs <;> simp [Dp.zip3D]
  | x :: xs, [], zs => by cases zs <;> simp [Dp.zip3D]
  | x :: xs, y :: ys, [] => by simp [Dp.zip3D]
  | x :: xs, y :: ys, z :: zs => by simp [Dp.zip3D, zip3D_len xs ys zs]
theorem it_k2 (r : Reps R F ds vs) (hk : ∀ H, Sub F H → k1.at R.K H vs) (r2 : Reps R F es ws) (hk2 : ∀ H, Sub F H → k2.at R.K H ws) : ItOk R A F (Itk2 R.K k1 k2) (Dp.zipD ds es) := by
  intro i σ H F' δ sub q
  have hs := hk H (sub.trans q.sub)
  have hs2 := hk2 H (sub.trans q.sub)
  refine ⟨fun d e => ?_, fun hl => ⟨vs, ws, hs, hs2, by rw [r.length, r2.length, hl, zipD_len]⟩⟩
  obtain ⟨x, y, ex, ey, rfl⟩ := zipD_at e
  obtain ⟨v, ev, rv⟩ := r.at ex
  obtain ⟨w, ew, rw_⟩ := r2.at ey
  refine ⟨⟨vs, ws, hs, hs2, (List.getElem?_eq_some_iff.mp ev).1, (List.getElem?_eq_some_iff.mp ew).1⟩, fun z H' ⟨T, z1, z2, ez, hT, eH, hz, hz2⟩ => ?_⟩
  have e1 := hz vs hs
  have e2 := hz2 ws hs2
  rw [ev] at e1
  rw [ew] at e2
  cases e1
  cases e2
  subst eH
  have g := Grow.laid (A := A) (o := .tup [v, w]) q.tab hT q.sub (fun ⟨_, e⟩ => nomatch e)
  exact ⟨_, g, by rw [ez]; exact ⟨T, _, rfl, upd_same, v, [w], rfl, (rv.sub sub).sub g.more, w, [], rfl, (rw_.sub sub).sub g.more, rfl⟩⟩
theorem it_k3 (r : Reps R F ds vs) (hk : ∀ H, Sub F H → k1.at R.K H vs) (r2 : Reps R F es ws) (hk2 : ∀ H, Sub F H → k2.at R.K H ws) (r3 : Reps R F fs us) (hk3 : ∀ H, Sub F H → k3.at R.K H us) : ItOk R A F (Itk3 R.K k1 k2 k3) (Dp.zip3D ds es fs) := by
  intro i σ H F' δ sub q
  have hs := hk H (sub.trans q.sub)
  have hs2 := hk2 H (sub.trans q.sub)
  have hs3 := hk3 H (sub.trans q.sub)
  refine ⟨fun d e => ?_, fun hl => ⟨vs, ws, us, hs, hs2, hs3, by rw [r.length, r2.length, r3.length, hl, zip3D_len]⟩⟩
  obtain ⟨x, y, z, ex, ey, ez, rfl⟩ := zip3D_at e
  obtain ⟨v, ev, rv⟩ := r.at ex
  obtain ⟨w, ew, rw_⟩ := r2.at ey
  obtain ⟨u, eu, ru⟩ := r3.at ez
  refine ⟨⟨vs, ws, us, hs, hs2, hs3, (List.getElem?_eq_some_iff.mp ev).1, (List.getElem?_eq_some_iff.mp ew).1, (List.getElem?_eq_some_iff.mp eu).1⟩, fun t H' ⟨T, z1, z2, z3, et, hT, eH, hz, hz2, hz3⟩ => ?_⟩
  have e1 := hz vs hs
  have e2 := hz2 ws hs2
  have e3 := hz3 us hs3
  rw [ev] at e1
  rw [ew] at e2
  rw [eu] at e3
  cases e1
  cases e2
  cases e3
  subst eH
  have g := Grow.laid (A := A) (o := .tup [v, w, u]) q.tab hT q.sub (fun ⟨_, e⟩ => nomatch e)
  exact ⟨_, g, by rw [et]; exact ⟨T, _, rfl, upd_same, v, [w, u], rfl, (rv.sub sub).sub g.more, w, [u], rfl, (rw_.sub sub).sub g.more, u, [], rfl, (ru.sub sub).sub g.more, rfl⟩⟩
end
section
variable {L : LX} {G : Dp.Gam} {N : List Str} {sc : Scope} {cal : Bool} {A : Act} {W : WX} {X : Cx} {a b c tg : Expr} {fa fb fc : Dp.E} {p p1 tpos : Pos} {elts : List Expr} {kk : Nat}
theorem di_enum (hg : glB sc "enumerate" = true) (hs : notStar a = true) (ha : DE L G N sc cal a (Dp.ev G fa)) : DI L G N sc cal (.Tuple elts kk tpos) (.Call (.Name "enumerate" p1) [a] [] p) (Dp.evi G (.enum fa)) := by
  intro A W X xo
  refine (pi_ek (gl_X xo hg) (free_of xo (by decide +kernel)) (pa_cons (ha A W X xo) pa_nil (star_cons hs [] X.env)) (star_cons hs [] X.env)).imp fun σ H Q h => ?_
  refine used_val (tP.bind (f := fun δ => (Dp.ev G fa δ).used) (g := fun d σ1 => Dp.Out.lift σ1 (Dp.enumO d)) back_I h fun v H1 F1 d δ1 q1 k1 rr h1 => ?_)
  have rr : Rep L.R F1 d v := rr
  unfold Dp.enumO at h1
  cases e : Dp.itemsD d with
  | none => rw [e] at h1; exact h1.elim
  | some ds =>
    rw [e] at h1
    obtain ⟨k, vs, ev, r, hk⟩ := sk_of rr e
    rw [xo.K]
    exact ⟨k, vs, by rw [ev], hk H1 q1.sub, h1 _ H1 F1 q1 Stp.refl (it_ek r hk)⟩
theorem di_zip (hg : glB sc "zip" = true) (hs : notStar a = true) (hs2 : notStar b = true) (ha : DE L G N sc cal a (Dp.ev G fa)) (hb : DE L G N sc cal b (Dp.ev G fb)) : DI L G N sc cal (.Tuple elts kk tpos) (.Call (.Name "zip" p1) [a, b] [] p) (Dp.evi G (.zip2 fa fb)) := by
  intro A W X xo
  refine (pi_k2 (gl_X xo hg) (free_of xo (by decide +kernel)) (pa_cons (ha A W X xo) (pa_cons (hb A W X xo) pa_nil (star_cons hs2 [] X.env)) (star_cons hs [b] X.env)) (star_cons hs [b] X.env) (star_plain p X.env [b] (by rw [List.all_cons, hs2]; rfl))).imp fun σ H Q h => ?_
  refine used_val (tP.bind (f := fun δ => (Dp.ev G fa δ).used) (g := fun d σ1 => (Dp.ev G fb σ1).used.bind fun e σ2 => Dp.Out.lift σ2 (Dp.zipO d e)) back_I h fun v H1 F1 d δ1 q1 k1 rr h1 => used_val ⟨F1, δ1, q1, h1.bind back_I fun w H2 F2 e δ2 _ q2 st2 rr2 h2 => ?_⟩)
  have rr : Rep L.R F2 d v := Rep.sub st2.more rr
  have rr2 : Rep L.R F2 e w := rr2
  rw [xo.K]
  unfold Dp.zipO at h2
  cases e1 : Dp.itemsD d with
  | none => rw [e1] at h2; exact h2.elim
  | some ds => cases e2 : Dp.itemsD e with
    | none => rw [e1, e2] at h2; exact h2.elim
    | some es =>
      rw [e1, e2] at h2
      obtain ⟨k1, vs, ev, r, hk⟩ := sk_of rr e1
      obtain ⟨k2, ws, ew, r2, hk2⟩ := sk_of rr2 e2
      exact ⟨k1, k2, vs, ws, by rw [ev, ew], hk H2 q2.sub, hk2 H2 q2.sub, h2 _ H2 F2 q2 Stp.refl (it_k2 r hk r2 hk2)⟩
theorem di_zip3 (hg : glB sc "zip" = true) (hs : notStar a = true) (hs2 : notStar b = true) (hs3 : notStar c = true) (ha : DE L G N sc cal a (Dp.ev G fa)) (hb : DE L G N sc cal b (Dp.ev G fb)) (hc : DE L G N sc cal c (Dp.ev G fc)) :
    DI L G N sc cal (.Tuple elts kk tpos) (.Call (.Name "zip" p1) [a, b, c] [] p) (Dp.evi G (.zip3 fa fb fc)) := by
  intro A W X xo
  refine (pi_k3 (gl_X xo hg) (free_of xo (by decide +kernel)) (pa_cons (ha A W X xo) (pa_cons (hb A W X xo) (pa_cons (hc A W X xo) pa_nil (star_cons hs3 [] X.env)) (star_cons hs2 [c] X.env)) (star_cons hs [b, c] X.env)) (star_cons hs [b, c] X.env) (star_plain p X.env [b, c] (by rw [List.all_cons, List.all_cons, hs2, hs3]; rfl))).imp fun σ H Q h => ?_
  refine used_val (tP.bind (f := fun δ => (Dp.ev G fa δ).used) (g := fun d σ1 => (Dp.ev G fb σ1).used.bind fun e σ2 => (Dp.ev G fc σ2).used.bind fun f σ3 => Dp.Out.lift σ3 (Dp.zip3O d e f)) back_I h fun v H1 F1 d δ1 q1 k1 rr h1 => used_val ⟨F1, δ1, q1, h1.bind back_I fun w H2 F2 e δ2 _ q2 st2 rr2 h2 => used_val ⟨F2, δ2, q2, h2.bind back_I fun u H3 F3 f δ3 _ q3 st3 rr3 h3 => ?_⟩⟩)
  have rr : Rep L.R F3 d v := Rep.sub st3.more (Rep.sub st2.more rr)
  have rr2 : Rep L.R F3 e w := Rep.sub st3.more rr2
  have rr3 : Rep L.R F3 f u := rr3
  rw [xo.K]
  unfold Dp.zip3O at h3
  cases e1 : Dp.itemsD d with
  | none => rw [e1] at h3; exact h3.elim
  | some ds => cases e2 : Dp.itemsD e with
    | none => rw [e1, e2] at h3; exact h3.elim
    | some es => cases e3 : Dp.itemsD f with
      | none => rw [e1, e2, e3] at h3; exact h3.elim
      | some fs =>
        rw [e1, e2, e3] at h3
        obtain ⟨k1, vs, ev, r, hk⟩ := sk_of rr e1
        obtain ⟨k2, ws, ew, r2, hk2⟩ := sk_of rr2 e2
        obtain ⟨k3, us, eu, r3, hk3⟩ := sk_of rr3 e3
        exact ⟨k1, k2, k3, vs, ws, us, by rw [ev, ew, eu], hk H3 q3.sub, hk2 H3 q3.sub, hk3 H3 q3.sub, h3 _ H3 F3 q3 Stp.refl (it_k3 r hk r2 hk2 r3 hk3)⟩
end
end DpS
end

section
set_option Elab.async false
set_option linter.all false
set_option maxRecDepth 100000
set_option maxHeartbeats 4000000
set_option autoImplicit false
/-! DpB13: slots that are stored; targets; steps from one state to another. -/
namespace DpS
open PySem PySem.Spec L2

/-- a step from one state to another -/
structure StpS (A : Act) (σ : St) (H F : Hp) (δ : Dp.DSt) (σ' : St) (H' F' : Hp) (δ' : Dp.DSt) : Prop where
  keep : ∀ a o, H a = some o → ¬ Tb o → ¬ Own A σ δ a → H' a = some o
  there : ∀ a, ¬ Nt H a → ¬ Nt H' a
  more : Sub F F'
  new : ∀ a o, F' a = some o → F a = some o ∨ Nt H a ∨ Own A σ δ a
  own : ∀ a, Own A σ' δ' a → Own A σ δ a ∨ Nt H a
section
variable {R : RC} {A : Act} {σ σ1 σ2 : St} {H H1 H2 F F1 F2 : Hp} {δ δ1 δ2 : Dp.DSt} {a : Addr} {v : V}
theorem Stp.toS (s : Stp A σ H F δ H1 F1 δ1) : StpS A σ H F δ σ H1 F1 δ1 := ⟨s.keep, s.there, s.more, s.new, fun a h => .inl (s.ownS h)⟩
theorem StpS.refl : StpS A σ H F δ σ H F δ := Stp.refl.toS
theorem StpS.nt (s : StpS A σ H F δ σ1 H1 F1 δ1) (h : Nt H1 a) : Nt H a := Classical.byContradiction fun n => s.there a n h
theorem StpS.trans (s : StpS A σ H F δ σ1 H1 F1 δ1) (t : StpS A σ1 H1 F1 δ1 σ2 H2 F2 δ2) : StpS A σ H F δ σ2 H2 F2 δ2 where
  keep := fun a o h n w => t.keep a o (s.keep a o h n w) n fun z => by
    rcases s.own a z with y | y
    · exact w y
    · exact n (y o h)
  there := fun a h => t.there a (s.there a h)
  more := s.more.trans t.more
  new := fun a o h => by
    rcases t.new a o h with h | h | h
    · exact s.new a o h
    · exact .inr (.inl (s.nt h))
    · rcases s.own a h with y | y
      · exact .inr (.inr y)
      · exact .inr (.inl y)
  own := fun a h => by
    rcases t.own a h with y | y
    · exact s.own a y
    · exact .inr (s.nt y)
/-- nothing but slots changes; what is own was so -/
theorem StpS.slots (h : ∀ a, Own A σ1 δ1 a → Own A σ δ a) : StpS A σ H F δ σ1 H F δ1 := ⟨fun _ _ h _ _ => h, fun _ h => h, Sub.refl _, fun _ _ h => .inl h, fun a z => .inl (h a z)⟩

/-! ### stores -/
def noBo (δ : Dp.DSt) (i : Nat) : Prop := ∃ s, δ[i]? = some s ∧ ∀ o, s ≠ .bo o
theorem set_at {α : Type} {l : List α} {i : Nat} {x : α} (hi : i < l.length) (j : Nat) : (l.set i x)[j]? = if j = i then some x else l[j]? := by
  by_cases e : j = i
  · subst e; rw [List.getElem?_set_self hi, if_pos rfl]
  · rw [List.getElem?_set_ne (Ne.symm e), if_neg e]
theorem DRel.setSh {i : Nat} {d : Dp.D} (q : DRel R A σ H F δ) (n : noBo δ i) (r : Rep R F d v) : DRel R A (σ.set i (some v)) H F (δ.set i (.sh d)) ∧ ∀ a, Own A (σ.set i (some v)) (δ.set i (.sh d)) a → Own A σ δ a := by
  obtain ⟨s, hs, nb⟩ := n
  have hi : i < δ.length := (List.getElem?_eq_some_iff.mp hs).1
  have hj : i < σ.length := by rw [q.len]; exact hi
  refine ⟨⟨by rw [List.length_set, List.length_set, q.len], q.sub, q.old, q.ntb, fun j e h => ?_, fun j o h => ?_, fun j o h => ?_, fun j k o u h1 h2 => ?_, q.bt, fun j k o u b h1 h2 e1 e2 => ?_, q.base, q.tab⟩, fun b h => ?_⟩
  · rw [set_at hi] at h
    rw [set_at hj]
    by_cases e : j = i
    · rw [if_pos e] at h ⊢
      cases h
      exact ⟨v, rfl, r⟩
    · rw [if_neg e] at h ⊢
      exact q.sh j _ h
  · rw [set_at hi] at h
    rw [set_at hj]
    by_cases e : j = i
    · rw [if_pos e] at h; cases h
    · rw [if_neg e] at h ⊢
      exact q.ow j _ h
  · rw [set_at hi] at h
    rw [set_at hj]
    by_cases e : j = i
    · rw [if_pos e] at h; cases h
    · rw [if_neg e] at h ⊢
      exact q.bo j _ h
  · rw [set_at hi] at h1 h2
    by_cases e : j = i
    · rw [if_pos e] at h1; cases h1
    · rw [if_neg e] at h1
      by_cases e' : k = i
      · rw [if_pos e'] at h2; cases h2
      · rw [if_neg e'] at h2
        exact q.one j k o u h1 h2
  · rw [set_at hi] at h1 h2
    rw [set_at hj] at e1 e2
    by_cases e : j = i
    · rw [if_pos e] at h1; cases h1
    · rw [if_neg e] at h1 e1
      by_cases e' : k = i
      · rw [if_pos e'] at h2; cases h2
      · rw [if_neg e'] at h2 e2
        exact q.dis j k o u b h1 h2 e1 e2
  · rcases h with h | ⟨j, o, h1, h2⟩
    · exact .inl h
    · rw [set_at hi] at h1
      rw [set_at hj] at h2
      by_cases e : j = i
      · rw [if_pos e] at h1; cases h1
      · rw [if_neg e] at h1 h2
        exact .inr ⟨j, o, h1, h2⟩
theorem DRel.setOw {i : Nat} {o : Dp.Ob} (q : DRel R A σ H F δ) (n : noBo δ i) (hF : F a = none) (h0 : Nt A.H0 a) (hb : A.bo ≠ some a) (no : ¬ Own A σ δ a) (ob : ObAt R H F a o) :
    DRel R A (σ.set i (some (.ref a))) H F (δ.set i (.ow o)) ∧ ∀ b, Own A (σ.set i (some (.ref a))) (δ.set i (.ow o)) b → Own A σ δ b ∨ b = a := by
  obtain ⟨s, hs, nb⟩ := n
  have hi : i < δ.length := (List.getElem?_eq_some_iff.mp hs).1
  have hj : i < σ.length := by rw [q.len]; exact hi
  refine ⟨⟨by rw [List.length_set, List.length_set, q.len], q.sub, q.old, q.ntb, fun j e h => ?_, fun j u h => ?_, fun j u h => ?_, fun j k u w h1 h2 => ?_, q.bt, fun j k u w b h1 h2 e1 e2 => ?_, q.base, q.tab⟩, fun b h => ?_⟩
  · rw [set_at hi] at h
    rw [set_at hj]
    by_cases e : j = i
    · rw [if_pos e] at h; cases h
    · rw [if_neg e] at h ⊢
      exact q.sh j _ h
  · rw [set_at hi] at h
    rw [set_at hj]
    by_cases e : j = i
    · rw [if_pos e] at h ⊢
      cases h
      exact ⟨a, rfl, hF, h0, hb, ob⟩
    · rw [if_neg e] at h ⊢
      exact q.ow j _ h
  · rw [set_at hi] at h
    rw [set_at hj]
    by_cases e : j = i
    · rw [if_pos e] at h; cases h
    · rw [if_neg e] at h ⊢
      exact q.bo j _ h
  · rw [set_at hi] at h1 h2
    by_cases e : j = i
    · rw [if_pos e] at h1; cases h1
    · rw [if_neg e] at h1
      by_cases e' : k = i
      · rw [if_pos e'] at h2; cases h2
      · rw [if_neg e'] at h2
        exact q.one j k u w h1 h2
  · rw [set_at hi] at h1 h2
    rw [set_at hj] at e1 e2
    by_cases e : j = i
    · rw [if_pos e] at h1 e1
      by_cases e' : k = i
      · rw [e, e']
      · rw [if_neg e'] at h2 e2
        cases e1
        exact absurd (.inr ⟨k, w, h2, e2⟩) no
    · rw [if_neg e] at h1 e1
      by_cases e' : k = i
      · rw [if_pos e'] at h2 e2
        cases e2
        exact absurd (.inr ⟨j, u, h1, e1⟩) no
      · rw [if_neg e'] at h2 e2
        exact q.dis j k u w b h1 h2 e1 e2
  · rcases h with h | ⟨j, u, h1, h2⟩
    · exact .inl (.inl h)
    · rw [set_at hi] at h1
      rw [set_at hj] at h2
      by_cases e : j = i
      · rw [if_pos e] at h2
        cases h2
        exact .inr rfl
      · rw [if_neg e] at h1 h2
        exact .inl (.inr ⟨j, u, h1, h2⟩)
theorem store_sh {i : Nat} {d : Dp.D} (h : Dp.store i (.val d) δ = some δ1) : noBo δ i ∧ δ1 = δ.set i (.sh d) := by
  have h : (match δ[i]? with | some (.bo _) => none | some _ => some (δ.set i (.sh d)) | none => none) = some δ1 := h
  cases e : δ[i]? with
  | none => rw [e] at h; cases h
  | some s =>
    rw [e] at h
    cases s with
    | bo o => cases h
    | un => cases h; exact ⟨⟨_, e, fun o z => nomatch z⟩, rfl⟩
    | sh _ => cases h; exact ⟨⟨_, e, fun o z => nomatch z⟩, rfl⟩
    | ow _ => cases h; exact ⟨⟨_, e, fun o z => nomatch z⟩, rfl⟩
/-- x = a value -/
theorem store_rel {i : Nat} {r : Dp.RV} {Hq : Hp} (q : DRel R A σ H F δ) (rr : RelRV R A σ Hq H F δ v r) (hq : ∀ a, Nt Hq a → Nt A.H0 a ∧ A.bo ≠ some a) (hn : ∀ a, Nt H a → Nt Hq a) (h : Dp.store i r δ = some δ1) :
    ∃ F1, DRel R A (σ.set i (some v)) H F1 δ1 ∧ Sub F F1 ∧ (∀ a o, F1 a = some o → F a = some o ∨ Nt Hq a ∨ Own A σ δ a) ∧ ∀ a, Own A (σ.set i (some v)) δ1 a → Own A σ δ a ∨ Nt Hq a := by
  have viaUse : ∀ d δ', Dp.use r δ = some (d, δ') → (match δ'[i]? with | some (.bo _) => none | some _ => some (δ'.set i (.sh d)) | none => none) = some δ1 →
      ∃ F1, DRel R A (σ.set i (some v)) H F1 δ1 ∧ Sub F F1 ∧ (∀ a o, F1 a = some o → F a = some o ∨ Nt Hq a ∨ Own A σ δ a) ∧ ∀ a, Own A (σ.set i (some v)) δ1 a → Own A σ δ a ∨ Nt Hq a := by
    intro d δ' hu h
    obtain ⟨F2, q2, rd, sub, new, own⟩ := use_rel rr q hu hq
    obtain ⟨nb, e1⟩ := store_sh (i := i) (d := d) (δ := δ') h
    subst e1
    obtain ⟨q3, ow⟩ := q2.setSh nb rd
    refine ⟨F2, q3, sub, new, fun a z => ?_⟩
    rcases ow a z with y | ⟨j, o, e1, e2⟩
    · exact .inl (.inl y)
    · obtain ⟨u, e3⟩ := own j o e1
      exact .inl (.inr ⟨j, u, e3, e2⟩)
  cases r with
  | val d => exact viaUse d δ rfl h
  | bor j =>
    have h : (match Dp.use (.bor j) δ with | some (d, σ1) => (match σ1[i]? with | some (.bo _) => none | some _ => some (σ1.set i (.sh d)) | none => none) | none => none) = some δ1 := h
    cases hu : Dp.use (.bor j) δ with
    | none => rw [hu] at h; cases h
    | some p =>
      obtain ⟨d, δ'⟩ := p
      rw [hu] at h
      exact viaUse d δ' hu h
  | fr o =>
    obtain ⟨a, rfl, n, f, w, ob⟩ := rr
    have h : (match δ[i]? with | some (.bo _) => none | some _ => some (δ.set i (.ow o)) | none => none) = some δ1 := h
    have key : noBo δ i ∧ δ1 = δ.set i (.ow o) := by
      cases e : δ[i]? with
      | none => rw [e] at h; cases h
      | some s =>
        rw [e] at h
        cases s with
        | bo o => cases h
        | un => cases h; exact ⟨⟨_, e, fun o z => nomatch z⟩, rfl⟩
        | sh _ => cases h; exact ⟨⟨_, e, fun o z => nomatch z⟩, rfl⟩
        | ow _ => cases h; exact ⟨⟨_, e, fun o z => nomatch z⟩, rfl⟩
    obtain ⟨nb, rfl⟩ := key
    obtain ⟨q3, ow⟩ := q.setOw nb f (hq a n).1 (hq a n).2 w ob
    refine ⟨F, q3, Sub.refl _, fun _ _ z => .inl z, fun b z => ?_⟩
    rcases ow b z with y | y
    · exact .inl y
    · subst y; exact .inr n

/-! ### targets -/
/-- the slots of a target -/
def tgIx : Dp.Tg → List Nat
  | .n i => [i]
  | .nil => []
  | .cons t r => tgIx t ++ tgIx r
/-- a target stored: what it gives -/
structure Asg (R : RC) (A : Act) (is : List Nat) (σ : St) (H F : Hp) (δ : Dp.DSt) (σ' : St) (δ' : Dp.DSt) : Prop where
  rel : DRel R A σ' H F δ'
  own : ∀ a, Own A σ' δ' a → Own A σ δ a
  len : δ'.length = δ.length
  off : ∀ j, j ∉ is → σ'[j]? = σ[j]? ∧ δ'[j]? = δ[j]?
  slot : ∀ (j : Nat) o, δ'[j]? = some (.ow o) → δ[j]? = some (.ow o)
  nbo : ∀ (j : Nat) o, δ'[j]? = some (.bo o) → δ[j]? = some (.bo o)
theorem Asg.refl (is : List Nat) (q : DRel R A σ H F δ) : Asg R A is σ H F δ σ δ := ⟨q, fun _ h => h, rfl, fun _ _ => ⟨rfl, rfl⟩, fun _ _ h => h, fun _ _ h => h⟩
theorem Asg.trans {is js : List Nat} (s : Asg R A is σ H F δ σ1 δ1) (t : Asg R A js σ1 H F δ1 σ2 δ2) : Asg R A (is ++ js) σ H F δ σ2 δ2 :=
  ⟨t.rel, fun a h => s.own a (t.own a h), t.len.trans s.len, fun j hj => by
    rw [List.mem_append, not_or] at hj
    exact ⟨(t.off j hj.2).1.trans (s.off j hj.1).1, (t.off j hj.2).2.trans (s.off j hj.1).2⟩, fun j o h => s.slot j o (t.slot j o h), fun j o h => s.nbo j o (t.nbo j o h)⟩
theorem Asg.one {i : Nat} {d : Dp.D} (q : DRel R A σ H F δ) (n : noBo δ i) (r : Rep R F d v) : Asg R A [i] σ H F δ (σ.set i (some v)) (δ.set i (.sh d)) := by
  obtain ⟨q1, ow⟩ := q.setSh n r
  obtain ⟨s, hs, nb⟩ := n
  have hi : i < δ.length := (List.getElem?_eq_some_iff.mp hs).1
  refine ⟨q1, ow, List.length_set .., fun j hj => ?_, fun j o h => ?_, fun j o h => ?_⟩
  · have e : j ≠ i := fun z => hj (by rw [z]; exact List.mem_singleton.mpr rfl)
    exact ⟨List.getElem?_set_ne (Ne.symm e), List.getElem?_set_ne (Ne.symm e)⟩
  · rw [set_at hi] at h
    by_cases e : j = i
    · rw [if_pos e] at h; cases h
    · rw [if_neg e] at h; exact h
  · rw [set_at hi] at h
    by_cases e : j = i
    · rw [if_pos e] at h; cases h
    · rw [if_neg e] at h; exact h
/-- what a target is to do -/
def tG (R : RC) (A : Act) (is : List Nat) (f : Dp.D → Dp.DSt → Option Dp.DSt) : TG := fun v σ H Q => ∃ F δ d δ', DRel R A σ H F δ ∧ Rep R F d v ∧ f d δ = some δ' ∧ ∀ σ', Asg R A is σ H F δ σ' δ' → Q σ' H
def tGs (R : RC) (A : Act) (is : List Nat) (f : List Dp.D → Dp.DSt → Option Dp.DSt) : TGs := fun vs σ H Q => ∃ F δ ds δ', DRel R A σ H F δ ∧ Reps R F ds vs ∧ f ds δ = some δ' ∧ ∀ σ', Asg R A is σ H F δ σ' δ' → Q σ' H
theorem _root_.L2.PG.imp {X : Cx} {tg : Expr} {t t' : TG} (h : PG X tg t) (k : ∀ v σ H Q, t' v σ H Q → t v σ H Q) : PG X tg t' := ⟨fun pins s σ H v u Q I r q => h.run pins s σ H v u Q I r (k v σ H Q q)⟩
theorem _root_.L2.PGs.imp {X : Cx} {tg : List Expr} {t t' : TGs} (h : PGs X tg t) (k : ∀ v σ H Q, t' v σ H Q → t v σ H Q) : PGs X tg t' := ⟨fun pins s σ H v u Q I r q => h.run pins s σ H v u Q I r (k v σ H Q q)⟩
end

/-! ### checks of targets -/
mutual
def chkG (N : List Str) (lc : Str → Bool) : Expr → Dp.Tg → Bool
  | .Name x _, .n i => decide (N[i]? = some x) && lc x
  | .Tuple es _ _, t => chkGs N lc es t
  | _, _ => false
def chkGs (N : List Str) (lc : Str → Bool) : List Expr → Dp.Tg → Bool
  | [], .nil => true
  | e :: es, .cons t r => notStar e && chkG N lc e t && chkGs N lc es r
  | _, _ => false
end
def asgs (t : Dp.Tg) (ds : List Dp.D) (δ : Dp.DSt) : Option Dp.DSt := Dp.asg t (.tup ds) δ
theorem asgE_cons {e : Expr} (h : notStar e = true) (es : List Expr) (env : Env) : (assignEach (e :: es) env).map (·.2) = assign e env :: (assignEach es env).map (·.2) := by
  cases e <;> first | rfl | cases h
theorem asgE_fst {e : Expr} (h : notStar e = true) (es : List Expr) (env : Env) : (assignEach (e :: es) env).map (·.1) = false :: (assignEach es env).map (·.1) := by
  cases e <;> first | rfl | cases h
theorem asgE_len (env : Env) : ∀ es : List Expr, es.all notStar = true → (assignEach es env).length = es.length ∧ (assignEach es env).findIdx? (·.1) = none
  | [], _ => ⟨rfl, rfl⟩
  | e :: es, h => by
    rw [List.all_cons, Bool.and_eq_true] at h
    obtain ⟨h1, h2⟩ := asgE_len env es h.2
    have e1 := asgE_cons h.1 es env
    have e2 := asgE_fst h.1 es env
    constructor
    · have := congrArg List.length e1
      rw [List.length_map, List.length_cons, List.length_map, h1] at this
      rw [this]; rfl
    · rw [List.findIdx?_eq_none_iff] at h2 ⊢
      intro x hx
      have hm : x.1 ∈ (assignEach (e :: es) env).map (·.1) := List.mem_map_of_mem hx
      rw [e2] at hm
      rcases List.mem_cons.mp hm with z | z
      · exact z
      · obtain ⟨y, hy, ey⟩ := List.mem_map.mp z
        rw [← ey]
        exact h2 y hy
section
variable {R : RC} {A : Act} {X : Cx} {N : List Str} {lc : Str → Bool}
theorem tgs_cons {t r : Dp.Tg} {σ : St} {H : Hp} {vs : List V} {Q : St → Hp → Prop} (h : tGs R A (tgIx (.cons t r)) (asgs (.cons t r)) vs σ H Q) : gCons (tG R A (tgIx t) (Dp.asg t)) (tGs R A (tgIx r) (asgs r)) vs σ H Q := by
  obtain ⟨F, δ, ds, δ', q, rs, e, k⟩ := h
  cases ds with
  | nil => cases e
  | cons d ds =>
    obtain ⟨v, ws, rfl, r1, r2⟩ := rs
    have e : (match Dp.asg t d δ with | some σ1 => Dp.asg r (.tup ds) σ1 | none => none) = some δ' := e
    cases e1 : Dp.asg t d δ with
    | none => rw [e1] at e; cases e
    | some δ1 =>
      rw [e1] at e
      exact ⟨v, ws, rfl, F, δ, d, δ1, q, r1, e1, fun σ1 s1 => ⟨F, δ1, ds, δ', s1.rel, r2, e, fun σ2 s2 => k σ2 (s1.trans s2)⟩⟩
mutual
theorem pg_chk (hc : X.calm = true) (hK : X.K = R.K) (nd : X.N.Nodup) (hN : X.N = N) (hl : ∀ x, lc x = true → Loc X.env.scope x ∧ (X.fn x = true ∨ X.env.scope.names.lookup x = some .local)) : ∀ (e : Expr) (t : Dp.Tg), chkG N lc e t = true → PG X e (tG R A (tgIx t) (Dp.asg t))
  | .Name x p, .n i, h => by
    obtain ⟨h1, h2⟩ := band h
    refine (pg_name nd (by rw [hN]; exact of_decide_eq_true h1) (hl x h2).1 (hl x h2).2).imp fun v σ H Q h => ?_
    obtain ⟨F, δ, d, δ', q, r, e, k⟩ := h
    obtain ⟨n, rfl⟩ := store_sh e
    exact k _ (Asg.one q n r)
  | .Tuple es k p, t, h => by
    have h : chkGs N lc es t = true := by cases t <;> exact h
    have ns : es.all notStar = true := chkGs_star es t h
    obtain ⟨h1, h2⟩ := asgE_len X.env es ns
    refine (pg_tup hc (pgs_chk hc hK nd hN hl es t h) h1 h2).imp fun v σ H Q h => ?_
    obtain ⟨F, δ, d, δ', q, r, e, k⟩ := h
    have hd : ∃ ds, d = .tup ds ∧ ds.length = es.length := asg_tup es t h e
    obtain ⟨ds, rfl, hlen⟩ := hd
    obtain ⟨a, vs, rfl, hF, rs⟩ := r
    exact ⟨a, vs, rfl, SqT.of (q.sub _ _ hF), by rw [rs.length, hlen], F, δ, ds, δ', q, rs, e, k⟩
theorem pgs_chk (hc : X.calm = true) (hK : X.K = R.K) (nd : X.N.Nodup) (hN : X.N = N) (hl : ∀ x, lc x = true → Loc X.env.scope x ∧ (X.fn x = true ∨ X.env.scope.names.lookup x = some .local)) : ∀ (es : List Expr) (t : Dp.Tg), chkGs N lc es t = true → PGs X es (tGs R A (tgIx t) (asgs t))
  | [], .nil, h => pgs_nil.imp fun vs σ H Q ⟨F, δ, ds, δ', q, rs, e, k⟩ => by
    cases ds with
    | nil =>
      cases e
      exact ⟨rs, k σ (Asg.refl _ q)⟩
    | cons _ _ => cases e
  | e :: es, .cons t r, h => by
    obtain ⟨h12, h3⟩ := band h
    obtain ⟨h1, h2⟩ := band h12
    exact (pgs_cons (pg_chk hc hK nd hN hl e t h2) (pgs_chk hc hK nd hN hl es r h3) (asgE_cons h1 es X.env)).imp fun vs σ H Q h => tgs_cons h
theorem chkGs_star : ∀ (es : List Expr) (t : Dp.Tg), chkGs N lc es t = true → es.all notStar = true
  | [], _, _ => rfl
  | e :: es, .cons t r, h => by
    obtain ⟨h12, h3⟩ := band h
    obtain ⟨h1, h2⟩ := band h12
    rw [List.all_cons, h1, chkGs_star es r h3]; rfl
theorem asg_tup : ∀ (es : List Expr) (t : Dp.Tg), chkGs N lc es t = true → ∀ {d : Dp.D} {δ δ' : Dp.DSt}, Dp.asg t d δ = some δ' → ∃ ds, d = .tup ds ∧ ds.length = es.length
  | [], .nil, h, d, δ, δ', e => by
    cases d with
    | tup ds => cases ds with
      | nil => exact ⟨[], rfl, rfl⟩
      | cons _ _ => cases e
    | _ => cases e
  | x :: es, .cons t r, h, d, δ, δ', e => by
    obtain ⟨h12, h3⟩ := band h
    cases d with
    | tup ds => cases ds with
      | nil => cases e
      | cons y ys =>
        have e : (match Dp.asg t y δ with | some σ1 => Dp.asg r (.tup ys) σ1 | none => none) = some δ' := e
        cases e1 : Dp.asg t y δ with
        | none => rw [e1] at e; cases e
        | some δ1 =>
          rw [e1] at e
          obtain ⟨zs, ez, hl⟩ := asg_tup es r h3 e
          cases ez
          exact ⟨_, rfl, by rw [List.length_cons, hl, List.length_cons]⟩
    | _ => cases e
end
end
end DpS
end

section
set_option Elab.async false
set_option linter.all false
set_option maxRecDepth 100000
set_option maxHeartbeats 4000000
set_option autoImplicit false
/-! DpB14: list comprehensions of one clause. -/
namespace DpS
open PySem PySem.Spec L2

/-! ### slots taken and given back -/
section
variable {R : RC} {A : Act} {σ σ1 σ2 : St} {H H1 H2 F F1 F2 : Hp} {δ δ1 δ2 τ : Dp.DSt} {a D : Addr} {v : V} {o : HO} {is : List Nat}
theorem wipeD_len (τ : Dp.DSt) : ∀ is : List Nat, (Dp.wipeD τ is).length = τ.length
  | [] => rfl
  | v :: vs => by show ((Dp.wipeD τ vs).set v .un).length = _; rw [List.length_set, wipeD_len τ vs]
theorem wipeD_in {j : Nat} : ∀ {is : List Nat}, j ∈ is → j < τ.length → (Dp.wipeD τ is)[j]? = some .un
  | v :: vs, h, hl => by
    show ((Dp.wipeD τ vs).set v .un)[j]? = _
    by_cases e : v = j
    · subst e; rw [List.getElem?_set_self (by rw [wipeD_len]; exact hl)]
    · rw [List.getElem?_set_ne e]
      exact wipeD_in ((List.mem_cons.mp h).resolve_left fun z => e z.symm) hl
theorem wipeD_out {j : Nat} : ∀ {is : List Nat}, j ∉ is → (Dp.wipeD τ is)[j]? = τ[j]?
  | [], _ => rfl
  | v :: vs, h => by
    rw [List.mem_cons, not_or] at h
    show ((Dp.wipeD τ vs).set v .un)[j]? = _
    rw [List.getElem?_set_ne (Ne.symm h.1)]
    exact wipeD_out h.2
theorem wipe_in {j : Nat} : ∀ {is : List Nat}, j ∈ is → j < σ.length → (wipe σ is)[j]? = some none
  | v :: vs, h, hl => by
    show ((wipe σ vs).set v none)[j]? = _
    by_cases e : v = j
    · subst e; rw [List.getElem?_set_self (by rw [wipe_length]; exact hl)]
    · rw [List.getElem?_set_ne e]
      exact wipe_in ((List.mem_cons.mp h).resolve_left fun z => e z.symm) hl
theorem wipe_eq (hl : σ2.length = σ.length) (h : ∀ j, j ∉ is → σ2[j]? = σ[j]?) : wipe σ2 is = wipe σ is := by
  refine List.ext_getElem? fun j => ?_
  by_cases hj : j ∈ is
  · by_cases hlt : j < σ.length
    · rw [wipe_in hj hlt, wipe_in hj (by rw [hl]; exact hlt)]
    · rw [List.getElem?_eq_none (by rw [wipe_length]; omega), List.getElem?_eq_none (by rw [wipe_length]; omega)]
  · rw [wipe_out hj, wipe_out hj, h j hj]
theorem wipe_idem : wipe (wipe σ is) is = wipe σ is := wipe_eq (wipe_length σ is) fun j hj => wipe_out hj
theorem wipeD_ow {j : Nat} {s : Dp.Sl} (h : (Dp.wipeD τ is)[j]? = some s) (n : s ≠ .un) : j ∉ is ∧ τ[j]? = some s := by
  by_cases hj : j ∈ is
  · by_cases hl : j < τ.length
    · rw [wipeD_in hj hl] at h; cases h; exact absurd rfl n
    · rw [List.getElem?_eq_none (by rw [wipeD_len]; omega)] at h; cases h
  · rw [wipeD_out hj] at h
    exact ⟨hj, h⟩
theorem DRel.wipe (q : DRel R A σ H F τ) : DRel R A (wipe σ is) H F (Dp.wipeD τ is) ∧ ∀ a, Own A (L2.wipe σ is) (Dp.wipeD τ is) a → Own A σ τ a := by
  refine ⟨⟨by rw [wipe_length, wipeD_len, q.len], q.sub, q.old, q.ntb, fun i d h => ?_, fun i o h => ?_, fun i o h => ?_, fun i j o u h1 h2 => ?_, q.bt, fun i j o u b h1 h2 e1 e2 => ?_, q.base, q.tab⟩, fun a h => ?_⟩
  · obtain ⟨n, h⟩ := wipeD_ow h (fun z => nomatch z)
    rw [wipe_out n]; exact q.sh i d h
  · obtain ⟨n, h⟩ := wipeD_ow h (fun z => nomatch z)
    rw [wipe_out n]; exact q.ow i o h
  · obtain ⟨n, h⟩ := wipeD_ow h (fun z => nomatch z)
    rw [wipe_out n]; exact q.bo i o h
  · exact q.one i j o u (wipeD_ow h1 (fun z => nomatch z)).2 (wipeD_ow h2 (fun z => nomatch z)).2
  · obtain ⟨n1, h1⟩ := wipeD_ow h1 (fun z => nomatch z)
    obtain ⟨n2, h2⟩ := wipeD_ow h2 (fun z => nomatch z)
    rw [wipe_out n1] at e1
    rw [wipe_out n2] at e2
    exact q.dis i j o u b h1 h2 e1 e2
  · rcases h with h | ⟨i, o, h1, h2⟩
    · exact .inl h
    · obtain ⟨n1, h1⟩ := wipeD_ow h1 (fun z => nomatch z)
      rw [wipe_out n1] at h2
      exact .inr ⟨i, o, h1, h2⟩
theorem backD_len (δ τ : Dp.DSt) : ∀ is : List Nat, (Dp.backD δ τ is).length = τ.length
  | [] => rfl
  | v :: vs => by
    show (match δ[v]? with | some x => (Dp.backD δ τ vs).set v x | none => Dp.backD δ τ vs).length = _
    cases δ[v]? with
    | none => exact backD_len δ τ vs
    | some x =>
      show ((Dp.backD δ τ vs).set v x).length = _
      rw [List.length_set, backD_len δ τ vs]
theorem backD_cons {v : Nat} {vs : List Nat} : Dp.backD δ τ (v :: vs) = match δ[v]? with | some x => (Dp.backD δ τ vs).set v x | none => Dp.backD δ τ vs := rfl
theorem backD_in (hl : δ.length = τ.length) {j : Nat} : ∀ {is : List Nat}, j ∈ is → (Dp.backD δ τ is)[j]? = δ[j]?
  | v :: vs, h => by
    rw [backD_cons]
    cases e : δ[v]? with
    | none =>
      show (Dp.backD δ τ vs)[j]? = _
      by_cases z : v = j
      · subst z
        rw [e, List.getElem?_eq_none]
        rw [backD_len, ← hl]
        exact List.getElem?_eq_none_iff.mp e
      · exact backD_in hl ((List.mem_cons.mp h).resolve_left fun y => z y.symm)
    | some x =>
      show ((Dp.backD δ τ vs).set v x)[j]? = _
      by_cases z : v = j
      · subst z
        rw [List.getElem?_set_self (by rw [backD_len, ← hl]; exact (List.getElem?_eq_some_iff.mp e).1), e]
      · rw [List.getElem?_set_ne z]
        exact backD_in hl ((List.mem_cons.mp h).resolve_left fun y => z y.symm)
theorem backD_out {j : Nat} : ∀ {is : List Nat}, j ∉ is → (Dp.backD δ τ is)[j]? = τ[j]?
  | [], _ => rfl
  | v :: vs, h => by
    rw [List.mem_cons, not_or] at h
    rw [backD_cons]
    cases e : δ[v]? with
    | none => exact backD_out h.2
    | some x =>
      show ((Dp.backD δ τ vs).set v x)[j]? = _
      rw [List.getElem?_set_ne (Ne.symm h.1)]
      exact backD_out h.2
theorem freeB_at (h : Dp.freeB δ is = true) {j : Nat} (hj : j ∈ is) : δ[j]? = some .un ∨ ∃ d, δ[j]? = some (.sh d) := by
  have h := List.all_eq_true.mp h j hj
  cases e : δ[j]? with
  | none => rw [e] at h; cases h
  | some s =>
    rw [e] at h
    cases s with
    | un => exact .inl rfl
    | sh d => exact .inr ⟨d, rfl⟩
    | ow _ => cases h
    | bo _ => cases h
theorem back_get {j : Nat} {s : Dp.Sl} (hl : δ.length = τ.length) (hf : Dp.freeB δ is = true) (h : (Dp.backD δ τ is)[j]? = some s) : (j ∈ is ∧ δ[j]? = some s ∧ (s = .un ∨ ∃ d, s = .sh d)) ∨ (j ∉ is ∧ τ[j]? = some s) := by
  by_cases hj : j ∈ is
  · rw [backD_in hl hj] at h
    refine .inl ⟨hj, h, ?_⟩
    rcases freeB_at hf hj with z | ⟨d, z⟩
    · rw [z] at h; cases h; exact .inl rfl
    · rw [z] at h; cases h; exact .inr ⟨d, rfl⟩
  · rw [backD_out hj] at h
    exact .inr ⟨hj, h⟩
theorem back_rel (q1 : DRel R A σ H1 F1 δ) (hf : Dp.freeB δ is = true) (q : DRel R A (wipe σ is) H F (Dp.wipeD τ is)) (s : Sub F1 F) :
    DRel R A σ H F (Dp.backD δ τ is) ∧ ∀ a, Own A σ (Dp.backD δ τ is) a → Own A (wipe σ is) (Dp.wipeD τ is) a := by
  have hl : δ.length = τ.length := by rw [← q1.len, ← wipe_length σ is, q.len, wipeD_len]
  have out : ∀ {j : Nat} {s : Dp.Sl}, j ∉ is → τ[j]? = some s → (Dp.wipeD τ is)[j]? = some s ∧ (wipe σ is)[j]? = σ[j]? := fun {j s} n h => ⟨by rw [wipeD_out n]; exact h, wipe_out n⟩
  refine ⟨⟨by rw [q1.len, backD_len, hl], q.sub, q.old, q.ntb, fun i d h => ?_, fun i o h => ?_, fun i o h => ?_, fun i j o u h1 h2 => ?_, q.bt, fun i j o u b h1 h2 e1 e2 => ?_, q.base, q.tab⟩, fun a h => ?_⟩
  · rcases back_get hl hf h with ⟨_, h, _⟩ | ⟨n, h⟩
    · obtain ⟨v, e, r⟩ := q1.sh i d h
      exact ⟨v, e, r.sub s⟩
    · obtain ⟨h1, h2⟩ := out n h
      rw [← h2]; exact q.sh i d h1
  · rcases back_get hl hf h with ⟨_, _, z | ⟨_, z⟩⟩ | ⟨n, h⟩
    · cases z
    · cases z
    · obtain ⟨h1, h2⟩ := out n h
      rw [← h2]; exact q.ow i o h1
  · rcases back_get hl hf h with ⟨_, _, z | ⟨_, z⟩⟩ | ⟨n, h⟩
    · cases z
    · cases z
    · obtain ⟨h1, h2⟩ := out n h
      rw [← h2]; exact q.bo i o h1
  · rcases back_get hl hf h1 with ⟨_, _, z | ⟨_, z⟩⟩ | ⟨n1, h1⟩
    · cases z
    · cases z
    · rcases back_get hl hf h2 with ⟨_, _, z | ⟨_, z⟩⟩ | ⟨n2, h2⟩
      · cases z
      · cases z
      · exact q.one i j o u (out n1 h1).1 (out n2 h2).1
  · rcases back_get hl hf h1 with ⟨_, _, z | ⟨_, z⟩⟩ | ⟨n1, h1⟩
    · cases z
    · cases z
    · rcases back_get hl hf h2 with ⟨_, _, z | ⟨_, z⟩⟩ | ⟨n2, h2⟩
      · cases z
      · cases z
      · exact q.dis i j o u b (out n1 h1).1 (out n2 h2).1 (by rw [(out n1 h1).2]; exact e1) (by rw [(out n2 h2).2]; exact e2)
  · rcases h with h | ⟨i, o, h1, h2⟩
    · exact .inl h
    · rcases back_get hl hf h1 with ⟨_, _, z | ⟨_, z⟩⟩ | ⟨n1, h1⟩
      · cases z
      · cases z
      · exact .inr ⟨i, o, (out n1 h1).1, by rw [(out n1 h1).2]; exact h2⟩
/-- the tables stay where an object that is none changes -/
theorem tabs_upd {T : List (Addr × Str)} {o0 o : HO} (t : LamX.Tabs T H) (h : H D = some o0) (n : ¬ Tb o0) (nx : ∀ p, o0 ≠ .ext p) : LamX.Tabs T (upd H D o) := fun p hp => by
  obtain ⟨ps, h1, h2, h3⟩ := t p hp
  have ne : p.1 ≠ D := fun z => by rw [z, h] at h1; cases h1; exact n ⟨_, rfl⟩
  refine ⟨ps, by rw [upd_ne ne]; exact h1, h2, fun pos cv hc => ?_⟩
  obtain ⟨c, e1, e2⟩ := h3 pos cv hc
  have ne2 : c ≠ D := fun z => by rw [z, h] at e2; exact nx _ (Option.some.inj e2)
  exact ⟨c, e1, by rw [upd_ne ne2]; exact e2⟩
/-- an object that no slot holds is changed -/
theorem DRel.updFree {o0 : HO} (q : DRel R A σ H F δ) (hF : F D = none) (no : ¬ Own A σ δ D) (n0 : Nt A.H0 D) (h : H D = some o0) (n : ¬ Tb o0) (nx : ∀ p, o0 ≠ .ext p) (nt : ¬ Tb o) : DRel R A σ (upd H D o) F δ where
  len := q.len
  sub := fun a u h => by
    have ne : a ≠ D := fun z => by rw [z, hF] at h; cases h
    rw [upd_ne ne]; exact q.sub a u h
  old := q.old
  ntb := q.ntb
  sh := q.sh
  ow := fun i u h => by
    obtain ⟨a, e, n1, n2, nb, ob⟩ := q.ow i u h
    have ne : a ≠ D := fun z => no (.inr ⟨i, u, h, by rw [← z]; exact e⟩)
    exact ⟨a, e, n1, n2, nb, ob.move (fun w hw _ => by rw [upd_ne ne]; exact hw) (Sub.refl _)⟩
  bo := fun i u h => by
    obtain ⟨a, e, n1, ob⟩ := q.bo i u h
    have ne : a ≠ D := fun z => no (.inl (by rw [← z]; exact n1))
    exact ⟨a, e, n1, ob.move (fun w hw _ => by rw [upd_ne ne]; exact hw) (Sub.refl _)⟩
  one := q.one
  bt := fun a h1 => by
    obtain ⟨f, t⟩ := q.bt a h1
    have ne : a ≠ D := fun z => no (.inl (by rw [← z]; exact h1))
    exact ⟨f, fun y => t fun w hw => y w (by rw [upd_ne ne]; exact hw)⟩
  dis := q.dis
  base := fun a u h1 t nb => by
    have ne : a ≠ D := fun z => t (n0 u (by rw [← z]; exact h1))
    rw [upd_ne ne]; exact q.base a u h1 t nb
  tab := tabs_upd q.tab h n nx
/-- a step, then an object changed that was not there at its beginning -/
theorem StpS.updNew (s : StpS A σ1 H1 F1 δ1 σ H F δ) (h : Nt H1 D) (nt : ¬ Tb o) : StpS A σ1 H1 F1 δ1 σ (upd H D o) F δ where
  keep := fun a u h1 t w => by
    have ne : a ≠ D := fun z => t (h u (by rw [← z]; exact h1))
    rw [upd_ne ne]; exact s.keep a u h1 t w
  there := fun a h1 => by
    intro n
    by_cases ne : a = D
    · subst ne
      exact nt (n o upd_same)
    · exact s.there a h1 fun u hu => n u (by rw [upd_ne ne]; exact hu)
  more := s.more
  new := s.new
  own := s.own
end

/-! ### the block's context -/
section
variable {L : LX} {G : Dp.Gam} {N : List Str} {sc : Scope} {cal : Bool} {A : Act} {W : WX} {X : Cx}
theorem XOk0.blk (xo : XOk0 L G N sc cal A W X) (s : Shared) (H : Hp) (scope : Scope) (C : Addr) (cl : List (Str × Addr)) (fp : List Addr) : XOk0 L G N (relS scope sc) cal A (fun _ _ _ _ => False) (X.blk s H scope (compEnvC scope cl C X.env) fp) := by
  refine ⟨xo.K, xo.N, ?_, xo.nd, xo.calm, xo.units, LamX.takes0, xo.T, xo.free, xo.glob, xo.fns, xo.inj, xo.insts, xo.mks⟩
  have e := xo.sc
  subst e
  rfl
theorem _root_.DpS.XOk.blk (xo : XOk L G N sc cal A W X) (s : Shared) (H : Hp) (scope : Scope) (C : Addr) (cl : List (Str × Addr)) (fp : List Addr) : XOk L G N (relS scope sc) cal A (fun _ _ _ _ => False) (X.blk s H scope (compEnvC scope cl C X.env) fp) :=
  ⟨xo.toXOk0.blk s H scope C cl fp, fun hc N' sc' W' X' sb x0 => xo.told hc N' sc' W' X' ((⟨rfl, rfl, rfl, rfl, rfl, rfl, rfl, rfl⟩ : SameC X (X.blk s H scope (compEnvC scope cl C X.env) fp)).trans sb) x0⟩
def lcB (sc scope : Scope) (x : Str) : Bool := match (relS scope sc).names.lookup x with
  | some .local => true
  | some .cell => scope.names.lookup x == some .cell
  | _ => false
theorem lcB_ok {scope : Scope} {x : Str} (h : lcB sc scope x = true) : Loc (relS scope sc) x ∧ ((scope.names.lookup x == some .cell) = true ∨ (relS scope sc).names.lookup x = some .local) := by
  unfold lcB at h
  split at h
  · rename_i e; exact ⟨.inl e, .inr e⟩
  · rename_i e; exact ⟨.inr e, .inl h⟩
  · cases h
theorem fsi_plain {e : Expr} (h : isSet e = false) (env : Env) : ∀ x, foldedSetIterable e env x = pure x := by
  cases e <;> first | (intro x; rfl) | cases h

/-! ### the turns -/
theorem lcL_cons {f : Dp.D → Dp.DSt → Dp.Out (Option Dp.D)} {x : Dp.D} {xs ds : List Dp.D} {τ τe : Dp.DSt} (h : Dp.lcL f (x :: xs) τ = .ok ds τe) :
    (∃ d τ1 ds1, f x τ = .ok (some d) τ1 ∧ Dp.lcL f xs τ1 = .ok ds1 τe ∧ ds = d :: ds1) ∨ ∃ τ1, f x τ = .ok none τ1 ∧ Dp.lcL f xs τ1 = .ok ds τe := by
  rw [Dp.lcL] at h
  cases e : f x τ with
  | stuck => rw [e] at h; cases h
  | exc _ _ => rw [e] at h; cases h
  | ok r τ1 =>
    rw [e] at h
    cases r with
    | none => exact .inr ⟨τ1, rfl, h⟩
    | some d =>
      have h : (match Dp.lcL f xs τ1 with | .ok ds σ2 => Dp.Out.ok (d :: ds) σ2 | _ => .stuck) = .ok ds τe := h
      cases e2 : Dp.lcL f xs τ1 with
      | stuck => rw [e2] at h; cases h
      | exc _ _ => rw [e2] at h; cases h
      | ok ds1 τ2 =>
        rw [e2] at h
        cases h
        exact .inl ⟨d, τ1, ds1, rfl, e2, rfl⟩
/-- a list comprehension by data -/
def lcF (own : List Nat) (t : Dp.Tg) (c : Dp.DSt → Dp.Out Bool) (el : Dp.DSt → Dp.Out Dp.D) : Dp.D → Dp.DSt → Dp.Out (Option Dp.D) := fun x τ => Dp.lcStep (Dp.asg t x (Dp.wipeD τ own)) c el
theorem lcStep_ok {x : Option Dp.DSt} {c : Dp.DSt → Dp.Out Bool} {el : Dp.DSt → Dp.Out Dp.D} {r : Option Dp.D} {τe : Dp.DSt} (h : Dp.lcStep x c el = .ok r τe) :
    ∃ τ1 b τ2, x = some τ1 ∧ c τ1 = .ok b τ2 ∧ ((b = true ∧ ∃ d, el τ2 = .ok d τe ∧ r = some d) ∨ (b = false ∧ r = none ∧ τ2 = τe)) := by
  cases x with
  | none => cases h
  | some τ1 =>
    have h : ((c τ1).bind fun t τ2 => if t then (el τ2).bind fun d τ3 => .ok (some d) τ3 else .ok none τ2) = .ok r τe := h
    cases e : c τ1 with
    | stuck => rw [e] at h; cases h
    | exc _ _ => rw [e] at h; cases h
    | ok b τ2 =>
      rw [e] at h
      cases b with
      | false => cases h; exact ⟨τ1, false, _, rfl, e, .inr ⟨rfl, rfl, rfl⟩⟩
      | true =>
        have h : ((el τ2).bind fun d τ3 => Dp.Out.ok (some d) τ3) = .ok r τe := h
        cases e2 : el τ2 with
        | stuck => rw [e2] at h; cases h
        | exc _ _ => rw [e2] at h; cases h
        | ok d τ3 =>
          rw [e2] at h
          cases h
          exact ⟨τ1, true, τ2, rfl, e, .inl ⟨rfl, d, e2, rfl⟩⟩

theorem lc_post {R : RC} {own : List Nat} {t : Dp.Tg} {c : Dp.DSt → Dp.Out Bool} {el : Dp.DSt → Dp.Out Dp.RV} {J : It} {xs : List Dp.D} {σ : St} {H1 F1 : Hp} {δ1 : Dp.DSt} {Q : VK} (sub : ∀ i ∈ tgIx t, i ∈ own) (q1 : DRel R A σ H1 F1 δ1) (it : ItOk R A F1 J xs)
    (h : Post R A W (RlE R A) σ H1 F1 δ1 (if Dp.freeB δ1 own then Dp.lcEnd own δ1 (Dp.lcL (lcF own t c fun τ => (el τ).used) xs δ1) else .stuck) Q) :
    ∀ D, H1 D = none → ∃ Wi : Nat → Nat → Hp → Prop, (∃ m, Wi 0 m (upd H1 D (.lst []))) ∧ ∀ i m H, Wi i m H →
      (J.stop i H ∧ Q (.ref D) H) ∨ (J.go i H ∧ ∃ Nx : Hp → Prop, (∀ H', Nx H' → ∃ m', m' < m ∧ Wi (i + 1) m' H') ∧ ∀ x H', J.yld i H x H' → tG R A (tgIx t) (Dp.asg t) x (wipe σ own) H' fun σ2 H2 => wipe σ2 own = wipe σ own ∧ tT R A (fun _ _ _ _ => False) c σ2 H2 fun b H3 =>
        if b = true then tE R A (fun _ _ _ _ => False) el σ2 H3 fun y H4 => ∃ acc, H4 D = some (.lst acc) ∧ acc.length < sizeLine ∧ Nx (upd H4 D (.lst (acc ++ [y]))) else Nx H3) := by
  intro D hD
  cases hf : Dp.freeB δ1 own with
  | false => rw [hf] at h; exact h.elim
  | true =>
  rw [hf, if_pos rfl] at h
  cases he : Dp.lcL (lcF own t c fun τ => (el τ).used) xs δ1 with
  | stuck => rw [he] at h; exact h.elim
  | exc _ _ => rw [he] at h; exact h.elim
  | ok ds τe =>
  rw [he] at h
  have h : Post R A W (RlE R A) σ H1 F1 δ1 (if ds.length < Dp.sizeLine then .ok (.fr (.l ds)) (Dp.backD δ1 τe own) else .stuck) Q := h
  by_cases hz : ds.length < Dp.sizeLine
  · rw [if_pos hz] at h
    obtain ⟨qw, oww⟩ := q1.wipe (is := own)
    have n0 : Nt A.H0 D := (q1.ntA (Nt.of_none hD)).1
    have noD : ¬ Own A (wipe σ own) (Dp.wipeD δ1 own) D := fun z => (q1.ownS (oww D z)).2 (Nt.of_none hD)
    have nL : ∀ l : List V, ¬ Tb (.lst l) := fun l ⟨_, e⟩ => nomatch e
    have nX : ∀ (l : List V) p, HO.lst l ≠ .ext p := fun l p e => nomatch e
    have g0 := Grow.fresh (A := A) (F := F1) (o := .lst []) q1.tab hD
    let Wi : Nat → Nat → Hp → Prop := fun i m H => m + i = xs.length ∧ ∃ F τ acc ys dsr, Dp.lcL (lcF own t c fun τ => (el τ).used) (xs.drop i) τ = .ok dsr τe ∧ ds = ys ++ dsr ∧ DRel R A (wipe σ own) H F (Dp.wipeD τ own) ∧
      StpS A (wipe σ own) H1 F1 (Dp.wipeD δ1 own) (wipe σ own) H F (Dp.wipeD τ own) ∧ H D = some (.lst acc) ∧ F D = none ∧ Reps R F ys acc ∧ ∀ (i : Nat) o, i ∉ own → τ[i]? = some (.ow o) → ∃ u, δ1[i]? = some (.ow u)
    refine ⟨Wi, ⟨xs.length, Nat.add_zero _, F1, δ1, [], [], ds, he, rfl, g0.rel qw, g0.step.toS.trans .refl, upd_same, ?_, rfl, fun i o _ e => ⟨o, e⟩⟩, ?_⟩
    · cases z : F1 D with
      | none => rfl
      | some u => rw [q1.sub D u z] at hD; cases hD
    rintro i m H ⟨hm, F, τ, acc, ys, dsr, hl, hds, q, st, hacc, hFD, rs, slot⟩
    have noD' : ¬ Own A (wipe σ own) (Dp.wipeD τ own) D := fun z => by
      obtain ⟨_, y⟩ := q.ownS z
      rcases st.own D z with w | w
      · exact noD w
      · -- D is new since: only the bare list; no slot holds it
        rcases z with z | ⟨j, o, z1, z2⟩
        · exact noD (.inl z)
        · obtain ⟨b, e1, _⟩ := q.ow j o z1
          obtain ⟨nj, zj⟩ := wipeD_ow z1 (fun z => nomatch z)
          obtain ⟨u, eu⟩ := slot j o nj zj
          rw [wipe_out nj] at z2
          exact (q1.ownS (.inr ⟨j, u, eu, z2⟩)).2 (Nt.of_none hD)
    by_cases hi : i < xs.length
    · -- a turn
      have hx : xs[i]? = some xs[i] := List.getElem?_eq_getElem hi
      obtain ⟨go, yl⟩ := (it i _ H F _ st.more q).1 _ hx
      rw [List.drop_eq_getElem_cons hi] at hl
      refine .inr ⟨go, Wi (i + 1) (xs.length - (i + 1)), fun H' w => ⟨xs.length - (i + 1), by omega, w⟩, fun x H' y => ?_⟩
      obtain ⟨F2, g, rx⟩ := yl x H' y
      have q2 := g.rel q
      have st2 := st.trans g.step.toS
      have stepL : ∃ τ1 b τ2, Dp.asg t xs[i] (Dp.wipeD τ own) = some τ1 ∧ c τ1 = .ok b τ2 ∧ ((b = true ∧ ∃ d τ3 ds1, (el τ2).used = .ok d τ3 ∧ Dp.lcL (lcF own t c fun τ => (el τ).used) (xs.drop (i + 1)) τ3 = .ok ds1 τe ∧ dsr = d :: ds1) ∨ (b = false ∧ Dp.lcL (lcF own t c fun τ => (el τ).used) (xs.drop (i + 1)) τ2 = .ok dsr τe)) := by
        rcases lcL_cons hl with ⟨d, τ3, ds1, e1, e2, e3⟩ | ⟨τ3, e1, e2⟩
        · obtain ⟨τ1, b, τ2, a1, a2, a3⟩ := lcStep_ok e1
          rcases a3 with ⟨b1, d', b2, b3⟩ | ⟨b1, b2, b3⟩
          · cases b3
            exact ⟨τ1, b, τ2, a1, a2, .inl ⟨b1, d, τ3, ds1, b2, e2, e3⟩⟩
          · cases b2
        · obtain ⟨τ1, b, τ2, a1, a2, a3⟩ := lcStep_ok e1
          rcases a3 with ⟨b1, d', b2, b3⟩ | ⟨b1, b2, b3⟩
          · cases b3
          · subst b3
            exact ⟨τ1, b, τ2, a1, a2, .inr ⟨b1, e2⟩⟩
      obtain ⟨τ1, b, τ2, a1, a2, a3⟩ := stepL
      refine ⟨F2, _, _, τ1, q2, rx, a1, fun σ2 as => ?_⟩
      have wq : wipe σ2 own = wipe σ own := by
        have e : wipe σ2 own = wipe (wipe σ own) own := wipe_eq (by rw [as.rel.len, as.len, q2.len]) fun j hj => (as.off j fun z => hj (sub j z)).1
        rw [e, wipe_idem]
      refine ⟨wq, F2, τ1, as.rel, ?_⟩
      rw [a2]
      intro b' H3 F3 q3 st3 eb
      cases (show b = b' from eb)
      have sta : StpS A (wipe σ own) H1 F1 (Dp.wipeD δ1 own) σ2 H' F2 τ1 := st2.trans (StpS.slots as.own)
      have accH : ∀ {H3 F3 τ3}, Stp A σ2 H' F2 τ1 H3 F3 τ3 → H3 D = some (.lst acc) := fun {H3 F3 τ3} s => s.keep D _ (g.keep D _ hacc (nL acc)) (nL acc) fun z => noD' (as.own D z)
      have F2D : F2 D = none := by
        cases z : F2 D with
        | none => rfl
        | some u =>
          rcases g.new D u z with w | ⟨w, _⟩
          · rw [hFD] at w; cases w
          · exact absurd (w _ hacc) (nL acc)
      have F3D : ∀ {H3 F3 τ3}, Stp A σ2 H' F2 τ1 H3 F3 τ3 → F3 D = none := fun {H3 F3 τ3} s => by
        cases z : F3 D with
        | none => rfl
        | some u =>
          rcases s.new D u z with w | w | w
          · rw [F2D] at w; cases w
          · exact absurd (w _ (g.keep D _ hacc (nL acc))) (nL acc)
          · exact absurd (as.own D w) noD'
      have slot3 : ∀ {H3 F3 τ3}, Stp A σ2 H' F2 τ1 H3 F3 τ3 → ∀ (i : Nat) o, i ∉ own → τ3[i]? = some (.ow o) → ∃ u, δ1[i]? = some (.ow u) := fun {H3 F3 τ3} s i o ni e => by
        obtain ⟨u, eu⟩ := s.own i o e
        have := as.slot i u eu
        rw [wipeD_out ni] at this
        exact slot i u ni this
      rcases a3 with ⟨b1, d, τ3, ds1, e1, e2, e3⟩ | ⟨b1, e2⟩
      · rw [if_pos b1]
        refine used_val ⟨F3, τ2, q3, ?_⟩
        show Post R A (fun x x_1 x_2 x_3 => False) (RlD R) σ2 H3 F3 τ2 ((el τ2).used) _
        rw [e1]
        intro y' H4 F4 q4 st4 ry
        have s4 := st3.trans st4
        have hD4 := accH s4
        refine ⟨acc, hD4, ?_, ?_⟩
        · have e0 := rs.length
          have : ds.length = ys.length + (ds1.length + 1) := by rw [hds, e3, List.length_append, List.length_cons]
          rw [e0, ← sizeL]
          omega
        · obtain ⟨q5, ow5⟩ := q4.wipe (is := own)
          rw [wq] at q5 ow5
          have no4 : ¬ Own A (wipe σ own) (Dp.wipeD τ3 own) D := fun z => noD' (as.own D (s4.ownS (ow5 D z)))
          refine ⟨by omega, F4, τ3, acc ++ [y'], ys ++ [d], ds1, e2, by rw [hds, e3, List.append_assoc]; rfl, q5.updFree (F3D s4) no4 n0 hD4 (nL _) (nX _) (nL _), ?_, upd_same, F3D s4, ?_, slot3 s4⟩
          · exact ((sta.trans s4.toS).trans (StpS.slots ow5)).updNew (Nt.of_none hD) (nL _)
          · exact (rs.sub (g.more.trans s4.more)).append ⟨y', [], rfl, ry, rfl⟩
      · rw [if_neg (by rw [b1]; exact Bool.false_ne_true)]
        obtain ⟨q5, ow5⟩ := q3.wipe (is := own)
        rw [wq] at q5 ow5
        refine ⟨by omega, F3, τ2, acc, ys, dsr, e2, hds, q5, (sta.trans st3.toS).trans (StpS.slots ow5), accH st3, F3D st3, rs.sub (g.more.trans st3.more), slot3 st3⟩
    · -- the end
      have ei : xs.drop i = [] := List.drop_eq_nil_iff.mpr (by omega)
      rw [ei] at hl
      cases hl
      rw [List.append_nil] at hds
      subst hds
      refine .inl ⟨(it i _ H F _ st.more q).2 (by omega), ?_⟩
      obtain ⟨qb, owb⟩ := back_rel q1 hf q st.more
      have hl' : δ1.length = τe.length := by rw [← q1.len, ← wipe_length σ own, q.len, wipeD_len]
      refine h (.ref D) H F qb ⟨fun a u h1 n w => st.keep a u h1 n fun z => w (oww a z), st.there, st.more, fun a u h1 => ?_, fun j u e => ?_⟩ ⟨D, rfl, Nt.of_none hD, hFD, fun z => noD' (owb D z), acc, hacc, rs⟩
      · rcases st.new a u h1 with w | w | w
        · exact .inl w
        · exact .inr (.inl w)
        · exact .inr (.inr (oww a w))
      · rcases back_get hl' hf e with ⟨_, _, z | ⟨_, z⟩⟩ | ⟨nj, z⟩
        · cases z
        · cases z
        · exact slot j u nj z
  · rw [if_neg hz] at h
    exact h.elim
theorem de_lc {elt tg iter : Expr} {ifs : List Expr} {scope : Scope} {own : List (Str × Nat)} {p : Pos} {t : Dp.Tg} {it : Dp.It} {fc fe : Dp.E} (hc : cal = true) (hb : blkC N sc scope own = true) (hs : isSet iter = false) (hg : chkG N (lcB sc scope) tg t = true) (sub : ∀ i ∈ tgIx t, i ∈ own.map (·.2))
    (hi : DI L G N sc cal tg iter (Dp.evi G it)) (ht : (ifs = [] ∧ ∀ τ, Dp.truth (Dp.ev G fc τ) = .ok true τ) ∨ ∃ e, ifs = [e] ∧ DT L G N (relS scope sc) cal e (fun τ => Dp.truth (Dp.ev G fc τ))) (he : DE L G N (relS scope sc) cal elt (Dp.ev G fe)) :
    DE L G N sc cal (.ListComp elt [⟨tg, iter, ifs, 0⟩] scope p) (Dp.ev G (.lc (own.map (·.2)) t it fc fe)) := by
  intro A W X xo
  have ok : BlkOk X.N X.env.scope scope own := by rw [xo.N, xo.sc]; exact blkOk_by hb
  have pg : ∀ (s : Shared) (H : Hp) (C : Addr) (cl : List (Str × Addr)) (fp : List Addr), PG (X.blk s H scope (compEnvC scope cl C X.env) fp) tg (tG L.R A (tgIx t) (Dp.asg t)) := fun s H C cl fp =>
    pg_chk (X := X.blk s H scope (compEnvC scope cl C X.env) fp) (xo.calm hc) xo.K xo.nd xo.N (fun x hx => by
      obtain ⟨h1, h2⟩ := lcB_ok hx
      have e := xo.sc
      subst e
      exact ⟨h1, h2⟩) tg t hg
  have pt : ∀ (s : Shared) (H : Hp) (C : Addr) (cl : List (Str × Addr)) (fp : List Addr), PTs (X.blk s H scope (compEnvC scope cl C X.env) fp) ifs (tT L.R A (fun _ _ _ _ => False) (fun τ => Dp.truth (Dp.ev G fc τ))) := fun s H C cl fp => by
    rcases ht with ⟨rfl, e⟩ | ⟨e, rfl, h⟩
    · refine ⟨fun pins s σ H Q I ⟨F, δ, q, h⟩ => pts_nil.run pins s σ H Q I ?_⟩
      have h : Post L.R A (fun _ _ _ _ => False) RlT σ H F δ (Dp.truth (Dp.ev G fc δ)) Q := h
      rw [e] at h
      exact h true H F q Stp.refl rfl
    · exact pts_one (h A _ _ (xo.blk s H scope C cl fp))
  refine (pe_lc (xo.calm hc) xo.nd (hi A W X xo) ok pg pt (fun s H C cl fp => he A _ _ (xo.blk s H scope C cl fp)) (fsi_plain hs X.env)).imp fun σ H Q h => ?_
  refine tP.bind (f := Dp.evi G it) (g := fun xs σ1 => if Dp.freeB σ1 (own.map (·.2)) then Dp.lcEnd (own.map (·.2)) σ1 (Dp.lcL (lcF (own.map (·.2)) t (fun τ => Dp.truth (Dp.ev G fc τ)) fun τ => (Dp.ev G fe τ).used) xs σ1) else .stuck) back_E h fun J H1 F1 xs δ1 q1 k1 rr h1 => ?_
  exact lc_post (el := Dp.ev G fe) sub q1 rr h1
end
end DpS
end

section
set_option Elab.async false
set_option linter.all false
set_option maxRecDepth 100000
set_option maxHeartbeats 4000000
set_option autoImplicit false
/-! DpB14a: what is not reached; defs as values; calls of what a name holds; dict displays. -/
namespace DpS
open PySem PySem.Spec L2
section
variable {L : LX} {G : Dp.Gam} {N : List Str} {sc : Scope} {cal : Bool} {A : Act} {W : WX} {X : Cx} {a b c e : Expr} {fa fb : Dp.E} {p p1 p2 : Pos} {es : List Expr} {fs : Dp.Es} {R : RC}
/-! ### what is not reached -/
theorem de_bad : DE L G N sc cal e (Dp.ev G .bad) := fun A W X xo => ⟨fun pins s σ H Q I ⟨F, δ, q, h⟩ => h.elim⟩
theorem dt_bad : DT L G N sc cal e (fun δ => Dp.truth (Dp.ev G .bad δ)) := fun A W X xo => ⟨fun pins s σ H Q I ⟨F, δ, q, h⟩ => h.elim⟩
theorem dw_bad {op : BoolOp} : DW L G N sc cal op es p (fun δ => Dp.truth (Dp.ev G .bad δ)) := fun A W X xo => ⟨fun wh pins s σ H Q I ⟨F, δ, q, h⟩ => h.elim⟩
/-! ### a def as a value -/
theorem de_fn {f : Nat} {y : Str} (hc : cal = true) (h1 : L.fnm f = some y) (h2 : glB sc y = true) (h3 : okName y = true) : DE L G N sc cal (.Name y p) (Dp.ev G (.k (.fn f))) := by
  intro A W X xo
  obtain ⟨k, fd, ps, hr, np, F, hm, hk, hb⟩ := xo.fns f y h1 hc
  refine (pe_glob (x := y) (v := .ref (L.R.fa f)) (by unfold Gl Env.kindOf; rw [xo.sc]; exact gl_of h2) hm rfl (okName_of h3).1).imp fun σ H Q ⟨F, δ, q, h⟩ => ?_
  exact h (.ref (L.R.fa f)) H F q Stp.refl rfl
/-! ### a call of what a name holds -/
theorem de_callv {i : Nat} {x : Str} {ks : List Nat} (hc : cal = true) (hi : N[i]? = some x) (hx : visB sc x = true) (hk : okName x = true) (hks : ∀ f ∈ ks, (∃ y, L.fnm f = some y) ∧ L.fnp f = fs.len) (hs : (a :: es).all notStar = true) (ha : DA L G N sc cal (a :: es) (Dp.evs G fs)) :
    DE L G N sc cal (.Call (.Name x p1) (a :: es) [] p) (Dp.ev G (.callv i ks fs)) := by
  intro A W X xo
  rw [List.all_cons, Bool.and_eq_true] at hs
  refine ⟨fun pins s σ H Q I ⟨F0, δ0, q0, h⟩ => ?_⟩
  rw [Dp.ev] at h
  cases e0 : δ0[i]? with
  | none => rw [e0] at h; exact h.elim
  | some s0 =>
    rw [e0] at h
    cases s0 with
    | un => exact h.elim
    | ow _ => exact h.elim
    | bo _ => exact h.elim
    | sh d => cases d with
      | fn f =>
        have h : Post L.R A W (RlE L.R A) σ H F0 δ0 (if ks.contains f = true then (Dp.evs G fs δ0).bind fun ds σ1 => Dp.callN σ1 (G.fn f none ds) else .stuck) Q := h
        by_cases hf : ks.contains f = true
        · rw [if_pos hf] at h
          obtain ⟨⟨y, h1⟩, hn⟩ := hks f (List.contains_iff_mem.mp hf)
          obtain ⟨k, fd, ps, hr, np, F, hm, hkp, hb⟩ := xo.fns f y h1 hc
          obtain ⟨v, ev, rv⟩ := q0.sh i _ e0
          have rv : v = .ref (L.R.fa f) := rv
          subst rv
          refine wpAny_Call_Name_kw (thn ((pe_var (pos := p1) (i := i) (by rw [xo.N]; exact hi) (by rw [xo.sc]; exact vis_of hx) (okName_of hk).1 (okName_of hk).2).run pins s σ H (fun v H1 => v = .ref (L.R.fa f) ∧ H1 = H) I ⟨_, ev, rfl, rfl⟩) fun u s1 ⟨v, H1, I1, r1, q1⟩ => ?_)
          obtain ⟨rfl, rfl⟩ := q1
          cases r1
          have ht : tA L.R A W (Dp.evs G fs) σ H1 fun vs H2 => (spD L.R L.T (G.fn f) ps.length) (vs ++ []) H2 Q (WE W σ) := by
            refine ⟨F0, δ0, q0, h.bind back_E fun vs H2 F2 ds δ1 e1 q2 st1 rr1 h2 => ?_⟩
            rw [List.append_nil]
            refine ⟨?_, F2, q2.sub, q2.ntb, by rw [← xo.T]; exact q2.tab, .inl ⟨ds, rr1, callN_post q2 xo.T h2⟩⟩
            rw [Reps.length rr1, evs_len fs δ0 δ1 ds e1, ← hn, np]
          refine PySem.W.callWith_K (h₀ := X.base) I.ok.mod.kin hkp (thn ((ha A W X xo).run p pins s1 σ _ _ I1 ht) fun us s2 ⟨vs, H2, I2, r, qq⟩ => ⟨I2.kIn, ?_⟩) (star_cons hs.1 es X.env) (star_plain p X.env es hs.2)
          exact run_fnSD (E := WE W) (dvs := []) F hr hb .nil (passAt xo.tk σ) I2 r qq
        · rw [if_neg hf] at h; exact h.elim
      | _ => exact h.elim
/-! ### dict displays: an empty one, one of one pair -/
theorem Fin.new {H F : Hp} {Q : VK} {o : Dp.Ob} {u : HO} (f : Fin R A H F (.fr o) Q) (t : LamX.Tabs A.T H) (s : Sub F H) (hob : ∀ p, ObAt R (upd H p u) F p o) : ∀ p, H p = none → Q (.ref p) (upd H p u) := fun p hp => by
  refine f _ _ _ (Grow.fresh (A := A) (o := u) t hp) ⟨p, rfl, Nt.of_none hp, ?_, hob p⟩
  cases q : F p with
  | none => rfl
  | some u => rw [s p u q] at hp; cases hp
theorem de_dct0 {t : Bool} : DE L G N sc cal (.Dict [] [] p) (Dp.ev G (.dct t .nil .nil)) := by
  intro A W X xo
  cases t with
  | false =>
    refine pe_dnewK.imp fun σ H Q ⟨F, δ, q, h⟩ => ?_
    exact (Post.fin q h).new q.tab q.sub fun p => ⟨[], upd_same, rfl, rfl⟩
  | true =>
    refine pe_dnewT.imp fun σ H Q ⟨F, δ, q, h⟩ => ?_
    exact (Post.fin q h).new q.tab q.sub fun p => ⟨[], upd_same, rfl, rfl⟩
theorem kD_of {d : Dp.D} (h : Dp.keyOk false d = true) : ∃ k : Key, kD k = d ∧ ∀ (F : Hp) (v : V), Rep R F d v → v = kV k := by
  cases d with
  | int i => exact ⟨.inl i, rfl, fun F v r => r⟩
  | str s => exact ⟨.inr ⟨s.toArray⟩, rfl, fun F v r => r⟩
  | _ => cases h
theorem Stp.updNew {σ : St} {H F H1 F1 : Hp} {δ δ1 : Dp.DSt} {D : Addr} {o : HO} (s : Stp A σ H F δ H1 F1 δ1) (h : Nt H D) (nt : ¬ Tb o) : Stp A σ H F δ (upd H1 D o) F1 δ1 where
  keep := fun a u h1 t w => by
    have ne : a ≠ D := fun z => t (h u (by rw [← z]; exact h1))
    rw [upd_ne ne]; exact s.keep a u h1 t w
  there := fun a h1 n => by
    by_cases ne : a = D
    · subst ne
      exact nt (n o upd_same)
    · exact s.there a h1 fun u hu => n u (by rw [upd_ne ne]; exact hu)
  more := s.more
  new := s.new
  own := s.own
theorem dct1_ev (δ : Dp.DSt) : Dp.ev G (.dct false (.cons fa .nil) (.cons fb .nil)) δ = (Dp.ev G fa δ).used.bind fun d σ1 => (Dp.ev G fb σ1).used.bind fun e σ2 => Dp.Out.lift σ2 ((Dp.dictOf false [(d, e)] [] []).map .fr) := by
  show (((Dp.ev G fa δ).used.bind fun d σ1 => (Dp.Out.ok [] σ1).bind fun ds σ2 => .ok (d :: ds) σ2)).bind (fun ds σ1 => (((Dp.ev G fb σ1).used.bind fun d σ1 => (Dp.Out.ok [] σ1).bind fun ds σ2 => .ok (d :: ds) σ2)).bind fun ws σ2 => Dp.Out.lift σ2 ((Dp.dictOf false (ds.zip ws) [] []).map Dp.RV.fr)) = _
  cases (Dp.ev G fa δ).used with
  | stuck => rfl
  | exc _ _ => rfl
  | ok d s =>
    show (((Dp.ev G fb s).used.bind fun d σ1 => (Dp.Out.ok [] σ1).bind fun ds σ2 => .ok (d :: ds) σ2)).bind (fun ws σ2 => Dp.Out.lift σ2 ((Dp.dictOf false ([d].zip ws) [] []).map Dp.RV.fr)) = (Dp.ev G fb s).used.bind fun e σ2 => Dp.Out.lift σ2 ((Dp.dictOf false [(d, e)] [] []).map .fr)
    cases (Dp.ev G fb s).used <;> rfl
theorem de_dct1 {ks vs : Expr} (ha : DE L G N sc cal ks (Dp.ev G fa)) (hb : DE L G N sc cal vs (Dp.ev G fb)) : DE L G N sc cal (.Dict [some ks] [vs] p) (Dp.ev G (.dct false (.cons fa .nil) (.cons fb .nil))) := by
  intro A W X xo
  refine (pe_disp (pps_cons (ha A W X xo) (hb A W X xo) pps_nil) rfl rfl (fun z => by cases z) (by show 1 ≤ 15; decide)).imp fun σ H Q ⟨F0, δ0, q0, h⟩ => ?_
  rw [dct1_ev] at h
  intro pd hpd
  have nt : ¬ Tb (.dK []) := fun ⟨_, e⟩ => nomatch e
  have g0 := Grow.fresh (A := A) (F := F0) (o := .dK []) q0.tab hpd
  have q0' := g0.rel q0
  have st0 : Stp A σ H F0 δ0 (upd H pd (.dK [])) F0 δ0 := g0.step
  have nF : F0 pd = none := by
    cases z : F0 pd with
    | none => rfl
    | some u => rw [q0.sub pd u z] at hpd; cases hpd
  have nOwn : ¬ Own A σ δ0 pd := fun w => (q0.ownS w).2 (Nt.of_none hpd)
  have nn : ∀ {H1 F1 : Hp} {δ1 : Dp.DSt}, Stp A σ (upd H pd (.dK [])) F0 δ0 H1 F1 δ1 → F1 pd = none ∧ H1 pd = some (.dK []) ∧ ¬ Own A σ δ1 pd := fun st => by
    have h1 := st.keep pd _ upd_same nt nOwn
    have h2 : ¬ Own A σ _ pd := fun w => nOwn (st.ownS w)
    refine ⟨?_, h1, h2⟩
    refine Classical.byContradiction fun nz => ?_
    obtain ⟨u, z⟩ := Option.ne_none_iff_exists'.mp nz
    rcases st.new pd u z with w | w | w
    · rw [nF] at w; cases w
    · exact absurd (w _ upd_same) nt
    · exact absurd w nOwn
  refine used_val ⟨F0, δ0, q0', ?_⟩
  show Post L.R A W (RlD L.R) σ (upd H pd (.dK [])) F0 δ0 (Dp.ev G fa δ0).used _
  cases ea : (Dp.ev G fa δ0).used with
  | stuck => rw [ea] at h; exact h.elim
  | exc x s => rw [ea] at h; exact fun H' F' c dx q st xr => h H' F' c dx q (st0.trans st) xr
  | ok d s =>
    rw [ea] at h
    intro kv H1 F1 q1 st1 rk
    have rk : Rep L.R F1 d kv := rk
    refine used_val ⟨F1, s, q1, ?_⟩
    show Post L.R A W (RlD L.R) σ H1 F1 s (Dp.ev G fb s).used _
    have h : Post L.R A W (RlE L.R A) σ H F0 δ0 ((Dp.ev G fb s).used.bind fun e σ2 => Dp.Out.lift σ2 ((Dp.dictOf false [(d, e)] [] []).map .fr)) Q := h
    cases eb : (Dp.ev G fb s).used with
    | stuck => rw [eb] at h; exact h.elim
    | exc x s2 => rw [eb] at h; exact fun H' F' c dx q st xr => h H' F' c dx q ((st0.trans st1).trans st) xr
    | ok e s2 =>
      rw [eb] at h
      intro w H2 F2 q2 st2 re
      have re : Rep L.R F2 e w := re
      have h : Post L.R A W (RlE L.R A) σ H F0 δ0 (Dp.Out.lift s2 ((if Dp.keyOk false d = true ∧ 0 < Dp.sizeLine then some (Dp.Ob.d false [d] [e]) else none).map .fr)) Q := h
      by_cases ck : Dp.keyOk false d = true ∧ 0 < Dp.sizeLine
      · rw [if_pos ck] at h
        obtain ⟨k, ek, rv⟩ := kD_of ck.1
        have hv := rv _ _ rk
        subst hv
        obtain ⟨f2, h2, o2⟩ := nn (st1.trans st2)
        refine ⟨h2, [(k, w)], rfl, by show 1 ≤ 15; decide, ?_⟩
        have q3 := q2.updFree (o := .dK (mergeK [] [(k, w)])) f2 o2 (q0.ntA (Nt.of_none hpd)).1 h2 nt (fun p z => nomatch z) (fun ⟨_, z⟩ => nomatch z)
        have st3 := ((st0.trans st1).trans st2).updNew (o := .dK (mergeK [] [(k, w)])) (Nt.of_none hpd) (fun ⟨_, z⟩ => nomatch z)
        exact h (.ref pd) _ F2 q3 st3 ⟨pd, rfl, Nt.of_none hpd, f2, o2, [(k, w)], upd_same, by rw [← ek]; rfl, w, [], rfl, re, rfl⟩
      · rw [if_neg ck] at h; exact h.elim
/-! ### x.pop(i) -/
theorem DRel.change0 {R : RC} {A : Act} {σ : St} {H F : Hp} {δ : Dp.DSt} {i : Nat} {o o' : Dp.Ob} {ad : Addr} {u : HO} (q : DRel R A σ H F δ) (hs : Dp.slotOb δ i = some o) (hv : σ[i]? = some (some (.ref ad))) (hF : F ad = none) (ob0 : ObAt R H F ad o) (nx : ∀ w p, H ad = some w → w ≠ .ext p) (ob : ObAt R (upd H ad u) F ad o') (nt : ¬ Tb u) :
    DRel R A σ (upd H ad u) F (Dp.putOb δ i o') ∧ Stp A σ H F δ (upd H ad u) F (Dp.putOb δ i o') := by
  obtain ⟨w, hw, tw⟩ := ob0.there
  have cs : CStep A.T (some ad) H F (upd H ad u) F := ⟨fun b x h1 _ ne => by rw [upd_ne fun z => ne (by rw [z])]; exact h1, fun b hb n => by
    by_cases e : b = ad
    · subst e; exact nt (n u upd_same)
    · exact hb fun x hx => n x (by rw [upd_ne e]; exact hx), Sub.refl _, fun _ _ h => .inl h, fun b x h1 => by
      have ne : b ≠ ad := fun z => by rw [z, hF] at h1; cases h1
      rw [upd_ne ne]; exact q.sub b x h1, q.ntb, tabs_upd q.tab hw tw fun p => nx w p hw⟩
  exact cs.put rfl q hs hv hF ob
theorem Reps.eraseIdx {R : RC} {F : Hp} : ∀ {ds : List Dp.D} {vs : List V} (k : Nat), Reps R F ds vs → Reps R F (ds.eraseIdx k) (vs.eraseIdx k)
  | [], vs, k, h => by
    have : vs = [] := h
    subst this
    cases k <;> exact rfl
  | d :: ds, vs, 0, ⟨v, ws, e, r, t⟩ => by subst e; exact t
  | d :: ds, vs, k + 1, ⟨v, ws, e, r, t⟩ => by
    subst e
    exact ⟨v, _, rfl, r, Reps.eraseIdx k t⟩
theorem seqIx_of {n : Int} {k j : Nat} (h : Dp.ixN k n = some j) : seqIndex? n k = some j := by
  unfold Dp.ixN at h
  unfold seqIndex?
  split at h
  · split at h
    · cases h
      simp only [show ¬ n < 0 by omega, if_false, Bool.and_eq_true, decide_eq_true_eq]
      rw [if_pos (by omega)]
    · cases h
  · split at h
    · cases h
      simp only [show n < 0 by omega, if_true, Bool.and_eq_true, decide_eq_true_eq]
      rw [if_pos (by omega)]
    · cases h
theorem de_popAt {i : Nat} {x : Str} {apos : Pos} {p1 p2 : Pos} {e : Expr} {a : Dp.E} (hi : N[i]? = some x) (hx : visB sc x = true) (hk : okName x = true) (hs : notStar e = true) (hl : (apos.endLine == p2.line) = true) (ha : DE L G N sc cal e (Dp.ev G a)) :
    DE L G N sc cal (.Call (.Attribute (.Name x p1) "pop" apos) [e] [] p2) (Dp.ev G (.mp .pop1 i a)) := by
  intro A W X so
  have hv : PE X (.Name x p1) (tVar i) := pe_var (i := i) (by rw [so.N]; exact hi) (by rw [so.sc]; exact vis_of hx) (okName_of hk).1 (okName_of hk).2
  have hst : starEach [e] X.env = (false, eval e X.env) :: starEach [] X.env := star_cons hs [] X.env
  refine (pe_bm PySem.F.plainAttrs_list PySem.F.slot_list_pop PySem.F.type_list_pop mt_popAt hv (pa_cons (ha A W X so) pa_nil hst) rfl (by rw [hst]; rfl) hl hst rfl).imp fun σ H Q h => ?_
  obtain ⟨F0, δ0, q0, h⟩ := h
  have h : Post L.R A W (RlE L.R A) σ H F0 δ0 (match Dp.slotOb δ0 i with
    | some (.l _) => (Dp.ev G a δ0).bind fun q σ1 => match q, Dp.slotOb σ1 i with
      | .val y, some o => match Dp.mpOb .pop1 o y with
        | some (d, o') => .ok (.val d) (Dp.putOb σ1 i o')
        | none => .stuck
      | _, _ => .stuck
    | _ => .stuck) Q := h
  cases e0 : Dp.slotOb δ0 i with
  | none => rw [e0] at h; exact h.elim
  | some o0 =>
    cases o0 with
    | d _ _ _ => rw [e0] at h; exact h.elim
    | i _ _ => rw [e0] at h; exact h.elim
    | l xs0 =>
      rw [e0] at h
      obtain ⟨ad, ea, _, vs0, hl0, _⟩ := slot_at q0 e0
      refine ⟨.ref ad, ea, .inl ⟨rfl, vs0, SqL.of hl0⟩, F0, δ0, q0, Post.bind back_E (g := fun q σ1 => match q, Dp.slotOb σ1 i with
        | .val y, some o => match Dp.mpOb .pop1 o y with
          | some (d, o') => .ok (.val d) (Dp.putOb σ1 i o')
          | none => .stuck
        | _, _ => .stuck) h fun v H1 F1 r δ1 _ q1 st1 rr h1 => ?_⟩
      cases r with
      | fr _ => exact h1.elim
      | bor _ => exact h1.elim
      | val y =>
        have rr : Rep L.R F1 y v := rr
        cases e2 : Dp.slotOb δ1 i with
        | none => simp only [e2] at h1; exact h1.elim
        | some o =>
          simp only [e2] at h1
          obtain ⟨ad', ea', hF, ob⟩ := slot_at q1 e2
          rw [ea] at ea'
          cases ea'
          cases o with
          | d _ _ _ => exact h1.elim
          | i _ _ => exact h1.elim
          | l xs => cases y with
            | int n =>
              obtain ⟨vs, hl, rs⟩ := ob
              have ev : v = .int n := rr
              have h1 : Post L.R A W (RlE L.R A) σ H1 F1 δ1 (match (match (if xs.length ≤ Dp.sizeLine then Dp.ixN xs.length n else none) with | some j => (match xs[j]? with | some y => some (y, Dp.Ob.l (xs.eraseIdx j)) | none => none) | none => none) with
                | some (d, o') => .ok (.val d) (Dp.putOb δ1 i o')
                | none => .stuck) Q := h1
              by_cases hz : xs.length ≤ Dp.sizeLine
              · rw [if_pos hz] at h1
                cases e3 : Dp.ixN xs.length n with
                | none => rw [e3] at h1; exact h1.elim
                | some j =>
                  rw [e3] at h1
                  simp only at h1
                  cases e4 : xs[j]? with
                  | none => rw [e4] at h1; exact h1.elim
                  | some y =>
                    rw [e4] at h1
                    obtain ⟨w, hw, rw_⟩ := Reps.at rs e4
                    have hb : -(2 ^ 63) ≤ n ∧ n < 2 ^ 63 := by
                      have hz' : (xs.length : Int) ≤ 16777216 := by have : xs.length ≤ 16777216 := hz; omega
                      unfold Dp.ixN at e3
                      split at e3
                      · split at e3
                        · omega
                        · cases e3
                      · split at e3
                        · omega
                        · cases e3
                    refine ⟨ad, vs, n, j, w, rfl, by rw [ev], hl, hb.1, hb.2, by rw [rs.length]; exact seqIx_of e3, hw, ?_⟩
                    have ob' : ObAt L.R (upd H1 ad (.lst (vs.eraseIdx j))) F1 ad (.l (xs.eraseIdx j)) := ⟨_, upd_same, rs.eraseIdx j⟩
                    obtain ⟨q3, st3⟩ := q1.change0 e2 ea hF ⟨vs, hl, rs⟩ (fun w p z => by rw [hl] at z; cases z; exact fun y => nomatch y) ob' (fun ⟨_, z⟩ => nomatch z)
                    exact h1 w _ F1 q3 st3 rw_
              · rw [if_neg hz] at h1; exact h1.elim
            | _ => exact h1.elim
/-! ### list(range(n)), tuple(range(n)) -/
theorem bind_assoc {α β γ : Type} (x : Dp.Out α) (f : α → Dp.DSt → Dp.Out β) (k : β → Dp.DSt → Dp.Out γ) : (x.bind f).bind k = x.bind fun a s => (f a s).bind k := by cases x <;> rfl
theorem rangeD_ints (i j : Int) : Dp.rangeD i j 1 = ((List.range (j - i).toNat).map fun (m : Nat) => i + (m : Int)).map Dp.D.int := by
  unfold Dp.rangeD
  rw [List.map_map, show (j - i + 1 - 1) / 1 = j - i by omega]
  refine List.map_congr_left fun m _ => ?_
  show Dp.D.int (i + m * 1) = .int (i + m)
  rw [Int.mul_one]
theorem rgV_ints (i j : Int) : rgV i j = ((List.range (j - i).toNat).map fun (m : Nat) => i + (m : Int)).map V.int := by
  unfold rgV; rw [List.map_map]; rfl
theorem reps_rg {R : RC} {F : Hp} (i j : Int) : Reps R F (Dp.rangeD i j 1) (rgV i j) := by rw [rangeD_ints, rgV_ints]; exact Reps.ints _
theorem rangeD_len1 (i j : Int) : (Dp.rangeD i j 1).length = (j - i).toNat := by rw [rangeD_ints, List.length_map, List.length_map, List.length_range]
/-- the end of it -/
theorem rl_end {R : RC} {σ : St} {H F : Hp} {δ : Dp.DSt} {Q : VK} {l : Bool} {i : Int} {r : Dp.RV} {v : V} (q : DRel R A σ H F δ) (rr : RelRV R A σ H H F δ v r)
    (h : Post R A W (RlE R A) σ H F δ ((Dp.Out.lift δ (Dp.rngO (.val (.int i)) r (.val (.int 1)))).bind fun xs σ1 => if xs.length ≤ Dp.sizeLine then (if l then .ok (.fr (.l xs)) σ1 else .ok (.val (.tup xs)) σ1) else .stuck) Q) :
    ∃ j, v = .int j ∧ RgOk i j ∧ (l = true → ∀ p, H p = none → Q (.ref p) (upd H p (.lst (rgV i j)))) ∧ (l = false → ∀ p, H p = none → Q (.ref p) (upd H p (.tup (rgV i j)))) := by
  cases e : Dp.rngO (.val (.int i)) r (.val (.int 1)) with
  | none => rw [e] at h; exact h.elim
  | some xs =>
    obtain ⟨i', j, k, e1, rfl, e3, hi, hj, _, _, rfl⟩ := rngO_ok e
    cases e1
    cases e3
    rw [e] at h
    have h : Post R A W (RlE R A) σ H F δ (if (Dp.rangeD i j 1).length ≤ Dp.sizeLine then (if l then .ok (.fr (.l (Dp.rangeD i j 1))) δ else .ok (.val (.tup (Dp.rangeD i j 1))) δ) else .stuck) Q := h
    have hi := inR_ok hi
    have hj := inR_ok hj
    by_cases z : (Dp.rangeD i j 1).length ≤ Dp.sizeLine
    · rw [if_pos z] at h
      rw [rangeD_len1] at z
      have z : (j - i).toNat ≤ 16777216 := z
      refine ⟨j, rr, ⟨hi.1, hi.2, hj.1, hj.2, z⟩, fun el => ?_, fun el => ?_⟩
      · subst el
        exact (Post.fin q h).lst q.tab q.sub (reps_rg i j)
      · subst el
        exact (Post.fin q h).tup q.tab q.sub (reps_rg i j)
    · rw [if_neg z] at h; exact h.elim
theorem de_rl1 {l : Bool} {a : Expr} {fa : Dp.E} {p1 p2 p3 p4 : Pos} (hc : cal = true) (hg2 : glB sc (if l then "list" else "tuple") = true) (hg : glB sc "range" = true) (hs : notStar a = true) (ha : DE L G N sc cal a (Dp.ev G fa)) :
    DE L G N sc cal (.Call (.Name (if l then "list" else "tuple") p1) [.Call (.Name "range" p2) [a] [] p3] [] p4) (Dp.ev G (.rl l (.rng (.k (.int 0)) fa (.k (.int 1))))) := by
  intro A W X xo
  have key : ∀ {σ H Q}, tE L.R A W (Dp.ev G (.rl l (.rng (.k (.int 0)) fa (.k (.int 1))))) σ H Q → tE L.R A W (Dp.ev G fa) σ H fun v H1 => ∃ j, v = .int j ∧ RgOk 0 j ∧ (l = true → ∀ p, H1 p = none → Q (.ref p) (upd H1 p (.lst (rgV 0 j)))) ∧ (l = false → ∀ p, H1 p = none → Q (.ref p) (upd H1 p (.tup (rgV 0 j)))) := fun {σ H Q} ⟨F, δ, q, h⟩ => by
    have h : Post L.R A W (RlE L.R A) σ H F δ (((Dp.ev G fa δ).bind fun r σ2 => Dp.Out.lift σ2 (Dp.rngO (.val (.int 0)) r (.val (.int 1)))).bind fun xs σ1 => if xs.length ≤ Dp.sizeLine then (if l then .ok (.fr (.l xs)) σ1 else .ok (.val (.tup xs)) σ1) else .stuck) Q := h
    rw [bind_assoc] at h
    refine ⟨F, δ, q, ?_⟩
    cases ea : Dp.ev G fa δ with
    | stuck => rw [ea] at h; exact h.elim
    | exc x s => rw [ea] at h; exact h
    | ok r δ1 =>
      rw [ea] at h
      intro v H1 F1 q1 st1 rr
      cases r with
      | val d =>
        have h : Post L.R A W (RlE L.R A) σ H F δ ((Dp.Out.lift δ1 (Dp.rngO (.val (.int 0)) (.val d) (.val (.int 1)))).bind fun xs σ1 => if xs.length ≤ Dp.sizeLine then (if l then .ok (.fr (.l xs)) σ1 else .ok (.val (.tup xs)) σ1) else .stuck) Q := h
        exact rl_end q1 (show RelRV L.R A σ H1 H1 F1 δ1 v (.val d) from rr) (Post.rebase back_E st1 h)
      | fr o => exact h.elim
      | bor i => exact h.elim
  have rg : PRg X (.Call (.Name "range" p2) [a] [] p3) _ := prg_1 (gl_X xo hg) (free_of xo (by decide +kernel)) (ha A W X xo) (star_cons hs [] X.env)
  cases l with
  | true =>
    exact (pe_listRg (xo.calm hc) (gl_X xo hg2) (free_of xo (by decide +kernel)) rg rfl).imp fun σ H Q h => by
      obtain ⟨F, δ, q, h⟩ := key h
      exact ⟨F, δ, q, h.imp fun v H1 ⟨j, e, ok, h1, _⟩ => ⟨j, e, ok, h1 rfl⟩⟩
  | false =>
    exact (pe_tupRg (xo.calm hc) (gl_X xo hg2) (free_of xo (by decide +kernel)) rg rfl).imp fun σ H Q h => by
      obtain ⟨F, δ, q, h⟩ := key h
      exact ⟨F, δ, q, h.imp fun v H1 ⟨j, e, ok, _, h2⟩ => ⟨j, e, ok, h2 rfl⟩⟩
end
end DpS
end

section
set_option Elab.async false
set_option linter.all false
set_option maxRecDepth 100000
set_option maxHeartbeats 4000000
set_option autoImplicit false
/-! DpB14i: instances: a field read, one made. -/
namespace DpS
open PySem PySem.Spec L2
section
variable {R : RC} {F H : Hp}
theorem RepF.lookup (inj : ∀ i j, R.an i = R.an j → i = j) : ∀ {fs : List (Nat × Dp.D)} {gs : List (Str × V)} {f : Nat} {d : Dp.D}, RepF R F fs gs → fs.lookup f = some d → ∃ v, gs.lookup (R.an f) = some v ∧ Rep R F d v
  | [], gs, f, d, h, e => by cases e
  | (g, x) :: fs, gs, f, d, h, e => by
    obtain ⟨v, hs, rfl, rv, rr⟩ := h
    by_cases k : f = g
    · subst k
      have e1 : x = d := by
        have : List.lookup f ((f, x) :: fs) = some x := by simp [List.lookup]
        rw [this] at e
        exact Option.some.inj e
      subst e1
      exact ⟨v, by simp [List.lookup], rv⟩
    · have e1 : fs.lookup f = some d := by
        have kb : (f == g) = false := by simpa using k
        rw [List.lookup, kb] at e
        exact e
      obtain ⟨u, hu, ru⟩ := RepF.lookup inj rr e1
      refine ⟨u, ?_, ru⟩
      have kb : (R.an f == R.an g) = false := by
        simp only [beq_eq_false_iff_ne, ne_eq]
        exact fun z => k (inj _ _ z)
      show List.lookup (R.an f) ((R.an g, v) :: hs) = some u
      rw [List.lookup, kb]
      exact hu
theorem RepF.length : ∀ {fs : List (Nat × Dp.D)} {gs : List (Str × V)}, RepF R F fs gs → gs.length = fs.length
  | [], gs, h => by cases (show gs = [] from h); rfl
  | f :: fs, gs, h => by
    obtain ⟨v, hs, rfl, _, rr⟩ := h
    rw [List.length_cons, List.length_cons, RepF.length rr]
theorem RepF.put (inj : ∀ i j, R.an i = R.an j → i = j) {f : Nat} {d : Dp.D} {v : V} (rv : Rep R F d v) : ∀ {fs : List (Nat × Dp.D)} {gs : List (Str × V)}, RepF R F fs gs → RepF R F (Dp.putF f d fs) (L2.putF (R.an f) v gs)
  | [], gs, h => by cases (show gs = [] from h); exact ⟨v, [], rfl, rv, rfl⟩
  | (g, x) :: fs, gs, h => by
    obtain ⟨u, hs, rfl, ru, rr⟩ := h
    by_cases k : g = f
    · subst k
      show RepF R F (if g = g then (g, d) :: fs else (g, x) :: Dp.putF g d fs) (if R.an g = R.an g then (R.an g, v) :: hs else (R.an g, u) :: L2.putF (R.an g) v hs)
      rw [if_pos rfl, if_pos rfl]
      exact ⟨v, hs, rfl, rv, rr⟩
    · show RepF R F (if g = f then (f, d) :: fs else (g, x) :: Dp.putF f d fs) (if R.an g = R.an f then (R.an g, v) :: hs else (R.an g, u) :: L2.putF (R.an f) v hs)
      rw [if_neg k, if_neg fun z => k (inj _ _ z)]
      exact ⟨u, _, rfl, ru, RepF.put inj rv rr⟩
end
section
variable {L : LX} {G : Dp.Gam} {N : List Str} {sc : Scope} {cal : Bool} {A : Act} {W : WX} {X : Cx} {a b c e : Expr} {fa fb : Dp.E} {p p1 p2 : Pos} {es : List Expr} {fs : Dp.Es} {R : RC}
/-- o.f -/
theorem de_att {f : Nat} {y : Str} (hf : L.anm f = some y) (hp : plainRecv a = true) (ha : DE L G N sc cal a (Dp.ev G fa)) : DE L G N sc cal (.Attribute a y p) (Dp.ev G (.att fa f)) := by
  intro A W X xo
  refine (pe_fld (ha A W X xo) (base_plain hp y X.env _)).imp fun σ H Q h => ?_
  refine tP.bind (f := Dp.ev G fa) (g := fun r δ1 => Dp.peek1 r δ1 fun x => Dp.Out.lift δ1 ((Dp.attD (fun c => (G.initOf c).isSome) x f).map .val)) back_E h fun x H1 F1 r δ1 q1 k1 rr1 h1 => ?_
  obtain ⟨d, px, h2⟩ := Post.peek1 q1 rr1 h1
  cases d with
  | obj c fl =>
    have h2 : Post L.R A W (RlE L.R A) σ H1 F1 δ1 (Dp.Out.lift δ1 ((if (G.initOf c).isSome then fl.lookup f else none).map .val)) Q := h2
    cases hc : (G.initOf c).isSome with
    | false => rw [hc] at h2; exact h2.elim
    | true =>
      rw [hc, if_pos rfl] at h2
      cases hl : fl.lookup f with
      | none => rw [hl] at h2; exact h2.elim
      | some d =>
        rw [hl] at h2
        obtain ⟨ad, dx, gs, e1, e2, rf⟩ := px
        obtain ⟨cl, na⟩ := xo.insts c hc
        obtain ⟨ey, na⟩ := na f y hf
        obtain ⟨v, hv, rv⟩ := RepF.lookup xo.inj rf hl
        rw [ey] at hv
        exact ⟨ad, _, dx, gs, v, e1, e2, cl, na, hv, h2 v H1 F1 q1 Stp.refl rv⟩
  | _ => exact h2.elim
/-- C(..): one is made -/
theorem de_mk {c : Nat} {y : Str} (hc : cal = true) (h1 : L.cnm c = some y) (h2 : glB sc y = true) (h3 : okName y = true) (hs : (a :: es).all notStar = true) (hn : fs.len + 1 = L.cnp c) (ha : DA L G N sc cal (a :: es) (Dp.evs G fs)) :
    DE L G N sc cal (.Call (.Name y p1) (a :: es) [] p) (Dp.ev G (.mk c fs)) := by
  intro A W X xo
  obtain ⟨f, k, fd, ps, e0, hp, hr, np, M, F, hm, hb⟩ := xo.mks c y h1 hc
  rw [List.all_cons, Bool.and_eq_true] at hs
  have pass : Passes (L2.CX X.prog X.w) X (fun _ _ _ => False) := fun pins σ H s e s' I z => by
    obtain ⟨_, _, _, _, _, _, _, _, _, _, _, _, f⟩ := z
    exact f.elim
  refine (pe_make M F hr (gl_X xo h2) hm hb .nil pass (ha A W X xo) (okName_of h3).1 (star_cons hs.1 es X.env) (star_plain p X.env es hs.2)).imp fun σ H Q h => ?_
  obtain ⟨F0, δ0, q0, h⟩ := h
  have h : Post L.R A W (RlE L.R A) σ H F0 δ0 ((Dp.evs G fs δ0).bind fun ds σ1 => match G.initOf c with
    | some f => (match G.fn f (some (.i c [])) ds with
      | .ok (.val .non) (some (.i c' fs)) => if c' = c then Dp.Out.ok (Dp.RV.fr (.i c fs)) σ1 else .stuck
      | _ => .stuck)
    | none => .stuck) Q := h
  refine ⟨F0, δ0, q0, h.bind back_E fun vs H1 F1 ds δ1 e1 q1 st1 rr1 h1 x dx nx ndx ne => ?_⟩
  rw [e0] at h1
  have h1 : Post L.R A W (RlE L.R A) σ H1 F1 δ1 (match G.fn f (some (.i c [])) ds with
      | .ok (.val .non) (some (.i c' fs)) => if c' = c then Dp.Out.ok (Dp.RV.fr (.i c fs)) δ1 else .stuck
      | _ => .stuck) Q := h1
  have g1 : Grow A H1 F1 (upd H1 dx (.own x)) F1 := Grow.fresh q1.tab ndx
  have g2 : Grow A (upd H1 dx (.own x)) F1 (upd (upd H1 dx (.own x)) x (.ins (L.R.ca c) dx [])) F1 := Grow.fresh g1.tab (by rw [upd_ne (Ne.symm ne)]; exact nx)
  have g := g1.trans g2
  have q2 := g.rel q1
  have F1x : F1 x = none := by
    cases z : F1 x with
    | none => rfl
    | some u => rw [q1.sub x u z] at nx; cases nx
  refine ⟨?_, F1, q2.sub, q2.ntb, by rw [← xo.T]; exact q2.tab, .inr ⟨x, vs, .i c [], ds, by rw [List.append_nil], F1x, ⟨dx, [], upd_same, rfl⟩, rr1, ?_⟩⟩
  · rw [List.append_nil, List.length_cons, Reps.length rr1, evs_len fs δ0 δ1 ds e1, hn, hp, np]
  · cases eo : G.fn f (some (.i c [])) ds with
    | stuck => rw [eo] at h1; exact h1.elim
    | exc z m => rw [eo] at h1; exact h1.elim
    | ok r m =>
      rw [eo] at h1
      cases r with
      | fr _ => exact h1.elim
      | val d => cases d with
        | non => cases m with
          | none => exact h1.elim
          | some o => cases o with
            | l _ => exact h1.elim
            | d _ _ _ => exact h1.elim
            | i c' fl =>
              have h1 : Post L.R A W (RlE L.R A) σ H1 F1 δ1 (if c' = c then Dp.Out.ok (Dp.RV.fr (.i c fl)) δ1 else .stuck) Q := h1
              by_cases hcc : c' = c
              · rw [if_pos hcc] at h1
                subst hcc
                intro v H' F' cs hF ob rr
                refine ⟨rr, ?_⟩
                have hx : ∀ b o, H1 b = some o → b ≠ x := fun b o hb => ne_of_none hb nx
                have gg : Grow A H1 F1 H' F' := {
                  keep := fun b o hb t => cs.keep b o (g.keep b o hb t) t (fun z => hx b o hb (Option.some.inj z).symm)
                  more := cs.more
                  new := fun b o hb => by
                    rcases cs.new b o hb with z | z
                    · exact .inl z
                    · exact .inr ⟨Classical.byContradiction fun n => g.there n z, cs.ntb b o hb, cs.sub b o hb⟩
                  tab := by rw [xo.T]; exact cs.tab }
                exact Post.fin q1 h1 (.ref x) H' F' gg ⟨x, rfl, Nt.of_none nx, hF, ob⟩
              · rw [if_neg hcc] at h1; exact h1.elim
        | _ => exact h1.elim
end
end DpS
end

section
set_option Elab.async false
set_option linter.all false
set_option maxRecDepth 100000
set_option maxHeartbeats 4000000
set_option autoImplicit false
/-! DpB14l: list comprehensions of two clauses, without tests. -/
namespace DpS
open PySem PySem.Spec L2
section
variable {L : LX} {G : Dp.Gam} {N : List Str} {sc : Scope} {cal : Bool} {A : Act} {W : WX} {X : Cx}
theorem wipe_sub {σ : St} {is js : List Nat} (h : ∀ j ∈ js, j ∈ is) : L2.wipe (L2.wipe σ js) is = L2.wipe σ is := wipe_eq (wipe_length σ js) fun j hj => wipe_out fun z => hj (h j z)
theorem wipeD_sub {τ : Dp.DSt} {is js : List Nat} (h : ∀ j ∈ js, j ∈ is) : Dp.wipeD (Dp.wipeD τ js) is = Dp.wipeD τ is := by
  refine List.ext_getElem? fun j => ?_
  by_cases hj : j ∈ is
  · by_cases hl : j < τ.length
    · rw [wipeD_in hj hl, wipeD_in hj (by rw [wipeD_len]; exact hl)]
    · rw [List.getElem?_eq_none (by rw [wipeD_len, wipeD_len]; omega), List.getElem?_eq_none (by rw [wipeD_len]; omega)]
  · rw [wipeD_out hj, wipeD_out hj, wipeD_out fun z => hj (h j z)]
theorem lcLL_cons {f : Dp.D → Dp.DSt → Dp.Out (List Dp.D)} {x : Dp.D} {xs ds : List Dp.D} {τ τe : Dp.DSt} (h : Dp.lcLL f (x :: xs) τ = .ok ds τe) : ∃ d τ1 ds1, f x τ = .ok d τ1 ∧ Dp.lcLL f xs τ1 = .ok ds1 τe ∧ ds = d ++ ds1 := by
  rw [Dp.lcLL] at h
  cases e : f x τ with
  | stuck => rw [e] at h; cases h
  | exc _ _ => rw [e] at h; cases h
  | ok d τ1 =>
    rw [e] at h
    have h : (match Dp.lcLL f xs τ1 with | .ok ds σ2 => Dp.Out.ok (d ++ ds) σ2 | _ => .stuck) = .ok ds τe := h
    cases e2 : Dp.lcLL f xs τ1 with
    | stuck => rw [e2] at h; cases h
    | exc _ _ => rw [e2] at h; cases h
    | ok ds1 τ2 =>
      rw [e2] at h
      cases h
      exact ⟨d, τ1, ds1, rfl, e2, rfl⟩
/-- the inner one's turn, the outer one's -/
def lcIn (own2 : List Nat) (t2 : Dp.Tg) (el : Dp.DSt → Dp.Out Dp.RV) : Dp.D → Dp.DSt → Dp.Out (Option Dp.D) := fun y ρ => Dp.lcStep (Dp.asg t2 y (Dp.wipeD ρ own2)) (fun ρ1 => .ok true ρ1) fun ρ2 => (el ρ2).used
def lcOut (own own2 : List Nat) (t : Dp.Tg) (it2 : Dp.DSt → Dp.Out (List Dp.D)) (t2 : Dp.Tg) (el : Dp.DSt → Dp.Out Dp.RV) : Dp.D → Dp.DSt → Dp.Out (List Dp.D) := fun x τ => Dp.lc2Step (Dp.asg t x (Dp.wipeD τ own)) it2 fun ys τ2 => Dp.lcL (lcIn own2 t2 el) ys τ2
theorem lcOut_ok {own own2 : List Nat} {t t2 : Dp.Tg} {it2 : Dp.DSt → Dp.Out (List Dp.D)} {el : Dp.DSt → Dp.Out Dp.RV} {x : Dp.D} {τ τe : Dp.DSt} {dx : List Dp.D} (h : lcOut own own2 t it2 t2 el x τ = .ok dx τe) :
    ∃ τ1 ys τ2, Dp.asg t x (Dp.wipeD τ own) = some τ1 ∧ it2 τ1 = .ok ys τ2 ∧ Dp.lcL (lcIn own2 t2 el) ys τ2 = .ok dx τe := by
  unfold lcOut at h
  cases e : Dp.asg t x (Dp.wipeD τ own) with
  | none => rw [e] at h; cases h
  | some τ1 =>
    rw [e] at h
    have h : ((it2 τ1).bind fun ys τ2 => Dp.lcL (lcIn own2 t2 el) ys τ2) = .ok dx τe := h
    cases e2 : it2 τ1 with
    | stuck => rw [e2] at h; cases h
    | exc _ _ => rw [e2] at h; cases h
    | ok ys τ2 => rw [e2] at h; exact ⟨τ1, ys, τ2, rfl, e2, h⟩
theorem lc2_post {R : RC} {own own2 : List Nat} {t t2 : Dp.Tg} {it2 : Dp.DSt → Dp.Out (List Dp.D)} {el : Dp.DSt → Dp.Out Dp.RV} {J : It} {xs : List Dp.D} {σ : St} {H1 F1 : Hp} {δ1 : Dp.DSt} {Q : VK} (sub : ∀ i ∈ tgIx t, i ∈ own) (sub2 : ∀ i ∈ tgIx t2, i ∈ own2) (oo : ∀ i ∈ own2, i ∈ own)
    (q1 : DRel R A σ H1 F1 δ1) (it : ItOk R A F1 J xs) (h : Post R A W (RlE R A) σ H1 F1 δ1 (if Dp.freeB δ1 own then Dp.lcEnd own δ1 (Dp.lcLL (lcOut own own2 t it2 t2 el) xs δ1) else .stuck) Q) :
    ∀ D, H1 D = none → ∃ Wi : Nat → Nat → Hp → Prop, (∃ m, Wi 0 m (upd H1 D (.lst []))) ∧ ∀ i m H, Wi i m H →
      (J.stop i H ∧ Q (.ref D) H) ∨ (J.go i H ∧ ∃ Nx : Hp → Prop, (∀ H', Nx H' → ∃ m', m' < m ∧ Wi (i + 1) m' H') ∧ ∀ x H', J.yld i H x H' → tG R A (tgIx t) (Dp.asg t) x (wipe σ own) H' fun σ2 H2 => wipe σ2 own = wipe σ own ∧ tYes σ2 H2 fun b H3 =>
        if b = true then tI R A (fun _ _ _ _ => False) it2 σ2 H3 fun J1 H4 => ∃ W1 : Nat → Nat → Hp → Prop, (∃ m, W1 0 m H4) ∧ ∀ j k H, W1 j k H →
          (J1.stop j H ∧ Nx H) ∨ (J1.go j H ∧ ∃ Nx1 : Hp → Prop, (∀ H', Nx1 H' → ∃ k', k' < k ∧ W1 (j + 1) k' H') ∧ ∀ x H', J1.yld j H x H' → tG R A (tgIx t2) (Dp.asg t2) x (wipe σ2 own2) H' fun σ3 H5 => wipe σ3 own2 = wipe σ2 own2 ∧ tYes σ3 H5 fun b H6 =>
            if b = true then tE R A (fun _ _ _ _ => False) el σ3 H6 fun y H7 => ∃ acc, H7 D = some (.lst acc) ∧ acc.length < sizeLine ∧ Nx1 (upd H7 D (.lst (acc ++ [y]))) else Nx1 H6)
        else Nx H3) := by
  intro D hD
  cases hf : Dp.freeB δ1 own with
  | false => rw [hf] at h; exact h.elim
  | true =>
  rw [hf, if_pos rfl] at h
  cases he : Dp.lcLL (lcOut own own2 t it2 t2 el) xs δ1 with
  | stuck => rw [he] at h; exact h.elim
  | exc _ _ => rw [he] at h; exact h.elim
  | ok ds τe =>
  rw [he] at h
  have h : Post R A W (RlE R A) σ H1 F1 δ1 (if ds.length < Dp.sizeLine then .ok (.fr (.l ds)) (Dp.backD δ1 τe own) else .stuck) Q := h
  by_cases hz : ds.length < Dp.sizeLine
  · rw [if_pos hz] at h
    obtain ⟨qw, oww⟩ := q1.wipe (is := own)
    have n0 : Nt A.H0 D := (q1.ntA (Nt.of_none hD)).1
    have noD : ¬ Own A (wipe σ own) (Dp.wipeD δ1 own) D := fun z => (q1.ownS (oww D z)).2 (Nt.of_none hD)
    have nL : ∀ l : List V, ¬ Tb (.lst l) := fun l ⟨_, e⟩ => nomatch e
    have nX : ∀ (l : List V) p, HO.lst l ≠ .ext p := fun l p e => nomatch e
    have g0 := Grow.fresh (A := A) (F := F1) (o := .lst []) q1.tab hD
    -- no state's slot holds D
    have noS : ∀ {σ' : St} {H F : Hp} {τ : Dp.DSt}, DRel R A σ' H F τ → StpS A (wipe σ own) H1 F1 (Dp.wipeD δ1 own) σ' H F τ → (∀ (i : Nat) o, τ[i]? = some (.ow o) → (∃ u, δ1[i]? = some (.ow u)) ∧ σ'[i]? = σ[i]?) → ¬ Own A σ' τ D := fun {σ' H F τ} q st slot z => by
      rcases st.own D z with w | w
      · exact noD w
      · rcases z with z | ⟨j, o, z1, z2⟩
        · exact noD (.inl z)
        · obtain ⟨⟨u, eu⟩, es⟩ := slot j o z1
          rw [es] at z2
          exact (q1.ownS (.inr ⟨j, u, eu, z2⟩)).2 (Nt.of_none hD)
    let Wi : Nat → Nat → Hp → Prop := fun i m H => m + i = xs.length ∧ ∃ F τ acc ys dsr, Dp.lcLL (lcOut own own2 t it2 t2 el) (xs.drop i) τ = .ok dsr τe ∧ ds = ys ++ dsr ∧ DRel R A (wipe σ own) H F (Dp.wipeD τ own) ∧
      StpS A (wipe σ own) H1 F1 (Dp.wipeD δ1 own) (wipe σ own) H F (Dp.wipeD τ own) ∧ H D = some (.lst acc) ∧ F D = none ∧ Reps R F ys acc ∧ ∀ (i : Nat) o, i ∉ own → τ[i]? = some (.ow o) → ∃ u, δ1[i]? = some (.ow u)
    refine ⟨Wi, ⟨xs.length, Nat.add_zero _, F1, δ1, [], [], ds, he, rfl, g0.rel qw, g0.step.toS.trans .refl, upd_same, ?_, rfl, fun i o _ e => ⟨o, e⟩⟩, ?_⟩
    · cases z : F1 D with
      | none => rfl
      | some u => rw [q1.sub D u z] at hD; cases hD
    rintro i m H ⟨hm, F, τ, acc, ys, dsr, hl, hds, q, st, hacc, hFD, rs, slot⟩
    have slotW : ∀ (i : Nat) o, (Dp.wipeD τ own)[i]? = some (.ow o) → (∃ u, δ1[i]? = some (.ow u)) ∧ (wipe σ own)[i]? = σ[i]? := fun i o e => by
      obtain ⟨ni, ei⟩ := wipeD_ow e (fun z => nomatch z)
      exact ⟨slot i o ni ei, wipe_out ni⟩
    have noD' := noS q st slotW
    by_cases hi : i < xs.length
    · -- a turn
      have hx : xs[i]? = some xs[i] := List.getElem?_eq_getElem hi
      obtain ⟨go, yl⟩ := (it i _ H F _ st.more q).1 _ hx
      rw [List.drop_eq_getElem_cons hi] at hl
      refine .inr ⟨go, Wi (i + 1) (xs.length - (i + 1)), fun H' w => ⟨xs.length - (i + 1), by omega, w⟩, fun x H' y => ?_⟩
      obtain ⟨F2, g, rx⟩ := yl x H' y
      have q2 := g.rel q
      have st2 := st.trans g.step.toS
      obtain ⟨dx, τ3, ds1, e1, e2, e3⟩ := lcLL_cons hl
      obtain ⟨τ1, yl1, τ2, a1, a2, a3⟩ := lcOut_ok e1
      refine ⟨F2, _, _, τ1, q2, rx, a1, fun σ2 as => ?_⟩
      have len2 : σ2.length = (wipe σ own).length := by rw [as.rel.len, as.len, q2.len]
      have off2 : ∀ j, j ∉ own → σ2[j]? = σ[j]? := fun j hj => by rw [(as.off j fun z => hj (sub j z)).1, wipe_out hj]
      have wq : wipe σ2 own = wipe σ own := by
        have e : wipe σ2 own = wipe (wipe σ own) own := wipe_eq len2 fun j hj => (as.off j fun z => hj (sub j z)).1
        rw [e, wipe_idem]
      refine ⟨wq, ?_⟩
      dsimp only [tYes]
      rw [if_pos rfl]
      refine ⟨F2, τ1, as.rel, ?_⟩
      show Post R A (fun _ _ _ _ => False) (RlI R A) σ2 H' F2 τ1 (it2 τ1) _
      rw [a2]
      intro J1 H4 F4 q4 st4 itk
      have it1 : ItOk R A F4 J1 yl1 := itk
      have sta : StpS A (wipe σ own) H1 F1 (Dp.wipeD δ1 own) σ2 H' F2 τ1 := st2.trans (StpS.slots as.own)
      have F2D : F2 D = none := by
        cases z : F2 D with
        | none => rfl
        | some u =>
          rcases g.new D u z with w | ⟨w, _⟩
          · rw [hFD] at w; cases w
          · exact absurd (w _ hacc) (nL acc)
      have slot1 : ∀ (i : Nat) o, τ1[i]? = some (.ow o) → (∃ u, δ1[i]? = some (.ow u)) ∧ i ∉ own := fun i o e => by
        obtain ⟨ni, ei⟩ := wipeD_ow (as.slot i o e) (fun z => nomatch z)
        exact ⟨slot i o ni ei, ni⟩
      have slot2 : ∀ (i : Nat) o, τ2[i]? = some (.ow o) → (∃ u, δ1[i]? = some (.ow u)) ∧ i ∉ own := fun i o e => by
        obtain ⟨u, eu⟩ := st4.own i o e
        exact slot1 i u eu
      have noD1 : ¬ Own A σ2 τ1 D := fun z => noD' (as.own D z)
      have acc4 : H4 D = some (.lst acc) := st4.keep D _ (g.keep D _ hacc (nL acc)) (nL acc) noD1
      have F4D : F4 D = none := by
        cases z : F4 D with
        | none => rfl
        | some u =>
          rcases st4.new D u z with w | w | w
          · rw [F2D] at w; cases w
          · exact absurd (w _ (g.keep D _ hacc (nL acc))) (nL acc)
          · exact absurd w noD1
      obtain ⟨q5, ow5⟩ := q4.wipe (is := own2)
      have st5 : StpS A (wipe σ own) H1 F1 (Dp.wipeD δ1 own) (wipe σ2 own2) H4 F4 (Dp.wipeD τ2 own2) := (sta.trans st4.toS).trans (StpS.slots ow5)
      let W1 : Nat → Nat → Hp → Prop := fun j k H => k + j = yl1.length ∧ ∃ F ρ acc ys' dsr', Dp.lcL (lcIn own2 t2 el) (yl1.drop j) ρ = .ok dsr' τ3 ∧ dx = ys' ++ dsr' ∧ DRel R A (wipe σ2 own2) H F (Dp.wipeD ρ own2) ∧
        StpS A (wipe σ own) H1 F1 (Dp.wipeD δ1 own) (wipe σ2 own2) H F (Dp.wipeD ρ own2) ∧ Sub F4 F ∧ H D = some (.lst acc) ∧ F D = none ∧ Reps R F (ys ++ ys') acc ∧ ∀ (i : Nat) o, i ∉ own2 → ρ[i]? = some (.ow o) → (∃ u, δ1[i]? = some (.ow u)) ∧ i ∉ own
      refine ⟨W1, ⟨yl1.length, Nat.add_zero _, F4, τ2, acc, [], dx, a3, rfl, q5, st5, Sub.refl _, acc4, F4D, by rw [List.append_nil]; exact rs.sub (g.more.trans st4.more), fun i o _ e => slot2 i o e⟩, ?_⟩
      rintro j k H ⟨hk, F, ρ, acc, ys', dsr', hl', hds', q, st, s4F, hacc, hFD, rs, slot⟩
      have slotW : ∀ (i : Nat) o, (Dp.wipeD ρ own2)[i]? = some (.ow o) → (∃ u, δ1[i]? = some (.ow u)) ∧ (wipe σ2 own2)[i]? = σ[i]? := fun i o e => by
        obtain ⟨ni, ei⟩ := wipeD_ow e (fun z => nomatch z)
        obtain ⟨eu, no⟩ := slot i o ni ei
        exact ⟨eu, by rw [wipe_out ni, off2 i no]⟩
      have noDi := noS q st slotW
      by_cases hj : j < yl1.length
      · -- a turn of the inner one
        have hy : yl1[j]? = some yl1[j] := List.getElem?_eq_getElem hj
        obtain ⟨go1, yl2⟩ := (it1 j _ H F _ s4F q).1 _ hy
        rw [List.drop_eq_getElem_cons hj] at hl'
        refine .inr ⟨go1, W1 (j + 1) (yl1.length - (j + 1)), fun H' w => ⟨yl1.length - (j + 1), by omega, w⟩, fun x' H6 y' => ?_⟩
        obtain ⟨F6, g6, rx6⟩ := yl2 x' H6 y'
        have q6 := g6.rel q
        have st6 := st.trans g6.step.toS
        obtain ⟨ρ1, d, ρ3, ds3, b1, b2, b3, b4⟩ : ∃ ρ1 d ρ3 ds3, Dp.asg t2 yl1[j] (Dp.wipeD ρ own2) = some ρ1 ∧ (el ρ1).used = .ok d ρ3 ∧ Dp.lcL (lcIn own2 t2 el) (yl1.drop (j + 1)) ρ3 = .ok ds3 τ3 ∧ dsr' = d :: ds3 := by
          rcases lcL_cons hl' with ⟨d, ρ3, ds3, k1, k2, k3⟩ | ⟨ρ3, k1, k2⟩
          · obtain ⟨ρ1, b, ρ2, l1, l2, l3⟩ := lcStep_ok k1
            cases l2
            rcases l3 with ⟨_, d', m1, m2⟩ | ⟨m1, _⟩
            · cases m2
              exact ⟨ρ1, d, ρ3, ds3, l1, m1, k2, k3⟩
            · cases m1
          · obtain ⟨ρ1, b, ρ2, l1, l2, l3⟩ := lcStep_ok k1
            cases l2
            rcases l3 with ⟨_, d', m1, m2⟩ | ⟨m1, _⟩
            · cases m2
            · cases m1
        refine ⟨F6, _, _, ρ1, q6, rx6, b1, fun σ3 as3 => ?_⟩
        have wq3 : wipe σ3 own2 = wipe σ2 own2 := by
          have e : wipe σ3 own2 = wipe (wipe σ2 own2) own2 := wipe_eq (by rw [as3.rel.len, as3.len, q6.len]) fun j hj => (as3.off j fun z => hj (sub2 j z)).1
          rw [e, wipe_idem]
        refine ⟨wq3, ?_⟩
        rw [if_pos rfl]
        refine used_val ⟨F6, ρ1, as3.rel, ?_⟩
        show Post R A (fun _ _ _ _ => False) (RlD R) σ3 H6 F6 ρ1 ((el ρ1).used) _
        rw [b2]
        intro v7 H7 F7 q7 st7 r7
        have noD3 : ¬ Own A σ3 ρ1 D := fun z => noDi (as3.own D z)
        have hD7 : H7 D = some (.lst acc) := st7.keep D _ (g6.keep D _ hacc (nL acc)) (nL acc) noD3
        have F6D : F6 D = none := by
          cases z : F6 D with
          | none => rfl
          | some u =>
            rcases g6.new D u z with w | ⟨w, _⟩
            · rw [hFD] at w; cases w
            · exact absurd (w _ hacc) (nL acc)
        have F7D : F7 D = none := by
          cases z : F7 D with
          | none => rfl
          | some u =>
            rcases st7.new D u z with w | w | w
            · rw [F6D] at w; cases w
            · exact absurd (w _ (g6.keep D _ hacc (nL acc))) (nL acc)
            · exact absurd w noD3
        refine ⟨acc, hD7, ?_, ?_⟩
        · have e0 := rs.length
          have e4 : ds.length = (ys.length + (ys'.length + (ds3.length + 1))) + ds1.length := by
            rw [hds, e3, hds', b4]; simp only [List.length_append, List.length_cons]; omega
          rw [e0, List.length_append, ← sizeL]
          omega
        · obtain ⟨q8, ow8⟩ := q7.wipe (is := own2)
          rw [wq3] at q8 ow8
          have no8 : ¬ Own A (wipe σ2 own2) (Dp.wipeD ρ3 own2) D := fun z => noD3 (st7.ownS (ow8 D z))
          refine ⟨by omega, F7, ρ3, acc ++ [v7], ys' ++ [d], ds3, b3, by rw [hds', b4, List.append_assoc]; rfl, q8.updFree F7D no8 n0 hD7 (nL _) (nX _) (nL _), ?_, s4F.trans (g6.more.trans st7.more), upd_same, F7D, ?_, fun i o ni e => ?_⟩
          · exact (((st6.trans (StpS.slots as3.own)).trans st7.toS).trans (StpS.slots ow8)).updNew (Nt.of_none hD) (nL _)
          · rw [← List.append_assoc]
            exact (rs.sub (g6.more.trans st7.more)).append ⟨v7, [], rfl, r7, rfl⟩
          · obtain ⟨u, eu⟩ := st7.own i o e
            obtain ⟨nj, ej⟩ := wipeD_ow (as3.slot i u eu) (fun z => nomatch z)
            exact slot i u nj ej
      · -- the end of the inner one
        have ei : yl1.drop j = [] := List.drop_eq_nil_iff.mpr (by omega)
        rw [ei] at hl'
        cases hl'
        rw [List.append_nil] at hds'
        subst hds'
        refine .inl ⟨(it1 j _ H F _ s4F q).2 (by omega), ?_⟩
        obtain ⟨q9, ow9⟩ := q.wipe (is := own)
        rw [wipe_sub oo, wipeD_sub oo, wq] at q9 ow9
        refine ⟨by omega, F, τ3, acc, ys ++ dx, ds1, e2, by rw [hds, e3, List.append_assoc], q9, st.trans (StpS.slots ow9), hacc, hFD, rs, fun i o ni e => ?_⟩
        exact (slot i o (fun z => ni (oo i z)) e).1
    · -- the end
      have ei : xs.drop i = [] := List.drop_eq_nil_iff.mpr (by omega)
      rw [ei] at hl
      cases hl
      rw [List.append_nil] at hds
      subst hds
      refine .inl ⟨(it i _ H F _ st.more q).2 (by omega), ?_⟩
      obtain ⟨qb, owb⟩ := back_rel q1 hf q st.more
      have hl' : δ1.length = τe.length := by rw [← q1.len, ← wipe_length σ own, q.len, wipeD_len]
      refine h (.ref D) H F qb ⟨fun a u h1 n w => st.keep a u h1 n fun z => w (oww a z), st.there, st.more, fun a u h1 => ?_, fun j u e => ?_⟩ ⟨D, rfl, Nt.of_none hD, hFD, fun z => noD' (owb D z), acc, hacc, rs⟩
      · rcases st.new a u h1 with w | w | w
        · exact .inl w
        · exact .inr (.inl w)
        · exact .inr (.inr (oww a w))
      · rcases back_get hl' hf e with ⟨_, _, z | ⟨_, z⟩⟩ | ⟨nj, z⟩
        · cases z
        · cases z
        · exact slot j u nj z
  · rw [if_neg hz] at h
    exact h.elim
theorem lc2_key {own own2 : List Nat} {t t2 : Dp.Tg} {it it2 : Dp.It} {fe : Dp.E} {σ : St} {H : Hp} {Q : VK} (sub : ∀ i ∈ tgIx t, i ∈ own) (sub2 : ∀ i ∈ tgIx t2, i ∈ own2) (oo : ∀ i ∈ own2, i ∈ own) {R : RC} (h : tE R A W (Dp.ev G (.lc2 own own2 t it t2 it2 fe)) σ H Q) :
    tLc2 (tI R A W (Dp.evi G it)) (tG R A (tgIx t) (Dp.asg t)) tYes (tI R A (fun _ _ _ _ => False) (Dp.evi G it2)) (tG R A (tgIx t2) (Dp.asg t2)) tYes (tE R A (fun _ _ _ _ => False) (Dp.ev G fe)) own own2 σ H Q := by
  refine tP.bind (f := Dp.evi G it) (g := fun xs σ1 => if Dp.freeB σ1 own then Dp.lcEnd own σ1 (Dp.lcLL (lcOut own own2 t (Dp.evi G it2) t2 (Dp.ev G fe)) xs σ1) else .stuck) back_E h fun J H1 F1 xs δ1 q1 k1 rr h1 => ?_
  exact lc2_post (it2 := Dp.evi G it2) (el := Dp.ev G fe) sub sub2 oo q1 rr h1
theorem de_lc2 {elt tg iter tg2 iter2 : Expr} {scope : Scope} {own : List (Str × Nat)} {own2 : List Nat} {p : Pos} {t t2 : Dp.Tg} {it it2 : Dp.It} {fe : Dp.E} (hc : cal = true) (hb : blkC N sc scope own = true) (hs : isSet iter = false) (hs2 : isSet iter2 = false)
    (hg : chkG N (lcB sc scope) tg t = true) (hg2 : chkG N (lcB sc scope) tg2 t2 = true) (sub : ∀ i ∈ tgIx t, i ∈ own.map (·.2)) (sub2 : ∀ i ∈ tgIx t2, i ∈ own2) (oo : ∀ i ∈ own2, i ∈ own.map (·.2))
    (hi : DI L G N sc cal tg iter (Dp.evi G it)) (hi2 : DI L G N (relS scope sc) cal tg2 iter2 (Dp.evi G it2)) (he : DE L G N (relS scope sc) cal elt (Dp.ev G fe)) :
    DE L G N sc cal (.ListComp elt [⟨tg, iter, [], 0⟩, ⟨tg2, iter2, [], 0⟩] scope p) (Dp.ev G (.lc2 (own.map (·.2)) own2 t it t2 it2 fe)) := by
  intro A W X xo
  have ok : BlkOk X.N X.env.scope scope own := by rw [xo.N, xo.sc]; exact blkOk_by hb
  have pg : ∀ {tg : Expr} {t : Dp.Tg}, chkG N (lcB sc scope) tg t = true → ∀ (s : Shared) (H : Hp) (C : Addr) (cl : List (Str × Addr)) (fp : List Addr), PG (X.blk s H scope (compEnvC scope cl C X.env) fp) tg (tG L.R A (tgIx t) (Dp.asg t)) := fun {tg t} hg s H C cl fp =>
    pg_chk (X := X.blk s H scope (compEnvC scope cl C X.env) fp) (xo.calm hc) xo.K xo.nd xo.N (fun x hx => by
      obtain ⟨h1, h2⟩ := lcB_ok hx
      have e := xo.sc
      subst e
      exact ⟨h1, h2⟩) tg t hg
  refine (pe_lc2 (xo.calm hc) xo.nd (hi A W X xo) ok oo (pg hg) (fun _ _ _ _ _ => pts_nil) (fun s H C cl fp => hi2 A _ _ (xo.blk s H scope C cl fp)) (pg hg2) (fun _ _ _ _ _ => pts_nil) (fun s H C cl fp => he A _ _ (xo.blk s H scope C cl fp)) (fsi_plain hs X.env) (fun env => fsi_plain hs2 env)).imp fun σ H Q h => ?_
  exact lc2_key sub sub2 oo h
end
end DpS
end

section
set_option Elab.async false
set_option linter.all false
set_option maxRecDepth 100000
set_option maxHeartbeats 4000000
set_option autoImplicit false
/-! DpB15: the check of an expression against its term; soundness. -/
namespace DpS
open PySem PySem.Spec L2

/-! ### parts of expressions -/
def unName : Expr → Option Str
  | .Name y _ => some y
  | _ => none
def unConst : Expr → Option Const
  | .Constant c _ _ => some c
  | _ => none
def unBin : Expr → Option (Expr × Operator × Expr)
  | .BinOp a o b _ => some (a, o, b)
  | _ => none
def unUn : Expr → Option (UnaryOp × Expr)
  | .UnaryOp o a _ => some (o, a)
  | _ => none
def unBool : Expr → Option (BoolOp × List Expr × Pos)
  | .BoolOp o es p => some (o, es, p)
  | _ => none
def unCmp : Expr → Option (Expr × List CmpOp × List Expr)
  | .Compare a os bs _ => some (a, os, bs)
  | _ => none
def unIte : Expr → Option (Expr × Expr × Expr)
  | .IfExp c a b _ => some (c, a, b)
  | _ => none
def unTup : Expr → Option (List Expr)
  | .Tuple es _ _ => some es
  | _ => none
def unLst : Expr → Option (List Expr)
  | .List es _ => some es
  | _ => none
def unSub : Expr → Option (Expr × Expr)
  | .Subscript a b _ => some (a, b)
  | _ => none
def unSlice : Expr → Option (Option Expr × Option Expr × Option Expr)
  | .Slice l u s _ => some (l, u, s)
  | _ => none
def unAtt : Expr → Option (Expr × Str × Pos)
  | .Attribute o n p => some (o, n, p)
  | _ => none
def unCall : Expr → Option (Expr × List Expr × List Keyword × Pos)
  | .Call f as ks p => some (f, as, ks, p)
  | _ => none
def unLam : Expr → Option (Arguments × Expr × Scope)
  | .Lambda a b s _ => some (a, b, s)
  | _ => none
def unLc : Expr → Option (Expr × List Comprehension × Scope)
  | .ListComp e gs s _ => some (e, gs, s)
  | _ => none
section
variable {e : Expr}
theorem unName_ok {y : Str} (h : unName e = some y) : ∃ p, e = .Name y p := by cases e <;> cases h; exact ⟨_, rfl⟩
theorem unConst_ok {c : Const} (h : unConst e = some c) : ∃ k p, e = .Constant c k p := by cases e <;> cases h; exact ⟨_, _, rfl⟩
theorem unBin_ok {a b : Expr} {o : Operator} (h : unBin e = some (a, o, b)) : ∃ p, e = .BinOp a o b p := by cases e <;> cases h; exact ⟨_, rfl⟩
theorem unUn_ok {a : Expr} {o : UnaryOp} (h : unUn e = some (o, a)) : ∃ p, e = .UnaryOp o a p := by cases e <;> cases h; exact ⟨_, rfl⟩
theorem unBool_ok {o : BoolOp} {es : List Expr} {p : Pos} (h : unBool e = some (o, es, p)) : e = .BoolOp o es p := by cases e <;> cases h; rfl
theorem unCmp_ok {a : Expr} {os : List CmpOp} {bs : List Expr} (h : unCmp e = some (a, os, bs)) : ∃ p, e = .Compare a os bs p := by cases e <;> cases h; exact ⟨_, rfl⟩
theorem unIte_ok {c a b : Expr} (h : unIte e = some (c, a, b)) : ∃ p, e = .IfExp c a b p := by cases e <;> cases h; exact ⟨_, rfl⟩
theorem unTup_ok {es : List Expr} (h : unTup e = some es) : ∃ k p, e = .Tuple es k p := by cases e <;> cases h; exact ⟨_, _, rfl⟩
theorem unLst_ok {es : List Expr} (h : unLst e = some es) : ∃ p, e = .List es p := by cases e <;> cases h; exact ⟨_, rfl⟩
theorem unSub_ok {a b : Expr} (h : unSub e = some (a, b)) : ∃ p, e = .Subscript a b p := by cases e <;> cases h; exact ⟨_, rfl⟩
theorem unSlice_ok {l u s : Option Expr} (h : unSlice e = some (l, u, s)) : ∃ p, e = .Slice l u s p := by cases e <;> cases h; exact ⟨_, rfl⟩
theorem unAtt_ok {o : Expr} {n : Str} {p : Pos} (h : unAtt e = some (o, n, p)) : e = .Attribute o n p := by cases e <;> cases h; rfl
theorem unCall_ok {f : Expr} {as : List Expr} {ks : List Keyword} {p : Pos} (h : unCall e = some (f, as, ks, p)) : e = .Call f as ks p := by cases e <;> cases h; rfl
theorem unLam_ok {a : Arguments} {b : Expr} {s : Scope} (h : unLam e = some (a, b, s)) : ∃ p, e = .Lambda a b s p := by cases e <;> cases h; exact ⟨_, rfl⟩
theorem unLc_ok {x : Expr} {gs : List Comprehension} {s : Scope} (h : unLc e = some (x, gs, s)) : ∃ p, e = .ListComp x gs s p := by cases e <;> cases h; exact ⟨_, rfl⟩
end
/-- a call of a name without keywords -/
def unCallN (e : Expr) : Option (Str × List Expr) := match unCall e with
  | some (f, as, [], _) => match unName f with
    | some y => some (y, as)
    | none => none
  | _ => none
theorem unCallN_ok {e : Expr} {y : Str} {as : List Expr} (h : unCallN e = some (y, as)) : ∃ p1 p, e = .Call (.Name y p1) as [] p := by
  unfold unCallN at h
  cases h1 : unCall e with
  | none => rw [h1] at h; cases h
  | some t =>
    obtain ⟨f, bs, ks, p⟩ := t
    rw [h1] at h
    cases ks with
    | cons _ _ => cases h
    | nil =>
      have h : (match unName f with | some y => some (y, bs) | none => none) = some (y, as) := h
      cases h2 : unName f with
      | none => rw [h2] at h; cases h
      | some z =>
        rw [h2] at h
        cases h
        obtain ⟨p1, rfl⟩ := unName_ok h2
        exact ⟨p1, p, unCall_ok h1⟩
/-- a call of a method of one argument, on one line -/
def unMeth (e : Expr) : Option (Expr × Str × Expr) := match unCall e with
  | some (f, [b], [], p) => match unAtt f with
    | some (o, n, ap) => if (ap.endLine == p.line) && plainRecv o && notStar b then some (o, n, b) else none
    | none => none
  | _ => none
theorem unMeth_ok {e o b : Expr} {n : Str} (h : unMeth e = some (o, n, b)) : ∃ ap p, e = .Call (.Attribute o n ap) [b] [] p ∧ (ap.endLine == p.line) = true ∧ plainRecv o = true ∧ notStar b = true := by
  unfold unMeth at h
  cases h1 : unCall e with
  | none => rw [h1] at h; cases h
  | some t =>
    obtain ⟨f, bs, ks, p⟩ := t
    rw [h1] at h
    cases bs with
    | nil => cases h
    | cons c bs => cases bs with
      | cons _ _ => cases h
      | nil => cases ks with
        | cons _ _ => cases h
        | nil =>
          have h : (match unAtt f with | some (o, n, ap) => (if (ap.endLine == p.line) && plainRecv o && notStar c then some (o, n, c) else none) | none => none) = some (o, n, b) := h
          cases h2 : unAtt f with
          | none => rw [h2] at h; cases h
          | some t =>
            obtain ⟨o', n', ap⟩ := t
            rw [h2] at h
            have h : (if (ap.endLine == p.line) && plainRecv o' && notStar c then some (o', n', c) else none) = some (o, n, b) := h
            split at h
            · rename_i z
              rw [Bool.and_eq_true, Bool.and_eq_true] at z
              cases h
              have := unAtt_ok h2
              subst this
              exact ⟨ap, p, unCall_ok h1, z.1.1, z.1.2, z.2⟩
            · cases h
/-- the rest of a boolean row -/
def bRest (o : BoolOp) (p : Pos) : List Expr → Expr
  | [x] => x
  | es => .BoolOp o es p

/-! ### the check -/
def isTru : Dp.E → Bool
  | .k (.bl true) => true
  | _ => false
def isInt (i : Int) : Dp.E → Bool
  | .k (.int j) => decide (i = j)
  | _ => false
def esNil : Dp.Es → Bool
  | .nil => true
  | _ => false
def unDict : Expr → Option (List (Option Expr) × List Expr)
  | .Dict ks vs _ => some (ks, vs)
  | _ => none
theorem unDict_ok {e : Expr} {ks : List (Option Expr)} {vs : List Expr} (h : unDict e = some (ks, vs)) : ∃ p, e = .Dict ks vs p := by cases e <;> cases h; exact ⟨_, rfl⟩
def chkK (L : LX) (cal : Bool) (d : Dp.D) (sc : Scope) (e : Expr) : Bool := match d with
  | .fn f => match unName e with
    | some y => cal && decide (L.fnm f = some y) && glB sc y && okName y
    | none => false
  | d => match unConst e with
    | some c => constOf d c
    | none => false
def ownOf (N : List Str) (is : List Nat) : List (Str × Nat) := is.filterMap fun i => (N[i]?).map fun x => (x, i)
mutual
def chkE (L : LX) (N : List Str) (cal : Bool) : Dp.E → Scope → Expr → Bool
  | .v i, sc, e => match unName e with
    | some y => decide (N[i]? = some y) && visB sc y && okName y
    | none => false
  | .bad, sc, e => true
  | .k d, sc, e => chkK L cal d sc e
  | .dct t ks vs, sc, e => match unDict e with
    | some ([], []) => esNil ks && esNil vs
    | some ([some x], [y]) => !t && chkEs L N cal ks sc [x] && chkEs L N cal vs sc [y]
    | _ => false
  | .callv i ks es, sc, e => match unCallN e with
    | some (x, y :: ys) => cal && decide (N[i]? = some x) && visB sc x && okName x && (ks.all fun f => (L.fnm f).isSome && decide (L.fnp f = es.len)) && (y :: ys).all notStar && chkEs L N cal es sc (y :: ys)
    | _ => false
  | .glb i, sc, e => match unName e with
    | some y => decide (L.gnm i = some y) && glB sc y && okName y
    | none => false
  | .bin o a b, sc, e => match unBin e with
    | some (x, op, y) => decide (op = bopOf o) && chkE L N cal a sc x && chkE L N cal b sc y
    | none => false
  | .neg a, sc, e => match unUn e with
    | some (.USub, x) => chkE L N cal a sc x
    | _ => false
  | .nt a, sc, e => match unUn e with
    | some (.Not, x) => chkE L N cal a sc x
    | _ => false
  | .cmp o a b, sc, e => match unCmp e with
    | some (x, [op], [y]) => decide (op = copOf o) && !isSet y && chkE L N cal a sc x && chkE L N cal b sc y
    | _ => false
  | .chn o o' a b c, sc, e => match unCmp e with
    | some (x, [op, op'], [y, z]) => decide (op = copOf o) && decide (op' = copOf o') && !isSet z && chkE L N cal a sc x && chkE L N cal b sc y && chkE L N cal c sc z
    | _ => false
  | .isn n a, sc, e => match unCmp e with
    | some (x, [op], [y]) => decide (op = isOp n) && decide (unConst y = some .none) && chkE L N cal a sc x
    | _ => false
  | .isb n a b, sc, e => match unCmp e with
    | some (x, [op], [y]) => decide (op = isOp n) && decide (unConst y = some (.bool b)) && chkE L N cal a sc x
    | _ => false
  | .and a b, sc, e => match unBool e with
    | some (.And, x :: y :: es, p) => chkE L N cal a sc x && chkE L N cal b sc (bRest .And p (y :: es))
    | _ => false
  | .or a b, sc, e => match unBool e with
    | some (.Or, x :: y :: es, p) => chkE L N cal a sc x && chkE L N cal b sc (bRest .Or p (y :: es))
    | _ => false
  | .ite c a b, sc, e => match unIte e with
    | some (z, x, y) => chkE L N cal c sc z && chkE L N cal a sc x && chkE L N cal b sc y
    | none => false
  | .tup es, sc, e => match unTup e with
    | some xs => chkEs L N cal es sc xs
    | none => false
  | .lst es, sc, e => match unLst e with
    | some xs => chkEs L N cal es sc xs
    | none => false
  | .sub a i, sc, e => match unSub e with
    | some (x, y) => !isSlice y && chkE L N cal a sc x && chkE L N cal i sc y
    | none => false
  | .slc a lo hi, sc, e => match unSub e with
    | some (x, s) => match unSlice s with
      | some (l, u, none) => chkE L N cal a sc x && (match l with
        | none => Dp.isOm lo
        | some l => !Dp.isOm lo && chkE L N cal lo sc l) && (match u with
        | none => Dp.isOm hi
        | some u => !Dp.isOm hi && chkE L N cal hi sc u)
      | _ => false
    | none => false
  | .rev a, sc, e => match unSub e with
    | some (x, s) => match unSlice s with
      | some (none, none, some t) => (match unUn t with
        | some (.USub, w) => decide (unConst w = some (.int 1))
        | _ => false) && chkE L N cal a sc x
      | _ => false
    | none => false
  | .isi a ts, sc, e => match unCallN e with
    | some (y, [x, z]) => decide (y = "isinstance") && glB sc "isinstance" && notStar x && chkE L N cal a sc x && (match ts with
      | [t] => chkTy sc t z
      | _ => match unTup z with
        | some zs => decide (ts.length ≤ 100) && chkTys sc ts zs
        | none => false)
    | _ => false
  | .b1 f a, sc, e => match unCallN e with
    | some (y, [x]) => b1Here f && decide (y = b1N f) && glB sc (b1N f) && cal && notStar x && chkE L N cal a sc x
    | _ => false
  | .b2 f a b, sc, e => match unCallN e with
    | some (y, [x, z]) => decide (y = b2N f) && glB sc (b2N f) && cal && notStar x && notStar z && chkE L N cal a sc x && chkE L N cal b sc z
    | _ => false
  | .m1 m o a, sc, e => match unMeth e with
    | some (x, n, y) => (match m with
      | .join => decide (n = "join")
      | .sindex => decide (n = "index")
      | _ => false) && chkE L N cal o sc x && chkE L N cal a sc y
    | none => false
  | .rl l (.rng a b c), sc, e => match unCallN e with
    | some (y, [x]) => match unCallN x with
      | some (z, [w]) => cal && decide (y = if l then "list" else "tuple") && glB sc (if l then "list" else "tuple") && decide (z = "range") && glB sc "range" && notStar w && isInt 0 a && isInt 1 c && chkE L N cal b sc w
      | _ => false
    | _ => false
  | .mp m i a, sc, e => match unMeth e with
    | some (o, n, y) => (match m with
      | .pop1 => decide (n = "pop")
      | _ => false) && (match unName o with
      | some z => decide (N[i]? = some z) && visB sc z && okName z
      | none => false) && chkE L N cal a sc y
    | none => false
  | .call f es, sc, e => match unCallN e with
    | some (y, x :: xs) => cal && decide (L.fnm f = some y) && glB sc y && okName y && (x :: xs).all notStar && decide (es.len = L.fnp f) && chkEs L N cal es sc (x :: xs)
    | _ => false
  | .callm f i es, sc, e => match unCallN e with
    | some (y, x :: xs) => match unName x with
      | some z => cal && decide (L.fnm f = some y) && glB sc y && okName y && decide (N[i]? = some z) && visB sc z && okName z && xs.all notStar && decide (es.len + 1 = L.fnp f) && chkEs L N cal es sc xs
      | none => false
    | _ => false
  | .tld f b, sc, e => match unCallN e with
    | some (y, [x]) => match unLam x with
      | some (ps, body, scope) => cal && decide (L.tnm f = some y) && glB sc y && okName y && lamOk N sc scope ps && chkE L.bare N true b scope body
      | none => false
    | _ => false
  | .lc is t it c elt, sc, e => match unLc e with
    | some (x, [⟨tg, iter, ifs, 0⟩], scope) => cal && blkC N sc scope (ownOf N is) && decide ((ownOf N is).map (·.2) = is) && !isSet iter && chkG N (lcB sc scope) tg t && (tgIx t).all (fun i => is.contains i) && chkI L N cal it sc tg iter && (match ifs with
      | [] => isTru c
      | [z] => chkE L N cal c (relS scope sc) z
      | _ => false) && chkE L N cal elt (relS scope sc) x
    | _ => false
  | .att a f, sc, e => match unAtt e with
    | some (o, n, _) => decide (L.anm f = some n) && plainRecv o && chkE L N cal a sc o
    | none => false
  | .mk c es, sc, e => match unCallN e with
    | some (y, x :: xs) => cal && decide (L.cnm c = some y) && glB sc y && okName y && (x :: xs).all notStar && decide (es.len + 1 = L.cnp c) && chkEs L N cal es sc (x :: xs)
    | _ => false
  | .lc2 is is2 t it t2 it2 elt, sc, e => match unLc e with
    | some (x, [⟨tg, iter, [], 0⟩, ⟨tg2, iter2, [], 0⟩], scope) => cal && blkC N sc scope (ownOf N is) && decide ((ownOf N is).map (·.2) = is) && !isSet iter && !isSet iter2 && chkG N (lcB sc scope) tg t && chkG N (lcB sc scope) tg2 t2 && (tgIx t).all (fun i => is.contains i) && (tgIx t2).all (fun i => is2.contains i) && is2.all (fun i => is.contains i) &&
      chkI L N cal it sc tg iter && chkI L N cal it2 (relS scope sc) tg2 iter2 && chkE L N cal elt (relS scope sc) x
    | _ => false
  | _, _, _ => false
def chkEs (L : LX) (N : List Str) (cal : Bool) : Dp.Es → Scope → List Expr → Bool
  | .nil, _, [] => true
  | .cons a es, sc, x :: xs => notStar x && chkE L N cal a sc x && chkEs L N cal es sc xs
  | _, _, _ => false
def chkI (L : LX) (N : List Str) (cal : Bool) : Dp.It → Scope → Expr → Expr → Bool
  | .seq a, sc, _, e => chkE L N cal a sc e
  | .rng a b c, sc, _, e => match unCallN e with
    | some (y, [x]) => decide (y = "range") && glB sc "range" && notStar x && isInt 0 a && isInt 1 c && chkE L N cal b sc x
    | some (y, [x, z]) => decide (y = "range") && glB sc "range" && notStar x && notStar z && isInt 1 c && chkE L N cal a sc x && chkE L N cal b sc z
    | some (y, [x, z, w]) => decide (y = "range") && glB sc "range" && notStar x && notStar z && notStar w && chkE L N cal a sc x && chkE L N cal b sc z && chkE L N cal c sc w
    | _ => false
  | .enum a, sc, tg, e => match unCallN e with
    | some (y, [x]) => decide (y = "enumerate") && glB sc "enumerate" && notStar x && (unTup tg).isSome && chkE L N cal a sc x
    | _ => false
  | .zip2 a b, sc, tg, e => match unCallN e with
    | some (y, [x, z]) => decide (y = "zip") && glB sc "zip" && notStar x && notStar z && (unTup tg).isSome && chkE L N cal a sc x && chkE L N cal b sc z
    | _ => false
  | .zip3 a b c, sc, tg, e => match unCallN e with
    | some (y, [x, z, w]) => decide (y = "zip") && glB sc "zip" && notStar x && notStar z && notStar w && (unTup tg).isSome && chkE L N cal a sc x && chkE L N cal b sc z && chkE L N cal c sc w
    | _ => false
  | _, _, _, _ => false
end
end DpS
end

section
set_option Elab.async false
set_option linter.all false
set_option maxRecDepth 100000
set_option maxHeartbeats 4000000
set_option autoImplicit false
/-! DpB16: the check of expressions is sound. -/
namespace DpS
open PySem PySem.Spec L2
section
variable {L : LX} {G : Dp.Gam} {N : List Str} {sc : Scope} {cal : Bool} {e : Expr} {x : Dp.E}
structure SE (L : LX) (G : Dp.Gam) (N : List Str) (sc : Scope) (cal : Bool) (e : Expr) (x : Dp.E) : Prop where
  de : DE L G N sc cal e (Dp.ev G x)
  dt : DT L G N sc cal e (fun δ => Dp.truth (Dp.ev G x δ))
  dw : ∀ op es p, e = .BoolOp op es p → DW L G N sc cal op es p (fun δ => Dp.truth (Dp.ev G x δ))
theorem SE.of (hp : plainTest e = true) (h : DE L G N sc cal e (Dp.ev G x)) : SE L G N sc cal e x := ⟨h, dt_val hp h, fun op es p z => by subst z; cases hp⟩
theorem SE.nb (hp : ∀ op es p, e ≠ .BoolOp op es p) (h : DE L G N sc cal e (Dp.ev G x)) (ht : DT L G N sc cal e (fun δ => Dp.truth (Dp.ev G x δ))) : SE L G N sc cal e x := ⟨h, ht, fun op es p z => absurd z (hp op es p)⟩
/-- is of a written bool -/
theorem isb_key {n b : Bool} {A : Act} {W : WX} {R : RC} {fa : Dp.E} {σ : St} {H : Hp} {Q : VK} (h : tE R A W (Dp.ev G (.isb n fa b)) σ H Q) :
    tOp (fun x y H Q => ∃ a b : Bool, x = .bl a ∧ y = .bl b ∧ Q (.bl ((b == a) == n)) H) (tE R A W (Dp.ev G fa)) (tC (.bl b)) σ H Q := by
  have key : tE R A W (Dp.ev G fa) σ H fun x H1 => ∃ c, x = .bl c ∧ Q (.bl ((b == c) == n)) H1 :=
    truth_val (tP.bind (f := fun δ => Dp.truth (Dp.ev G fa δ)) (g := fun c σ1 => .ok (.val (.bl ((b == c) == n))) σ1) back_E h fun c H1 F1 t δ1 q1 k1 rr1 h1 => by
      cases (show t = c from rr1)
      exact Post.val q1 h1 rfl)
  obtain ⟨F, δ, q, h⟩ := key
  exact ⟨F, δ, q, h.imp fun x H1 ⟨c, e, h⟩ => ⟨c, b, e, rfl, h⟩⟩
theorem de_isb {n b : Bool} {a : Expr} {fa : Dp.E} {j : Nat} {p2 p : Pos} (ha : DE L G N sc cal a (Dp.ev G fa)) : DE L G N sc cal (.Compare a [isOp n] [.Constant (.bool b) j p2] p) (Dp.ev G (.isb n fa b)) := fun A W X xo =>
  (pe_cmpR (by have := isB_const (n := n) (X := X); cases n <;> exact this) (ha A W X xo) pe_bl (mark_no _ rfl)).imp fun σ H Q h => isb_key h
theorem dt_isb {n b : Bool} {a : Expr} {fa : Dp.E} {j : Nat} {p2 p : Pos} (ha : DE L G N sc cal a (Dp.ev G fa)) : DT L G N sc cal (.Compare a [isOp n] [.Constant (.bool b) j p2] p) (fun δ => Dp.truth (Dp.ev G (.isb n fa b) δ)) := fun A W X xo =>
  (pt_cmpR (by have := isB_const (n := n) (X := X); cases n <;> exact this) (ha A W X xo) pe_bl (mark_no _ rfl)).imp fun σ H Q h => isb_key (truth_val h)
/-- a told call -/
theorem de_tld {f : Nat} {y : Str} {ps : Arguments} {body : Expr} {scope : Scope} {p1 p2 p : Pos} {fb : Dp.E} (hc : cal = true) (h1 : L.tnm f = some y) (hg : glB sc y = true) (hk : okName y = true) (h2 : lamOk N sc scope ps = true) (hb : DE L.bare G N scope true body (Dp.ev G fb)) :
    DE L G N sc cal (.Call (.Name y p1) [.Lambda ps body scope p2] [] p) (Dp.ev G (.tld f fb)) := fun A W X xo =>
  xo.told hc N sc W X (SameC.refl X) (by subst hc; exact xo.toXOk0) f y h1 hg hk ps body scope p2 p1 p fb h2 fun A' W' X' xo' => hb A' W' X' xo'.bare
theorem bRest_de {op : BoolOp} {p : Pos} {y : Expr} {es : List Expr} {f : Dp.DSt → Dp.Out Dp.RV} (h : DE L G N sc cal (bRest op p (y :: es)) f) : DE L G N sc cal (.BoolOp op (y :: es) p) f := by
  cases es with
  | nil => exact de_one h
  | cons z zs => exact h
theorem bRest_dw {op : BoolOp} {p : Pos} {y : Expr} {es : List Expr} {fb : Dp.E} (h : SE L G N sc cal (bRest op p (y :: es)) fb) : DW L G N sc cal op (y :: es) p (fun δ => Dp.truth (Dp.ev G fb δ)) := by
  cases es with
  | nil => exact dw_one h.dt
  | cons z zs => exact h.dw _ _ _ rfl
theorem some_of {α : Type} {o : Option α} {f : α → Bool} (h : (match o with | some a => f a | none => false) = true) : ∃ a, o = some a ∧ f a = true := by
  cases o with
  | none => cases h
  | some a => exact ⟨a, rfl, h⟩
theorem bnot {b : Bool} (h : (!b) = true) : b = false := by cases b <;> first | rfl | cases h
theorem dec {p : Prop} [Decidable p] (h : decide p = true) : p := of_decide_eq_true h
end
theorem chkK_ok {L : LX} {G : Dp.Gam} {N : List Str} {cal : Bool} {d : Dp.D} {sc : Scope} {e : Expr} (h : chkK L cal d sc e = true) : SE L G N sc cal e (.k d) := by
  have key : (match unConst e with | some c => constOf d c | none => false) = true → SE L G N sc cal e (.k d) := fun hc => by
    cases h0 : unConst e with
    | none => rw [h0] at hc; cases hc
    | some c =>
      rw [h0] at hc
      have hc : constOf d c = true := hc
      obtain ⟨k, p, rfl⟩ := unConst_ok h0
      exact .of rfl (de_k hc)
  cases d with
  | fn f =>
    have h : (match unName e with | some y => cal && decide (L.fnm f = some y) && glB sc y && okName y | none => false) = true := h
    cases h0 : unName e with
    | none => rw [h0] at h; cases h
    | some y =>
      rw [h0] at h
      obtain ⟨h, h4⟩ := band h
      obtain ⟨h, h3⟩ := band h
      obtain ⟨h1, h2⟩ := band h
      obtain ⟨p, rfl⟩ := unName_ok h0
      exact .of rfl (de_fn h1 (dec h2) h3 h4)
  | _ => exact key h
section
variable {G : Dp.Gam} {N : List Str}
mutual
theorem chkE_ok : ∀ (x : Dp.E) (L : LX) (cal : Bool) (sc : Scope) (e : Expr), chkE L N cal x sc e = true → SE L G N sc cal e x
  | .v i, L, cal, sc, e, h => by
    rw [chkE] at h
    cases h0 : unName e with
    | none => rw [h0] at h; cases h
    | some y =>
      rw [h0] at h
      obtain ⟨h1, h3⟩ := band h
      obtain ⟨h1, h2⟩ := band h1
      obtain ⟨p, rfl⟩ := unName_ok h0
      exact .of rfl (de_v (dec h1) h2 h3)
  | .bad, L, cal, sc, e, h => ⟨de_bad, dt_bad, fun _ _ _ _ => dw_bad⟩
  | .k d, L, cal, sc, e, h => by
    rw [chkE] at h
    exact chkK_ok h
  | .dct t ks vs, L, cal, sc, e, h => by
    rw [chkE] at h
    cases h0 : unDict e with
    | none => rw [h0] at h; cases h
    | some w =>
      obtain ⟨xs, ys⟩ := w
      rw [h0] at h
      obtain ⟨p, rfl⟩ := unDict_ok h0
      match xs, ys, h with
      | [], [], h =>
        obtain ⟨h1, h2⟩ := band h
        cases ks with
        | cons _ _ => cases h1
        | nil => cases vs with
          | cons _ _ => cases h2
          | nil => exact .of rfl de_dct0
      | [some x], [y], h =>
        obtain ⟨h, h3⟩ := band h
        obtain ⟨h1, h2⟩ := band h
        cases t with
        | true => cases h1
        | false =>
          match ks, h2 with
          | .nil, h2 => cases h2
          | .cons a as, h2 =>
            match vs, h3 with
            | .nil, h3 => cases h3
            | .cons b bs, h3 =>
              have k2 : (notStar x && chkE L N cal a sc x && chkEs L N cal as sc []) = true := h2
              have k3 : (notStar y && chkE L N cal b sc y && chkEs L N cal bs sc []) = true := h3
              obtain ⟨k2, k4⟩ := band k2
              obtain ⟨k3, k5⟩ := band k3
              have e1 := (band k2).2
              have e2 := (band k3).2
              cases as with
              | cons _ _ => cases k4
              | nil => cases bs with
                | cons _ _ => cases k5
                | nil => exact .of rfl (de_dct1 (chkE_ok a L cal sc x e1).de (chkE_ok b L cal sc y e2).de)
      | [none], [], h => cases h
      | [none], _ :: _, h => cases h
      | [some _], [], h => cases h
      | [some _], _ :: _ :: _, h => cases h
      | [], _ :: _, h => cases h
      | a :: _ :: _, [], h => cases a <;> cases h
      | a :: _ :: _, _ :: _, h => cases a <;> cases h
  | .callv i ks es, L, cal, sc, e, h => by
    rw [chkE] at h
    cases h0 : unCallN e with
    | none => rw [h0] at h; cases h
    | some w =>
      obtain ⟨x, ys⟩ := w
      rw [h0] at h
      obtain ⟨p1, p, rfl⟩ := unCallN_ok h0
      cases ys with
      | nil => cases h
      | cons y ys =>
        obtain ⟨h, h7⟩ := band h
        obtain ⟨h, h6⟩ := band h
        obtain ⟨h, h5⟩ := band h
        obtain ⟨h, h4⟩ := band h
        obtain ⟨h, h3⟩ := band h
        obtain ⟨h1, h2⟩ := band h
        exact .of rfl (de_callv h1 (dec h2) h3 h4 (fun f hf => by
          obtain ⟨k1, k2⟩ := band (List.all_eq_true.mp h5 f hf)
          exact ⟨Option.isSome_iff_exists.mp k1, dec k2⟩) h6 (chkEs_ok es L cal sc (y :: ys) h7))
  | .glb i, L, cal, sc, e, h => by
    rw [chkE] at h
    cases h0 : unName e with
    | none => rw [h0] at h; cases h
    | some y =>
      rw [h0] at h
      obtain ⟨h1, h3⟩ := band h
      obtain ⟨h1, h2⟩ := band h1
      obtain ⟨p, rfl⟩ := unName_ok h0
      exact .of rfl (de_glb (dec h1) h2 h3)
  | .bin o a b, L, cal, sc, e, h => by
    rw [chkE] at h
    cases h0 : unBin e with
    | none => rw [h0] at h; cases h
    | some t =>
      obtain ⟨x, op, y⟩ := t
      rw [h0] at h
      obtain ⟨h1, h3⟩ := band h
      obtain ⟨h1, h2⟩ := band h1
      obtain ⟨p, rfl⟩ := unBin_ok h0
      have := dec h1
      subst this
      exact .of rfl (de_bin (chkE_ok a L cal sc x h2).de (chkE_ok b L cal sc y h3).de)
  | .neg a, L, cal, sc, e, h => by
    rw [chkE] at h
    cases h0 : unUn e with
    | none => rw [h0] at h; cases h
    | some t =>
      obtain ⟨op, x⟩ := t
      rw [h0] at h
      obtain ⟨p, rfl⟩ := unUn_ok h0
      cases op with
      | USub => exact .of rfl (de_neg (chkE_ok a L cal sc x h).de)
      | _ => cases h
  | .nt a, L, cal, sc, e, h => by
    rw [chkE] at h
    cases h0 : unUn e with
    | none => rw [h0] at h; cases h
    | some t =>
      obtain ⟨op, x⟩ := t
      rw [h0] at h
      obtain ⟨p, rfl⟩ := unUn_ok h0
      cases op with
      | Not =>
        have ih := chkE_ok a L cal sc x h
        exact .nb (fun _ _ _ z => nomatch z) (de_nt ih.de) (dt_nt ih.dt)
      | _ => cases h
  | .cmp o a b, L, cal, sc, e, h => by
    rw [chkE] at h
    cases h0 : unCmp e with
    | none => rw [h0] at h; cases h
    | some t =>
      obtain ⟨x, os, ys⟩ := t
      rw [h0] at h
      obtain ⟨p, rfl⟩ := unCmp_ok h0
      match os, ys, h with
      | [op], [y], h =>
        obtain ⟨h, h4⟩ := band h
        obtain ⟨h, h3⟩ := band h
        obtain ⟨h1, h2⟩ := band h
        have := dec h1
        subst this
        have ia := chkE_ok a L cal sc x h3
        have ib := chkE_ok b L cal sc y h4
        exact .nb (fun _ _ _ z => nomatch z) (de_cmp (bnot h2) ia.de ib.de) (dt_cmp (bnot h2) ia.de ib.de)
      | [], _, h => cases h
      | _ :: _ :: _, _, h => cases h
      | [_], [], h => cases h
      | [_], _ :: _ :: _, h => cases h
  | .chn o o' a b c, L, cal, sc, e, h => by
    rw [chkE] at h
    cases h0 : unCmp e with
    | none => rw [h0] at h; cases h
    | some t =>
      obtain ⟨x, os, ys⟩ := t
      rw [h0] at h
      obtain ⟨p, rfl⟩ := unCmp_ok h0
      match os, ys, h with
      | [op, op'], [y, z], h =>
        obtain ⟨h, h6⟩ := band h
        obtain ⟨h, h5⟩ := band h
        obtain ⟨h, h4⟩ := band h
        obtain ⟨h, h3⟩ := band h
        obtain ⟨h1, h2⟩ := band h
        have := dec h1
        subst this
        have := dec h2
        subst this
        have ia := chkE_ok a L cal sc x h4
        have ib := chkE_ok b L cal sc y h5
        have ic := chkE_ok c L cal sc z h6
        exact .nb (fun _ _ _ z => nomatch z) (de_chn (bnot h3) ia.de ib.de ic.de) (dt_chn (bnot h3) ia.de ib.de ic.de)
      | [], _, h => cases h
      | [_], _, h => cases h
      | _ :: _ :: _ :: _, _, h => cases h
      | [_, _], [], h => cases h
      | [_, _], [_], h => cases h
      | [_, _], _ :: _ :: _ :: _, h => cases h
  | .isn n a, L, cal, sc, e, h => by
    rw [chkE] at h
    cases h0 : unCmp e with
    | none => rw [h0] at h; cases h
    | some t =>
      obtain ⟨x, os, ys⟩ := t
      rw [h0] at h
      obtain ⟨p, rfl⟩ := unCmp_ok h0
      match os, ys, h with
      | [op], [y], h =>
        obtain ⟨h, h3⟩ := band h
        obtain ⟨h1, h2⟩ := band h
        have := dec h1
        subst this
        obtain ⟨k, p2, rfl⟩ := unConst_ok (dec h2)
        have ia := chkE_ok a L cal sc x h3
        exact .nb (fun _ _ _ z => nomatch z) (de_isn ia.de) (dt_isn ia.de)
      | [], _, h => cases h
      | _ :: _ :: _, _, h => cases h
      | [_], [], h => cases h
      | [_], _ :: _ :: _, h => cases h
  | .isb n a b, L, cal, sc, e, h => by
    rw [chkE] at h
    cases h0 : unCmp e with
    | none => rw [h0] at h; cases h
    | some t =>
      obtain ⟨x, os, ys⟩ := t
      rw [h0] at h
      obtain ⟨p, rfl⟩ := unCmp_ok h0
      match os, ys, h with
      | [op], [y], h =>
        obtain ⟨h, h3⟩ := band h
        obtain ⟨h1, h2⟩ := band h
        have := dec h1
        subst this
        obtain ⟨k, p2, rfl⟩ := unConst_ok (dec h2)
        have ia := chkE_ok a L cal sc x h3
        exact .nb (fun _ _ _ z => nomatch z) (de_isb ia.de) (dt_isb ia.de)
      | [], _, h => cases h
      | _ :: _ :: _, _, h => cases h
      | [_], [], h => cases h
      | [_], _ :: _ :: _, h => cases h
  | .and a b, L, cal, sc, e, h => by
    rw [chkE] at h
    cases h0 : unBool e with
    | none => rw [h0] at h; cases h
    | some t =>
      obtain ⟨op, es, p⟩ := t
      rw [h0] at h
      have := unBool_ok h0
      subst this
      match op, es, h with
      | .And, x :: y :: es, h =>
        obtain ⟨h1, h2⟩ := band h
        have ia := chkE_ok a L cal sc x h1
        have ib := chkE_ok b L cal sc _ h2
        have w := dw_and ia.dt (bRest_dw ib)
        exact ⟨de_and ia.de (bRest_de ib.de), fun A W X xo => (w A W X xo).pt, fun op es p z => by cases z; exact w⟩
      | .And, [], h => cases h
      | .And, [_], h => cases h
      | .Or, _, h => cases h
  | .or a b, L, cal, sc, e, h => by
    rw [chkE] at h
    cases h0 : unBool e with
    | none => rw [h0] at h; cases h
    | some t =>
      obtain ⟨op, es, p⟩ := t
      rw [h0] at h
      have := unBool_ok h0
      subst this
      match op, es, h with
      | .Or, x :: y :: es, h =>
        obtain ⟨h1, h2⟩ := band h
        have ia := chkE_ok a L cal sc x h1
        have ib := chkE_ok b L cal sc _ h2
        have w := dw_or ia.dt (bRest_dw ib)
        exact ⟨de_or ia.de (bRest_de ib.de), fun A W X xo => (w A W X xo).pt, fun op es p z => by cases z; exact w⟩
      | .Or, [], h => cases h
      | .Or, [_], h => cases h
      | .And, _, h => cases h
  | .ite c a b, L, cal, sc, e, h => by
    rw [chkE] at h
    cases h0 : unIte e with
    | none => rw [h0] at h; cases h
    | some t =>
      obtain ⟨z, x, y⟩ := t
      rw [h0] at h
      obtain ⟨p, rfl⟩ := unIte_ok h0
      obtain ⟨h, h3⟩ := band h
      obtain ⟨h1, h2⟩ := band h
      have ic := chkE_ok c L cal sc z h1
      have ia := chkE_ok a L cal sc x h2
      have ib := chkE_ok b L cal sc y h3
      exact .nb (fun _ _ _ z => nomatch z) (de_ite ic.dt ia.de ib.de) (dt_ite ic.dt ia.dt ib.dt)
  | .tup es, L, cal, sc, e, h => by
    rw [chkE] at h
    cases h0 : unTup e with
    | none => rw [h0] at h; cases h
    | some xs =>
      rw [h0] at h
      obtain ⟨k, p, rfl⟩ := unTup_ok h0
      exact .of rfl (de_tup (chkEs_ok es L cal sc xs h))
  | .lst es, L, cal, sc, e, h => by
    rw [chkE] at h
    cases h0 : unLst e with
    | none => rw [h0] at h; cases h
    | some xs =>
      rw [h0] at h
      obtain ⟨p, rfl⟩ := unLst_ok h0
      exact .of rfl (de_lst (chkEs_ok es L cal sc xs h))
  | .sub a i, L, cal, sc, e, h => by
    rw [chkE] at h
    cases h0 : unSub e with
    | none => rw [h0] at h; cases h
    | some t =>
      obtain ⟨x, y⟩ := t
      rw [h0] at h
      obtain ⟨p, rfl⟩ := unSub_ok h0
      obtain ⟨h, h3⟩ := band h
      obtain ⟨h1, h2⟩ := band h
      exact .of rfl (de_sub (bnot h1) (chkE_ok a L cal sc x h2).de (chkE_ok i L cal sc y h3).de)
  | .slc a lo hi, L, cal, sc, e, h => by
    rw [chkE] at h
    cases h0 : unSub e with
    | none => rw [h0] at h; cases h
    | some t =>
      obtain ⟨x, s⟩ := t
      rw [h0] at h
      obtain ⟨p, rfl⟩ := unSub_ok h0
      have h : (match unSlice s with
        | some (l, u, none) => chkE L N cal a sc x && (match l with
          | none => Dp.isOm lo
          | some l => !Dp.isOm lo && chkE L N cal lo sc l) && (match u with
          | none => Dp.isOm hi
          | some u => !Dp.isOm hi && chkE L N cal hi sc u)
        | _ => false) = true := h
      cases h1 : unSlice s with
      | none => rw [h1] at h; cases h
      | some t =>
        obtain ⟨l, u, st⟩ := t
        rw [h1] at h
        obtain ⟨p2, rfl⟩ := unSlice_ok h1
        cases st with
        | some _ => cases h
        | none =>
          obtain ⟨h, h4⟩ := band h
          obtain ⟨h2, h3⟩ := band h
          have ol : DO L G N sc cal l (fun δ => Dp.part (Dp.isOm lo) (Dp.ev G lo δ)) := by
            cases l with
            | none =>
              have e0 : lo = .om := by cases lo <;> first | rfl | cases h3
              rw [e0]; exact do_none
            | some l =>
              obtain ⟨z1, z2⟩ := band h3
              rw [bnot z1]
              exact do_some (chkE_ok lo L cal sc l z2).de
          have oh : DO L G N sc cal u (fun δ => Dp.part (Dp.isOm hi) (Dp.ev G hi δ)) := by
            cases u with
            | none =>
              have e0 : hi = .om := by cases hi <;> first | rfl | cases h4
              rw [e0]; exact do_none
            | some u =>
              obtain ⟨z1, z2⟩ := band h4
              rw [bnot z1]
              exact do_some (chkE_ok hi L cal sc u z2).de
          exact .of rfl (de_slc (chkE_ok a L cal sc x h2).de ol oh)
  | .rev a, L, cal, sc, e, h => by
    rw [chkE] at h
    cases h0 : unSub e with
    | none => rw [h0] at h; cases h
    | some t =>
      obtain ⟨x, s⟩ := t
      rw [h0] at h
      obtain ⟨p, rfl⟩ := unSub_ok h0
      have h : (match unSlice s with
        | some (none, none, some t) => (match unUn t with
          | some (.USub, w) => decide (unConst w = some (.int 1))
          | _ => false) && chkE L N cal a sc x
        | _ => false) = true := h
      cases h1 : unSlice s with
      | none => rw [h1] at h; cases h
      | some t =>
        obtain ⟨l, u, st⟩ := t
        rw [h1] at h
        obtain ⟨p2, rfl⟩ := unSlice_ok h1
        cases l with
        | some _ => cases h
        | none => cases u with
          | some _ => cases h
          | none => cases st with
            | none => cases h
            | some t =>
              obtain ⟨h2, h3⟩ := band h
              cases h4 : unUn t with
              | none => rw [h4] at h2; cases h2
              | some w =>
                obtain ⟨op, w⟩ := w
                rw [h4] at h2
                obtain ⟨p3, rfl⟩ := unUn_ok h4
                cases op with
                | USub =>
                  obtain ⟨k, p4, rfl⟩ := unConst_ok (dec h2)
                  exact .of rfl (de_rev (chkE_ok a L cal sc x h3).de)
                | _ => cases h2
  | .isi a ts, L, cal, sc, e, h => by
    rw [chkE] at h
    cases h0 : unCallN e with
    | none => rw [h0] at h; cases h
    | some t =>
      obtain ⟨y, as⟩ := t
      rw [h0] at h
      obtain ⟨p1, p, rfl⟩ := unCallN_ok h0
      match as, h with
      | [x, z], h =>
        obtain ⟨h, h5⟩ := band h
        obtain ⟨h, h4⟩ := band h
        obtain ⟨h, h3⟩ := band h
        obtain ⟨h1, h2⟩ := band h
        have := dec h1
        subst this
        have ia := (chkE_ok a L cal sc x h4).de
        have tup : ∀ ts, (match unTup z with
          | some zs => decide (ts.length ≤ 100) && chkTys sc ts zs
          | none => false) = true → DE L G N sc cal (.Call (.Name "isinstance" p1) [x, z] [] p) (Dp.ev G (.isi a ts)) := fun ts hz => by
          cases h6 : unTup z with
          | none => rw [h6] at hz; cases hz
          | some zs =>
            rw [h6] at hz
            have hz : (decide (ts.length ≤ 100) && chkTys sc ts zs) = true := hz
            obtain ⟨z1, z2⟩ := band hz
            obtain ⟨k, p2, e9⟩ := unTup_ok h6
            rw [e9]
            exact de_isiT h2 h3 (dec z1) ia z2
        match ts, h5 with
        | [t], h5 => exact .of rfl (de_isi1 h2 h3 ia h5)
        | [], h5 => exact .of rfl (tup _ h5)
        | _ :: _ :: _, h5 => exact .of rfl (tup _ h5)
      | [], h => cases h
      | [_], h => cases h
      | _ :: _ :: _ :: _, h => cases h
  | .b1 f a, L, cal, sc, e, h => by
    rw [chkE] at h
    cases h0 : unCallN e with
    | none => rw [h0] at h; cases h
    | some t =>
      obtain ⟨y, as⟩ := t
      rw [h0] at h
      obtain ⟨p1, p, rfl⟩ := unCallN_ok h0
      match as, h with
      | [x], h =>
        obtain ⟨h, h6⟩ := band h
        obtain ⟨h, h5⟩ := band h
        obtain ⟨h, h4⟩ := band h
        obtain ⟨h, h3⟩ := band h
        obtain ⟨h1, h2⟩ := band h
        have := dec h2
        subst this
        exact .of rfl (de_b1 h1 h3 h4 h5 (chkE_ok a L cal sc x h6).de)
      | [], h => cases h
      | _ :: _ :: _, h => cases h
  | .b2 f a b, L, cal, sc, e, h => by
    rw [chkE] at h
    cases h0 : unCallN e with
    | none => rw [h0] at h; cases h
    | some t =>
      obtain ⟨y, as⟩ := t
      rw [h0] at h
      obtain ⟨p1, p, rfl⟩ := unCallN_ok h0
      match as, h with
      | [x, z], h =>
        obtain ⟨h, h7⟩ := band h
        obtain ⟨h, h6⟩ := band h
        obtain ⟨h, h5⟩ := band h
        obtain ⟨h, h4⟩ := band h
        obtain ⟨h, h3⟩ := band h
        obtain ⟨h1, h2⟩ := band h
        have := dec h1
        subst this
        exact .of rfl (de_b2 h2 h3 h4 h5 (chkE_ok a L cal sc x h6).de (chkE_ok b L cal sc z h7).de)
      | [], h => cases h
      | [_], h => cases h
      | _ :: _ :: _ :: _, h => cases h
  | .m1 m o a, L, cal, sc, e, h => by
    rw [chkE] at h
    cases h0 : unMeth e with
    | none => rw [h0] at h; cases h
    | some t =>
      obtain ⟨x, n, y⟩ := t
      rw [h0] at h
      obtain ⟨ap, p, rfl, g1, g2, g3⟩ := unMeth_ok h0
      obtain ⟨h, h3⟩ := band h
      obtain ⟨h1, h2⟩ := band h
      have io := (chkE_ok o L cal sc x h2).de
      have ia := (chkE_ok a L cal sc y h3).de
      cases m with
      | join =>
        have := dec h1
        subst this
        exact .of rfl (de_join g2 g3 g1 io ia)
      | sindex =>
        have := dec h1
        subst this
        exact .of rfl (de_sindex g2 g3 g1 io ia)
      | tcount => cases h1
  | .call f es, L, cal, sc, e, h => by
    rw [chkE] at h
    cases h0 : unCallN e with
    | none => rw [h0] at h; cases h
    | some t =>
      obtain ⟨y, as⟩ := t
      rw [h0] at h
      obtain ⟨p1, p, rfl⟩ := unCallN_ok h0
      match as, h with
      | x :: xs, h =>
        obtain ⟨h, h7⟩ := band h
        obtain ⟨h, h6⟩ := band h
        obtain ⟨h, h5⟩ := band h
        obtain ⟨h, h4⟩ := band h
        obtain ⟨h, h3⟩ := band h
        obtain ⟨h1, h2⟩ := band h
        exact .of rfl (de_call h1 (dec h2) h3 h4 h5 (dec h6) (chkEs_ok es L cal sc (x :: xs) h7))
      | [], h => cases h
  | .callm f i es, L, cal, sc, e, h => by
    rw [chkE] at h
    cases h0 : unCallN e with
    | none => rw [h0] at h; cases h
    | some t =>
      obtain ⟨y, as⟩ := t
      rw [h0] at h
      obtain ⟨p1, p, rfl⟩ := unCallN_ok h0
      match as, h with
      | x :: xs, h =>
        have h : (match unName x with
          | some z => cal && decide (L.fnm f = some y) && glB sc y && okName y && decide (N[i]? = some z) && visB sc z && okName z && xs.all notStar && decide (es.len + 1 = L.fnp f) && chkEs L N cal es sc xs
          | none => false) = true := h
        cases h9 : unName x with
        | none => rw [h9] at h; cases h
        | some z =>
          rw [h9] at h
          obtain ⟨p2, rfl⟩ := unName_ok h9
          obtain ⟨h, g10⟩ := band h
          obtain ⟨h, g9⟩ := band h
          obtain ⟨h, g8⟩ := band h
          obtain ⟨h, g7⟩ := band h
          obtain ⟨h, g6⟩ := band h
          obtain ⟨h, g5⟩ := band h
          obtain ⟨h, g4⟩ := band h
          obtain ⟨h, g3⟩ := band h
          obtain ⟨g1, g2⟩ := band h
          exact .of rfl (de_callm g1 (dec g2) g3 g4 (dec g5) g6 g7 g8 (dec g9) (chkEs_ok es L cal sc xs g10))
      | [], h => cases h
  | .tld f b, L, cal, sc, e, h => by
    rw [chkE] at h
    cases h0 : unCallN e with
    | none => rw [h0] at h; cases h
    | some t =>
      obtain ⟨y, as⟩ := t
      rw [h0] at h
      obtain ⟨p1, p, rfl⟩ := unCallN_ok h0
      match as, h with
      | [x], h =>
        have h : (match unLam x with
          | some (ps, body, scope) => cal && decide (L.tnm f = some y) && glB sc y && okName y && lamOk N sc scope ps && chkE L.bare N true b scope body
          | none => false) = true := h
        cases h1 : unLam x with
        | none => rw [h1] at h; cases h
        | some t =>
          obtain ⟨ps, body, scope⟩ := t
          rw [h1] at h
          obtain ⟨p2, rfl⟩ := unLam_ok h1
          obtain ⟨h, g6⟩ := band h
          obtain ⟨h, g5⟩ := band h
          obtain ⟨h, g4⟩ := band h
          obtain ⟨h, g3⟩ := band h
          obtain ⟨g1, g2⟩ := band h
          exact .of rfl (de_tld g1 (dec g2) g3 g4 g5 (chkE_ok b L.bare true scope body g6).de)
      | [], h => cases h
      | _ :: _ :: _, h => cases h
  | .lc is t it c elt, L, cal, sc, e, h => by
    rw [chkE] at h
    cases h0 : unLc e with
    | none => rw [h0] at h; cases h
    | some t =>
      obtain ⟨x, gs, scope⟩ := t
      rw [h0] at h
      obtain ⟨p, rfl⟩ := unLc_ok h0
      match gs, h with
      | [⟨tg, iter, ifs, 0⟩], h =>
        obtain ⟨h, g9⟩ := band h
        obtain ⟨h, g8⟩ := band h
        obtain ⟨h, g7⟩ := band h
        obtain ⟨h, g6⟩ := band h
        obtain ⟨h, g5⟩ := band h
        obtain ⟨h, g4⟩ := band h
        obtain ⟨h, g3⟩ := band h
        obtain ⟨g1, g2⟩ := band h
        have e0 := dec g3
        have key := de_lc (G := G) (ifs := ifs) (own := ownOf N is) (p := p) (t := t) (it := it) (fc := c) (fe := elt) g1 g2 (bnot g4) g5 (fun i hi => by rw [e0]; exact List.contains_iff_mem.mp (List.all_eq_true.mp g6 i hi)) (chkI_ok it L cal sc tg iter g7)
          (by
            match ifs, g8 with
            | [], g8 =>
              refine .inl ⟨rfl, fun τ => ?_⟩
              cases c with
              | k d => cases d with
                | bl b => cases b with
                  | true => rfl
                  | false => cases g8
                | _ => cases g8
              | _ => cases g8
            | [z], g8 => exact .inr ⟨z, rfl, (chkE_ok c L cal (relS scope sc) z g8).dt⟩
            | _ :: _ :: _, g8 => cases g8) (chkE_ok elt L cal (relS scope sc) x g9).de
        rw [e0] at key
        exact .of rfl key
  | .om, L, cal, sc, e, h => by cases h
  | .rl _ (.seq _), L, cal, sc, e, h => by cases h
  | .rl _ (.enum _), L, cal, sc, e, h => by cases h
  | .rl _ (.zip2 _ _), L, cal, sc, e, h => by cases h
  | .rl _ (.zip3 _ _ _), L, cal, sc, e, h => by cases h
  | .rl _ (.items _), L, cal, sc, e, h => by cases h
  | .rl l (.rng a b c), L, cal, sc, e, h => by
    rw [chkE] at h
    split at h
    · rename_i y x h0
      split at h
      · rename_i z w h1
        obtain ⟨h, g9⟩ := band h
        obtain ⟨h, g8⟩ := band h
        obtain ⟨h, g7⟩ := band h
        obtain ⟨h, g6⟩ := band h
        obtain ⟨h, g5⟩ := band h
        obtain ⟨h, g4⟩ := band h
        obtain ⟨h, g3⟩ := band h
        obtain ⟨g1, g2⟩ := band h
        have e2 := dec g2
        have e4 := dec g4
        subst e2 e4
        obtain ⟨q1, q2, rfl⟩ := unCallN_ok h1
        obtain ⟨q3, q4, rfl⟩ := unCallN_ok h0
        have int : ∀ {i : Int} {a : Dp.E}, isInt i a = true → a = .k (.int i) := fun {i a} h => by
          cases a with
          | k d => cases d with
            | int j => rw [dec (show decide (i = j) = true from h)]
            | _ => cases h
          | _ => cases h
        rw [int g7, int g8]
        have ib := (chkE_ok b L cal sc w g9).de
        cases l with
        | true => exact .of rfl (de_rl1 (l := true) g1 g3 g5 g6 ib)
        | false => exact .of rfl (de_rl1 (l := false) g1 g3 g5 g6 ib)
      · cases h
    · cases h
  | .m2 _ _ _ _, L, cal, sc, e, h => by cases h
  | .mp m i a, L, cal, sc, e, h => by
    rw [chkE] at h
    cases h0 : unMeth e with
    | none => rw [h0] at h; cases h
    | some t =>
      obtain ⟨x, n, y⟩ := t
      rw [h0] at h
      obtain ⟨ap, p, rfl, g1, g2, g3⟩ := unMeth_ok h0
      obtain ⟨h, h3⟩ := band h
      obtain ⟨h1, h2⟩ := band h
      have ia := (chkE_ok a L cal sc y h3).de
      cases m with
      | pop1 =>
        have := dec h1
        subst this
        split at h2
        · rename_i z hz
          obtain ⟨h2, k3⟩ := band h2
          obtain ⟨k1, k2⟩ := band h2
          obtain ⟨p1, rfl⟩ := unName_ok hz
          exact .of rfl (de_popAt (dec k1) k2 k3 g3 g1 ia)
        · cases h2
      | _ => cases h1
  | .att a f, L, cal, sc, e, h => by
    rw [chkE] at h
    cases h0 : unAtt e with
    | none => rw [h0] at h; cases h
    | some t =>
      obtain ⟨o, n, p⟩ := t
      rw [h0] at h
      have e0 := unAtt_ok h0
      subst e0
      obtain ⟨h, h3⟩ := band h
      obtain ⟨h1, h2⟩ := band h
      exact .of rfl (de_att (dec h1) h2 (chkE_ok a L cal sc o h3).de)
  | .mk c es, L, cal, sc, e, h => by
    rw [chkE] at h
    cases h0 : unCallN e with
    | none => rw [h0] at h; cases h
    | some t =>
      obtain ⟨y, as⟩ := t
      rw [h0] at h
      obtain ⟨p1, p, rfl⟩ := unCallN_ok h0
      match as, h with
      | x :: xs, h =>
        obtain ⟨h, h7⟩ := band h
        obtain ⟨h, h6⟩ := band h
        obtain ⟨h, h5⟩ := band h
        obtain ⟨h, h4⟩ := band h
        obtain ⟨h, h3⟩ := band h
        obtain ⟨h1, h2⟩ := band h
        exact .of rfl (de_mk h1 (dec h2) h3 h4 h5 (dec h6) (chkEs_ok es L cal sc (x :: xs) h7))
      | [], h => cases h
  | .lc2 is is2 t it t2 it2 elt, L, cal, sc, e, h => by
    rw [chkE] at h
    cases h0 : unLc e with
    | none => rw [h0] at h; cases h
    | some tt =>
      obtain ⟨x, gs, scope⟩ := tt
      rw [h0] at h
      obtain ⟨p, rfl⟩ := unLc_ok h0
      match gs, h with
      | [⟨tg, iter, [], 0⟩, ⟨tg2, iter2, [], 0⟩], h =>
        obtain ⟨h, g13⟩ := band h
        obtain ⟨h, g12⟩ := band h
        obtain ⟨h, g11⟩ := band h
        obtain ⟨h, g10⟩ := band h
        obtain ⟨h, g9⟩ := band h
        obtain ⟨h, g8⟩ := band h
        obtain ⟨h, g7⟩ := band h
        obtain ⟨h, g6⟩ := band h
        obtain ⟨h, g5⟩ := band h
        obtain ⟨h, g4⟩ := band h
        obtain ⟨h, g3⟩ := band h
        obtain ⟨g1, g2⟩ := band h
        have e0 := dec g3
        have key := de_lc2 (G := G) (own := ownOf N is) (own2 := is2) (p := p) (t := t) (t2 := t2) (it := it) (it2 := it2) (fe := elt) g1 g2 (bnot g4) (bnot g5) g6 g7 (fun i hi => by rw [e0]; exact List.contains_iff_mem.mp (List.all_eq_true.mp g8 i hi)) (fun i hi => List.contains_iff_mem.mp (List.all_eq_true.mp g9 i hi))
          (fun i hi => by rw [e0]; exact List.contains_iff_mem.mp (List.all_eq_true.mp g10 i hi)) (chkI_ok it L cal sc tg iter g11) (chkI_ok it2 L cal (relS scope sc) tg2 iter2 g12) (chkE_ok elt L cal (relS scope sc) x g13).de
        rw [e0] at key
        exact .of rfl key
  | .dc _ _ _ _ _ _ _, L, cal, sc, e, h => by cases h
theorem chkEs_ok : ∀ (x : Dp.Es) (L : LX) (cal : Bool) (sc : Scope) (es : List Expr), chkEs L N cal x sc es = true → DA L G N sc cal es (Dp.evs G x)
  | .nil, L, cal, sc, es, h => by
    cases es with
    | nil => exact da_nil
    | cons _ _ => cases h
  | .cons a as, L, cal, sc, es, h => by
    cases es with
    | nil => cases h
    | cons x xs =>
      obtain ⟨h, h3⟩ := band h
      obtain ⟨h1, h2⟩ := band h
      exact da_cons h1 (chkE_ok a L cal sc x h2).de (chkEs_ok as L cal sc xs h3)
theorem chkI_ok : ∀ (x : Dp.It) (L : LX) (cal : Bool) (sc : Scope) (tg e : Expr), chkI L N cal x sc tg e = true → DI L G N sc cal tg e (Dp.evi G x)
  | .seq a, L, cal, sc, tg, e, h => di_seq (chkE_ok a L cal sc e h).de
  | .rng a b c, L, cal, sc, tg, e, h => by
    rw [chkI] at h
    cases h0 : unCallN e with
    | none => rw [h0] at h; cases h
    | some t =>
      obtain ⟨y, as⟩ := t
      rw [h0] at h
      obtain ⟨p1, p, rfl⟩ := unCallN_ok h0
      have int : ∀ {i : Int} {a : Dp.E}, isInt i a = true → a = .k (.int i) := fun {i a} h => by
        cases a with
        | k d => cases d with
          | int j => rw [dec (show decide (i = j) = true from h)]
          | _ => cases h
        | _ => cases h
      match as, h with
      | [x], h =>
        obtain ⟨h, h6⟩ := band h
        obtain ⟨h, h5⟩ := band h
        obtain ⟨h, h4⟩ := band h
        obtain ⟨h, h3⟩ := band h
        obtain ⟨h1, h2⟩ := band h
        have := dec h1
        subst this
        rw [int h4, int h5]
        exact di_rng1 (k1 := .non) (k2 := .non) h2 h3 (chkE_ok b L cal sc x h6).de
      | [x, z], h =>
        obtain ⟨h, h7⟩ := band h
        obtain ⟨h, h6⟩ := band h
        obtain ⟨h, h5⟩ := band h
        obtain ⟨h, h4⟩ := band h
        obtain ⟨h, h3⟩ := band h
        obtain ⟨h1, h2⟩ := band h
        have := dec h1
        subst this
        rw [int h5]
        exact di_rng2 h2 h3 h4 (chkE_ok a L cal sc x h6).de (chkE_ok b L cal sc z h7).de
      | [x, z, w], h =>
        obtain ⟨h, h8⟩ := band h
        obtain ⟨h, h7⟩ := band h
        obtain ⟨h, h6⟩ := band h
        obtain ⟨h, h5⟩ := band h
        obtain ⟨h, h4⟩ := band h
        obtain ⟨h, h3⟩ := band h
        obtain ⟨h1, h2⟩ := band h
        have := dec h1
        subst this
        exact di_rng3 h2 h3 h4 h5 (chkE_ok a L cal sc x h6).de (chkE_ok b L cal sc z h7).de (chkE_ok c L cal sc w h8).de
      | [], h => cases h
      | _ :: _ :: _ :: _ :: _, h => cases h
  | .enum a, L, cal, sc, tg, e, h => by
    rw [chkI] at h
    cases h0 : unCallN e with
    | none => rw [h0] at h; cases h
    | some t =>
      obtain ⟨y, as⟩ := t
      rw [h0] at h
      obtain ⟨p1, p, rfl⟩ := unCallN_ok h0
      match as, h with
      | [x], h =>
        obtain ⟨h, h5⟩ := band h
        obtain ⟨h, h4⟩ := band h
        obtain ⟨h, h3⟩ := band h
        obtain ⟨h1, h2⟩ := band h
        have := dec h1
        subst this
        obtain ⟨es, he⟩ := Option.isSome_iff_exists.mp h4
        obtain ⟨k, p3, rfl⟩ := unTup_ok he
        exact di_enum h2 h3 (chkE_ok a L cal sc x h5).de
      | [], h => cases h
      | _ :: _ :: _, h => cases h
  | .zip2 a b, L, cal, sc, tg, e, h => by
    rw [chkI] at h
    cases h0 : unCallN e with
    | none => rw [h0] at h; cases h
    | some t =>
      obtain ⟨y, as⟩ := t
      rw [h0] at h
      obtain ⟨p1, p, rfl⟩ := unCallN_ok h0
      match as, h with
      | [x, z], h =>
        obtain ⟨h, h7⟩ := band h
        obtain ⟨h, h6⟩ := band h
        obtain ⟨h, h5⟩ := band h
        obtain ⟨h, h4⟩ := band h
        obtain ⟨h, h3⟩ := band h
        obtain ⟨h1, h2⟩ := band h
        have := dec h1
        subst this
        obtain ⟨es, he⟩ := Option.isSome_iff_exists.mp h5
        obtain ⟨k, p3, rfl⟩ := unTup_ok he
        exact di_zip h2 h3 h4 (chkE_ok a L cal sc x h6).de (chkE_ok b L cal sc z h7).de
      | [], h => cases h
      | [_], h => cases h
      | _ :: _ :: _ :: _, h => cases h
  | .zip3 a b c, L, cal, sc, tg, e, h => by
    rw [chkI] at h
    cases h0 : unCallN e with
    | none => rw [h0] at h; cases h
    | some t =>
      obtain ⟨y, as⟩ := t
      rw [h0] at h
      obtain ⟨p1, p, rfl⟩ := unCallN_ok h0
      match as, h with
      | [x, z, w], h =>
        obtain ⟨h, h9⟩ := band h
        obtain ⟨h, h8⟩ := band h
        obtain ⟨h, h7⟩ := band h
        obtain ⟨h, h6⟩ := band h
        obtain ⟨h, h5⟩ := band h
        obtain ⟨h, h4⟩ := band h
        obtain ⟨h, h3⟩ := band h
        obtain ⟨h1, h2⟩ := band h
        have := dec h1
        subst this
        obtain ⟨es, he⟩ := Option.isSome_iff_exists.mp h6
        obtain ⟨k, p3, rfl⟩ := unTup_ok he
        exact di_zip3 h2 h3 h4 h5 (chkE_ok a L cal sc x h7).de (chkE_ok b L cal sc z h8).de (chkE_ok c L cal sc w h9).de
      | [], h => cases h
      | [_], h => cases h
      | [_, _], h => cases h
      | _ :: _ :: _ :: _ :: _, h => cases h
  | .items _, L, cal, sc, tg, e, h => by cases h
end
end
end DpS
end

section
set_option Elab.async false
set_option linter.all false
set_option maxRecDepth 100000
set_option maxHeartbeats 4000000
set_option autoImplicit false
/-! DpB17: statements. -/
namespace DpS
open PySem PySem.Spec L2

/-- what is wanted of the outcome of a statement -/
def PostS (R : RC) (A : Act) (W : WX) (σ : St) (H F : Hp) (δ : Dp.DSt) (out : Dp.Out Dp.Flow) (D : Ends) : Prop :=
  match out with
  | .ok .nx δ' => ∀ σ' H' F', DRel R A σ' H' F' δ' → StpS A σ H F δ σ' H' F' δ' → D.nx σ' H'
  | .ok .bk δ' => ∀ σ' H' F', DRel R A σ' H' F' δ' → StpS A σ H F δ σ' H' F' δ' → D.bk σ' H'
  | .ok .ct δ' => ∀ σ' H' F', DRel R A σ' H' F' δ' → StpS A σ H F δ σ' H' F' δ' → D.ct σ' H'
  | .ok (.rt r) δ' => ∀ v σ' H' F', DRel R A σ' H' F' δ' → StpS A σ H F δ σ' H' F' δ' → RelRV R A σ' H H' F' δ' v r → D.rt v H'
  | .exc x δ' => ∀ σ' H' F' c dx, DRel R A σ' H' F' δ' → StpS A σ H F δ σ' H' F' δ' → XRel R x c dx H' F' → W c dx σ' H'
  | .stuck => False
def tS (R : RC) (A : Act) (W : WX) (f : Dp.DSt → Dp.Out Dp.Flow) : TS := fun D σ H => ∃ F δ, DRel R A σ H F δ ∧ PostS R A W σ H F δ (f δ) D
section
variable {R : RC} {A : Act} {W : WX} {α β : Type} {σ σ1 : St} {H H1 F F1 : Hp} {δ δ1 : Dp.DSt} {D : Ends} {out : Dp.Out Dp.Flow}
theorem PostS.rebase (s : StpS A σ H F δ σ1 H1 F1 δ1) (h : PostS R A W σ H F δ out D) : PostS R A W σ1 H1 F1 δ1 out D := by
  cases out with
  | stuck => exact h
  | exc x δ' => exact fun σ' H' F' c dx q st xr => h σ' H' F' c dx q (s.trans st) xr
  | ok f δ' => cases f with
    | nx => exact fun σ' H' F' q st => h σ' H' F' q (s.trans st)
    | bk => exact fun σ' H' F' q st => h σ' H' F' q (s.trans st)
    | ct => exact fun σ' H' F' q st => h σ' H' F' q (s.trans st)
    | rt r => exact fun v σ' H' F' q st rr => h v σ' H' F' q (s.trans st) (rr.back fun _ n => s.nt n)
theorem PostS.tS {f : Dp.DSt → Dp.Out Dp.Flow} (q : DRel R A σ H F δ) (h : PostS R A W σ H F δ (f δ) D) : DpS.tS R A W f D σ H := ⟨F, δ, q, h⟩
/-- one statement, then the rest -/
theorem PostS.seq {k : Dp.DSt → Dp.Out Dp.Flow} (h : PostS R A W σ H F δ (Dp.seqS out k) D) : PostS R A W σ H F δ out { D with nx := DpS.tS R A W k D } := by
  cases out with
  | stuck => exact h
  | exc x δ' => exact h
  | ok f δ' => cases f with
    | nx => exact fun σ' H' F' q st => ⟨F', δ', q, PostS.rebase st h⟩
    | bk => exact h
    | ct => exact h
    | rt r => exact h
/-- an evaluation, then the end -/
theorem PostS.bind {Rl : St → Hp → Hp → Hp → Dp.DSt → α → β → Prop} {o : Dp.Out α} {g : α → Dp.DSt → Dp.Out Dp.Flow} {Q1 : β → Hp → Prop} (h : PostS R A W σ H F δ (o.bind g) D)
    (k : ∀ b H1 F1 a δ1, o = .ok a δ1 → DRel R A σ H1 F1 δ1 → Stp A σ H F δ H1 F1 δ1 → Rl σ H H1 F1 δ1 a b → PostS R A W σ H1 F1 δ1 (g a δ1) D → Q1 b H1) : Post R A W Rl σ H F δ o Q1 := by
  cases o with
  | stuck => exact h
  | exc x δ' => exact fun H' F' c dx q st xr => h σ H' F' c dx q st.toS xr
  | ok a δ' => exact fun b H' F' q st rl => k b H' F' a δ' rfl q st rl (PostS.rebase st.toS h)
theorem tS.bind {Rl : St → Hp → Hp → Hp → Dp.DSt → α → β → Prop} {f : Dp.DSt → Dp.Out α} {g : α → Dp.DSt → Dp.Out Dp.Flow} {Q1 : β → Hp → Prop} (h : DpS.tS R A W (fun δ => (f δ).bind g) D σ H)
    (k : ∀ b H1 F1 a δ1, DRel R A σ H1 F1 δ1 → (∀ x, Nt H1 x → Nt H x) → Rl σ H H1 F1 δ1 a b → PostS R A W σ H1 F1 δ1 (g a δ1) D → Q1 b H1) : tP R A W Rl f σ H Q1 := by
  obtain ⟨F, δ, q, h⟩ := h
  exact ⟨F, δ, q, h.bind fun b H1 F1 a δ1 _ q1 st rl p => k b H1 F1 a δ1 q1 (fun _ n => st.nt n) rl p⟩
/-- x = a value -/
theorem PostS.set {i : Nat} {o : Dp.Out Dp.RV} (q : DRel R A σ H F δ) (h : PostS R A W σ H F δ (o.bind fun r σ1 => Dp.storeS (Dp.store i r σ1)) D) : Post R A W (RlE R A) σ H F δ o fun v H1 => D.nx (σ.set i (some v)) H1 := by
  cases o with
  | stuck => exact h
  | exc x δ' => exact fun H' F' c dx q st xr => h σ H' F' c dx q st.toS xr
  | ok r δ' =>
    intro v H' F' q' st rr
    have h : PostS R A W σ H F δ (Dp.storeS (Dp.store i r δ')) D := h
    cases e : Dp.store i r δ' with
    | none => rw [e] at h; exact h.elim
    | some δ2 =>
      rw [e] at h
      obtain ⟨F1, q1, sub, new, own⟩ := store_rel q' rr (fun a n => q.ntA n) (fun a n => st.nt n) e
      refine h _ H' F1 q1 ⟨st.keep, st.there, st.more.trans sub, fun a o ha => ?_, fun a ha => ?_⟩
      · rcases new a o ha with z | z | z
        · exact st.new a o z
        · exact .inr (.inl z)
        · exact .inr (.inr (st.ownS z))
      · rcases own a ha with z | z
        · exact .inl (st.ownS z)
        · exact .inr z
theorem PostS.ret {o : Dp.Out Dp.RV} (h : PostS R A W σ H F δ (o.bind fun r σ1 => .ok (.rt r) σ1) D) : Post R A W (RlE R A) σ H F δ o D.rt := by
  cases o with
  | stuck => exact h
  | exc x δ' => exact fun H' F' c dx q st xr => h σ H' F' c dx q st.toS xr
  | ok r δ' => exact fun v H' F' q st rr => h v σ H' F' q st.toS rr
/-- the target stored, at the end -/
theorem PostS.asg {t : Dp.Tg} {d : Dp.D} {v : V} (q : DRel R A σ H F δ) (rd : Rep R F d v) (h : PostS R A W σ H F δ (Dp.storeS (Dp.asg t d δ)) D) : tG R A (tgIx t) (Dp.asg t) v σ H D.nx := by
  cases e : Dp.asg t d δ with
  | none => rw [e] at h; exact h.elim
  | some δ' =>
    rw [e] at h
    exact ⟨F, δ, d, δ', q, rd, e, fun σ' as => h σ' H F as.rel (StpS.slots as.own)⟩
/-- an object changed in its place -/
theorem DRel.change {i : Nat} {o o' : Dp.Ob} {ad : Addr} {u : HO} (q : DRel R A σ H F δ) (hs : Dp.slotOb δ i = some o) (hv : σ[i]? = some (some (.ref ad))) (hF : F ad = none) (ob0 : ObAt R H F ad o) (nx : ∀ w p, H ad = some w → w ≠ .ext p) (ob : ObAt R (upd H ad u) F ad o') (nt : ¬ Tb u) :
    DRel R A σ (upd H ad u) F (Dp.putOb δ i o') ∧ Stp A σ H F δ (upd H ad u) F (Dp.putOb δ i o') := by
  obtain ⟨w, hw, tw⟩ := ob0.there
  have cs : CStep A.T (some ad) H F (upd H ad u) F := ⟨fun b x h1 _ ne => by rw [upd_ne fun z => ne (by rw [z])]; exact h1, fun b hb n => by
    by_cases e : b = ad
    · subst e; exact nt (n u upd_same)
    · exact hb fun x hx => n x (by rw [upd_ne e]; exact hx), Sub.refl _, fun _ _ h => .inl h, fun b x h1 => by
      have ne : b ≠ ad := fun z => by rw [z, hF] at h1; cases h1
      rw [upd_ne ne]; exact q.sub b x h1, q.ntb, tabs_upd q.tab hw tw fun p => nx w p hw⟩
  exact cs.put rfl q hs hv hF ob
end

/-! ### what a def's body knows -/
def RaisOk (L : LX) (G : Dp.Gam) (N : List Str) (sc : Scope) (A : Act) (W : WX) (X : Cx) : Prop :=
  ∀ c x, L.xnm c = some x → ∀ p1 p2 p3 : Pos, glB sc x = true → okName x = true → PS X (.Raise (some (.Call (.Name x p1) [] [] p2)) none p3) (tS L.R A W (Dp.ex G (.rais c .nil)))
/-- raised with one argument -/
def RaisAOk (L : LX) (G : Dp.Gam) (N : List Str) (sc : Scope) (A : Act) (W : WX) (X : Cx) : Prop :=
  ∀ c x, L.xam c = some x → ∀ (p1 p2 p3 : Pos) (e : Expr) (fe : Dp.E), glB sc x = true → okName x = true → notStar e = true → PA X [e] (tA L.R A W (Dp.evs G (.cons fe .nil))) → PS X (.Raise (some (.Call (.Name x p1) [e] [] p2)) none p3) (tS L.R A W (Dp.ex G (.rais c (.cons fe .nil))))
structure SOk (L : LX) (G : Dp.Gam) (N1 : List Str) (sc1 : Scope) (A : Act) (W : WX) (X : Cx) : Prop extends XOk L G N1 sc1 true A W X where
  fn1 : ∀ x, X.fn x = true
  own : PassesOwn (model X.prog X.w) X.A X.env X.xe
  rais : RaisOk L G N1 sc1 A W X
  raisA : RaisAOk L G N1 sc1 A W X
def DS (L : LX) (G : Dp.Gam) (N : List Str) (sc : Scope) (st : Stmt) (f : Dp.DSt → Dp.Out Dp.Flow) : Prop := ∀ A W X, SOk L G N sc A W X → PS X st (tS L.R A W f)
def DSs (L : LX) (G : Dp.Gam) (N : List Str) (sc : Scope) (st : List Stmt) (f : Dp.DSt → Dp.Out Dp.Flow) : Prop := ∀ A W X, SOk L G N sc A W X → PSs X st (tS L.R A W f)
theorem _root_.L2.PS.imp {X : Cx} {st : Stmt} {t t' : TS} (h : PS X st t) (k : ∀ D σ H, t' D σ H → t D σ H) : PS X st t' := ⟨fun pins s σ H D I q => h.run pins s σ H D I (k D σ H q)⟩
theorem _root_.L2.PSs.imp {X : Cx} {st : List Stmt} {t t' : TS} (h : PSs X st t) (k : ∀ D σ H, t' D σ H → t D σ H) : PSs X st t' := ⟨fun pins s σ H D I q => h.run pins s σ H D I (k D σ H q)⟩
def isComp : Expr → Bool
  | .ListComp _ _ _ _ => true
  | .SetComp _ _ _ _ => true
  | .DictComp _ _ _ _ _ => true
  | _ => false
theorem sw_plain {e : Expr} (h : isComp e = false) (t : Option Expr) (l : Nat) (env : Env) : swapsWith e t l env = pure false := by
  cases e <;> first | rfl | cases h
section
variable {L : LX} {G : Dp.Gam} {N : List Str} {sc : Scope} {e : Expr} {a : Dp.E} {p p1 p2 : Pos} {sts rest : List Stmt} {st : Stmt} {s1 : Dp.S} {r1 : Dp.Ss}
theorem dss_nil : DSs L G N sc [] (Dp.exs G .nil) := fun A W X so => pss_nil.imp fun D σ H ⟨F, δ, q, h⟩ => h σ H F q .refl
theorem dss_cons (h1 : DS L G N sc st (Dp.ex G s1)) (h2 : DSs L G N sc rest (Dp.exs G r1)) : DSs L G N sc (st :: rest) (Dp.exs G (.cons s1 r1)) := fun A W X so =>
  (pss_cons (h1 A W X so) (h2 A W X so)).imp fun D σ H ⟨F, δ, q, h⟩ => ⟨F, δ, q, PostS.seq h⟩
theorem ds_pass : DS L G N sc (.Pass p) (Dp.ex G .pass) := fun A W X so => ps_pass.imp fun D σ H ⟨F, δ, q, h⟩ => h σ H F q .refl
theorem ds_brk : DS L G N sc (.Break p) (Dp.ex G .brk) := fun A W X so => ps_break.imp fun D σ H ⟨F, δ, q, h⟩ => h σ H F q .refl
theorem ds_cont : DS L G N sc (.Continue p) (Dp.ex G .cont) := fun A W X so => ps_continue.imp fun D σ H ⟨F, δ, q, h⟩ => h σ H F q .refl
theorem ds_retn : DS L G N sc (.Return none p) (Dp.ex G .retn) := fun A W X so => ps_retN.imp fun D σ H ⟨F, δ, q, h⟩ => h .non σ H F q .refl rfl
theorem ds_ret (ha : DE L G N sc true e (Dp.ev G a)) : DS L G N sc (.Return (some e) p) (Dp.ex G (.ret a)) := fun A W X so =>
  (ps_ret (ha A W X so.toXOk)).imp fun D σ H ⟨F, δ, q, h⟩ => ⟨F, δ, q, PostS.ret h⟩
theorem ds_ex (hs : isComp e = false) (ha : DE L G N sc true e (Dp.ev G a)) : DS L G N sc (.Expr e p) (Dp.ex G (.ex a)) := fun A W X so =>
  (ps_expr (ha A W X so.toXOk) (sw_plain hs _ _ _)).imp fun D σ H h => tS.bind (f := Dp.ev G a) (g := fun _ σ1 => .ok .nx σ1) h fun b H1 F1 r δ1 q1 k1 rr h1 => h1 σ H1 F1 q1 .refl
theorem ds_set {i : Nat} {x : Str} (hi : N[i]? = some x) (hx : locB sc x = true) (hs : isComp e = false) (ha : DE L G N sc true e (Dp.ev G a)) : DS L G N sc (.Assign [.Name x p1] e p) (Dp.ex G (.set i a)) := fun A W X so =>
  (ps_set (i := i) so.nd (by rw [so.N]; exact hi) (by rw [so.sc]; exact loc_of hx) (ha A W X so.toXOk) (sw_plain hs _ _ _) (.inl (so.fn1 x))).imp fun D σ H ⟨F, δ, q, h⟩ => ⟨F, δ, q, PostS.set q h⟩
theorem ds_if {c : Expr} {xs ys : List Stmt} {fc : Dp.E} {as bs : Dp.Ss} (hc : DT L G N sc true c (fun δ => Dp.truth (Dp.ev G fc δ))) (ha : DSs L G N sc xs (Dp.exs G as)) (hb : DSs L G N sc ys (Dp.exs G bs)) : DS L G N sc (.If c xs ys p) (Dp.ex G (.ife fc as bs)) := fun A W X so =>
  (ps_if (hc A W X so.toXOk) (ha A W X so) (hb A W X so)).imp fun D σ H h => tS.bind (f := fun δ => Dp.truth (Dp.ev G fc δ)) (g := fun t σ1 => if t then Dp.exs G as σ1 else Dp.exs G bs σ1) h fun b H1 F1 t δ1 q1 k1 rr h1 => by
    cases (show t = b from rr)
    cases b with
    | true => exact ⟨F1, δ1, q1, h1⟩
    | false => exact ⟨F1, δ1, q1, h1⟩
theorem ds_rais {c : Nat} {x : Str} {p3 : Pos} (h : L.xnm c = some x) (hg : glB sc x = true) (hk : okName x = true) : DS L G N sc (.Raise (some (.Call (.Name x p1) [] [] p2)) none p3) (Dp.ex G (.rais c .nil)) := fun A W X so =>
  so.rais c x h p1 p2 p3 hg hk
theorem ds_raisA {c : Nat} {x : Str} {p3 : Pos} {e : Expr} {fe : Dp.E} (h : L.xam c = some x) (hg : glB sc x = true) (hk : okName x = true) (hs : notStar e = true) (ha : DE L G N sc true e (Dp.ev G fe)) : DS L G N sc (.Raise (some (.Call (.Name x p1) [e] [] p2)) none p3) (Dp.ex G (.rais c (.cons fe .nil))) := fun A W X so =>
  so.raisA c x h p1 p2 p3 e fe hg hk hs (da_cons hs ha da_nil A W X so.toXOk)
/-- o.f = e, o the instance of a slot -/
theorem sws_att {o : Expr} {f : Str} {q : Pos} {e : Expr} {l : Nat} (h : isComp e = false) (env : Env) : swapsWith e (some (.Attribute o f q)) l env = pure false := sw_plain h _ _ _
theorem ds_setf {i f : Nat} {x y : Str} {px q : Pos} (hi : N[i]? = some x) (hx : visB sc x = true) (hk : okName x = true) (hf : L.anm f = some y) (hs : isComp e = false) (ha : DE L G N sc true e (Dp.ev G a)) : DS L G N sc (.Assign [.Attribute (.Name x px) y q] e p) (Dp.ex G (.setf i f a)) := by
  intro A W X so
  have hv : PE X (.Name x px) (tVar i) := pe_var (i := i) (by rw [so.N]; exact hi) (by rw [so.sc]; exact vis_of hx) (okName_of hk).1 (okName_of hk).2
  refine (ps_fld hv (ha A W X so.toXOk) (sw_plain hs _ _ _)).imp fun D σ H ⟨F0, δ0, q0, h⟩ => ?_
  have h : PostS L.R A W σ H F0 δ0 ((Dp.ev G a δ0).used.bind fun d σ1 => if (Dp.slotOb σ1 i).isSome then Dp.chS i (fun o => Dp.setFOb (fun c => (G.initOf c).isSome) o f d) σ1 else .stuck) D := h
  refine used_val ⟨F0, δ0, q0, PostS.bind (Rl := RlD L.R) h fun v H1 F1 d δ1 _ q1 st1 rd h1 => ?_⟩
  have rd : Rep L.R F1 d v := rd
  cases e2 : Dp.slotOb δ1 i with
  | none => rw [e2] at h1; exact h1.elim
  | some o =>
    rw [e2] at h1
    have h1 : PostS L.R A W σ H1 F1 δ1 (Dp.chS i (fun o => Dp.setFOb (fun c => (G.initOf c).isSome) o f d) δ1) D := h1
    unfold Dp.chS at h1
    rw [e2] at h1
    obtain ⟨ad, ea, hF, ob⟩ := slot_at q1 e2
    cases o with
    | l _ => exact h1.elim
    | d _ _ _ => exact h1.elim
    | i c fl =>
      have h1 : PostS L.R A W σ H1 F1 δ1 (match (if (G.initOf c).isSome = true ∧ fl.length < 900 then some (Dp.Ob.i c (Dp.putF f d fl)) else none) with | some o' => .ok .nx (Dp.putOb δ1 i o') | none => .stuck) D := h1
      by_cases hz : (G.initOf c).isSome = true ∧ fl.length < 900
      · rw [if_pos hz] at h1
        obtain ⟨dx, gs, hl, rf⟩ := ob
        obtain ⟨cl, na⟩ := so.insts c hz.1
        obtain ⟨ey, na⟩ := na f y hf
        refine ⟨.ref ad, ea, ad, _, dx, gs, rfl, hl, cl, na, by rw [rf.length]; omega, ?_⟩
        have ob' : ObAt L.R (upd H1 ad (.ins (L.R.ca c) dx (L2.putF y v gs))) F1 ad (.i c (Dp.putF f d fl)) := ⟨dx, _, upd_same, by rw [← ey]; exact rf.put so.inj rd⟩
        obtain ⟨q3, st3⟩ := q1.change e2 ea hF ⟨dx, gs, hl, rf⟩ (fun w p z => by rw [hl] at z; cases z; exact fun y => nomatch y) ob' (fun ⟨_, z⟩ => nomatch z)
        exact h1 σ _ F1 q3 st3.toS
      · rw [if_neg hz] at h1; exact h1.elim
/-- a[..] = e, the object of a slot a list -/
theorem swap_sub {o i : Expr} {q : Pos} (env : Env) : swappedStores [.Subscript o i q] e env = pure none := by cases e <;> rfl
theorem sws_sub {o i : Expr} {q : Pos} {l : Nat} (h : isComp e = false) (env : Env) : swapsWithSole [.Subscript o i q] e l env = pure false := by
  cases e <;> first | rfl | cases h
theorem ds_seti {i : Nat} {x : Str} {ix : Expr} {fi : Dp.E} {q : Pos} (hi : N[i]? = some x) (hx : visB sc x = true) (hk : okName x = true) (hs : isComp e = false) (hix : isSlice ix = false) (ha : DE L G N sc true e (Dp.ev G a)) (hb : DE L G N sc true ix (Dp.ev G fi)) :
    DS L G N sc (.Assign [.Subscript (.Name x p1) ix q] e p) (Dp.ex G (.seti i fi a)) := by
  intro A W X so
  have hv : PE X (.Name x p1) (tVar i) := pe_var (i := i) (by rw [so.N]; exact hi) (by rw [so.sc]; exact vis_of hx) (okName_of hk).1 (okName_of hk).2
  refine (ps_asg (ha A W X so.toXOk) (pg_sub hv (hb A W X so.toXOk) set_list (fun v => by cases ix <;> first | rfl | cases hix)) (sws_sub hs X.env) (swap_sub X.env)).imp fun D σ H h => ?_
  refine used_val (tS.bind (Rl := RlD L.R) (f := fun δ => (Dp.ev G a δ).used) (g := fun d σ1 => if (Dp.slotOb σ1 i).isSome then (Dp.ev G fi σ1).used.bind fun k σ2 => Dp.chS i (fun o => Dp.setOb o k d) σ2 else .stuck) h fun v H1 F1 d δ1 q1 k1 rd h1 => ?_)
  have rd : Rep L.R F1 d v := rd
  cases e0 : Dp.slotOb δ1 i with
  | none => rw [e0] at h1; exact h1.elim
  | some o0 =>
    rw [e0] at h1
    obtain ⟨ad, ea, _, _⟩ := slot_at q1 e0
    have h1 : PostS L.R A W σ H1 F1 δ1 ((Dp.ev G fi δ1).used.bind fun k σ2 => Dp.chS i (fun o => Dp.setOb o k d) σ2) D := h1
    refine ⟨.ref ad, ea, used_val ⟨F1, δ1, q1, PostS.bind (Rl := RlD L.R) h1 fun w H2 F2 k δ2 _ q2 st2 rk h2 => ?_⟩⟩
    have rk : Rep L.R F2 k w := rk
    unfold Dp.chS at h2
    cases e2 : Dp.slotOb δ2 i with
    | none => rw [e2] at h2; exact h2.elim
    | some o =>
      rw [e2] at h2
      obtain ⟨ad', ea', hF, ob⟩ := slot_at q2 e2
      rw [ea] at ea'
      cases ea'
      cases o with
      | l xs => cases k with
        | int n =>
          obtain ⟨vs, hl, rs⟩ := ob
          have h2 : PostS L.R A W σ H2 F2 δ2 (match (Dp.ixN xs.length n).map fun j => Dp.Ob.l (xs.set j d) with | some o' => .ok .nx (Dp.putOb δ2 i o') | none => .stuck) D := h2
          cases e1 : Dp.ixN xs.length n with
          | none => rw [e1] at h2; exact h2.elim
          | some j =>
            rw [e1] at h2
            refine ⟨ad, vs, n, j, rfl, rk, hl, by rw [rs.length]; exact e1, ?_⟩
            have ob' : ObAt L.R (upd H2 ad (.lst (vs.set j v))) F2 ad (.l (xs.set j d)) := ⟨_, upd_same, Reps.set j (rd.sub st2.more) rs⟩
            obtain ⟨q3, st3⟩ := q2.change e2 ea hF ⟨vs, hl, rs⟩ (fun w p z => by rw [hl] at z; cases z; exact fun y => nomatch y) ob' (fun ⟨_, z⟩ => nomatch z)
            exact h2 σ _ F2 q3 st3.toS
        | _ => exact h2.elim
      | d _ _ _ => exact h2.elim
      | i _ _ => exact h2.elim
/-- x.append(e), the object of a slot a list -/
theorem ds_append {i : Nat} {x : Str} {apos : Pos} (hi : N[i]? = some x) (hx : visB sc x = true) (hk : okName x = true) (hs : notStar e = true) (hl : (apos.endLine == p2.line) = true) (ha : DE L G N sc true e (Dp.ev G a)) :
    DS L G N sc (.Expr (.Call (.Attribute (.Name x p1) "append" apos) [e] [] p2) p) (Dp.ex G (.mm .append i a)) := by
  intro A W X so
  have hv : PE X (.Name x p1) (tVar i) := pe_var (i := i) (by rw [so.N]; exact hi) (by rw [so.sc]; exact vis_of hx) (okName_of hk).1 (okName_of hk).2
  have hst : starEach [e] X.env = (false, eval e X.env) :: starEach [] X.env := star_cons hs [] X.env
  refine (ps_expr (pe_bm PySem.F.plainAttrs_list PySem.F.slot_list_append PySem.F.type_list_append mt_append hv (pa_cons (ha A W X so.toXOk) pa_nil hst) rfl (by rw [hst]; rfl) hl hst rfl) (sw_plain rfl _ _ _)).imp fun D σ H h => ?_
  obtain ⟨F0, δ0, q0, h⟩ := h
  have h : PostS L.R A W σ H F0 δ0 (if Dp.isL (Dp.slotOb δ0 i) then (Dp.ev G a δ0).used.bind fun d σ1 => Dp.chS i (fun o => Dp.mmOb .append o d) σ1 else .stuck) D := h
  cases e0 : Dp.slotOb δ0 i with
  | none => rw [e0] at h; exact h.elim
  | some o0 =>
    cases o0 with
    | d _ _ _ => rw [e0] at h; exact h.elim
    | i _ _ => rw [e0] at h; exact h.elim
    | l xs0 =>
      rw [e0] at h
      obtain ⟨ad, ea, _, vs0, hl0, _⟩ := slot_at q0 e0
      have h : PostS L.R A W σ H F0 δ0 ((Dp.ev G a δ0).used.bind fun d σ1 => Dp.chS i (fun o => Dp.mmOb .append o d) σ1) D := h
      refine ⟨.ref ad, ea, .inl ⟨rfl, vs0, SqL.of hl0⟩, used_val ⟨F0, δ0, q0, PostS.bind (Rl := RlD L.R) h fun v H1 F1 d δ1 _ q1 st1 rd h1 => ?_⟩⟩
      have rd : Rep L.R F1 d v := rd
      unfold Dp.chS at h1
      cases e2 : Dp.slotOb δ1 i with
      | none => rw [e2] at h1; exact h1.elim
      | some o =>
        rw [e2] at h1
        obtain ⟨ad', ea', hF, ob⟩ := slot_at q1 e2
        rw [ea] at ea'
        cases ea'
        cases o with
        | d _ _ _ => exact h1.elim
        | i _ _ => exact h1.elim
        | l xs =>
          obtain ⟨vs, hl, rs⟩ := ob
          have h1 : PostS L.R A W σ H1 F1 δ1 (match (if xs.length < Dp.sizeLine then some (Dp.Ob.l (xs ++ [d])) else none) with | some o' => .ok .nx (Dp.putOb δ1 i o') | none => .stuck) D := h1
          by_cases hz : xs.length < Dp.sizeLine
          · rw [if_pos hz] at h1
            refine ⟨ad, vs, v, rfl, rfl, hl, by rw [rs.length, ← sizeL]; exact hz, ?_⟩
            have ob' : ObAt L.R (upd H1 ad (.lst (vs ++ [v]))) F1 ad (.l (xs ++ [d])) := ⟨_, upd_same, rs.append ⟨v, [], rfl, rd, rfl⟩⟩
            obtain ⟨q3, st3⟩ := q1.change e2 ea hF ⟨vs, hl, rs⟩ (fun w p z => by rw [hl] at z; cases z; exact fun y => nomatch y) ob' (fun ⟨_, z⟩ => nomatch z)
            exact h1 σ _ F1 q3 st3.toS
          · rw [if_neg hz] at h1; exact h1.elim
end
end DpS
end

section
set_option Elab.async false
set_option linter.all false
set_option maxRecDepth 100000
set_option maxHeartbeats 4000000
set_option autoImplicit false
/-! DpB17p: rows of values that are kept whole, stored in several names. -/
namespace DpS
open PySem PySem.Spec L2
section
variable (R : RC) (A : Act)
/-- kept whole, not borrowed -/
def RlK (σ : St) (Hq H F : Hp) (δ : Dp.DSt) (r : Dp.RV) (v : V) : Prop := RelRV R A σ Hq H F δ v r ∧ ∀ i, r ≠ .bor i
/-- a row, each new one apart from those ahead of it -/
def RKs (σ : St) (H F : Hp) (δ : Dp.DSt) : List Dp.RV → Hp → List V → Prop
  | [], _, vs => vs = []
  | r :: rs, Hq, vs => ∃ v ws Hm, vs = v :: ws ∧ RlK R A σ Hq H F δ r v ∧ (∀ a, Nt Hm a → Nt Hq a) ∧ (∀ o a, r = .fr o → v = .ref a → ¬ Nt Hm a) ∧ RKs σ H F δ rs Hm ws
def RlKs (σ : St) (Hq H F : Hp) (δ : Dp.DSt) (rs : List Dp.RV) (vs : List V) : Prop := RKs R A σ H F δ rs Hq vs
end
section
variable {R : RC} {A : Act} {W : WX} {σ σ1 : St} {H H1 F F1 Hq : Hp} {δ δ1 : Dp.DSt} {v : V} {D : Ends}
theorem Post.kept {o : Dp.Out Dp.RV} {Q : VK} (q : DRel R A σ H F δ) (h : Post R A W (RlK R A) σ H F δ (Dp.keptF o) Q) : Post R A W (RlE R A) σ H F δ o Q := by
  cases o with
  | stuck => exact h.elim
  | exc x s => exact h
  | ok r s =>
    intro v H' F' q' st rr
    cases r with
    | val d => exact h v H' F' q' st ⟨rr, fun _ z => nomatch z⟩
    | fr o => exact h v H' F' q' st ⟨rr, fun _ z => nomatch z⟩
    | bor i =>
      have h : Post R A W (RlK R A) σ H F δ (match Dp.use (.bor i) s with | some (d, s') => .ok (.val d) s' | none => .stuck) Q := h
      cases u : Dp.use (.bor i) s with
      | none => rw [u] at h; exact h.elim
      | some p =>
        obtain ⟨d, s'⟩ := p
        rw [u] at h
        obtain ⟨F2, q2, rd, sub, new, own⟩ := use_rel rr q' u (fun a n => q.ntA n)
        refine h v H' F2 q2 ⟨st.keep, st.there, st.more.trans sub, fun a o ha => ?_, fun i o ho => ?_⟩ ⟨rd, fun _ z => nomatch z⟩
        · rcases new a o ha with z | z | z
          · exact st.new a o z
          · exact .inr (.inl z)
          · exact .inr (.inr (st.ownS z))
        · obtain ⟨u, eu⟩ := own i o ho
          exact st.own i u eu
theorem store_kept {i : Nat} {r : Dp.RV} (q : DRel R A σ H F δ) (rk : RlK R A σ Hq H F δ r v) (hq : ∀ a, Nt Hq a → Nt A.H0 a ∧ A.bo ≠ some a) (h : Dp.store i r δ = some δ1) :
    DRel R A (σ.set i (some v)) H F δ1 ∧ ∀ b, Own A (σ.set i (some v)) δ1 b → Own A σ δ b ∨ ∃ o, r = .fr o ∧ v = .ref b ∧ Nt Hq b := by
  obtain ⟨rr, nb⟩ := rk
  cases r with
  | bor j => exact absurd rfl (nb j)
  | val d =>
    obtain ⟨n, rfl⟩ := store_sh h
    obtain ⟨q1, ow⟩ := q.setSh n rr
    exact ⟨q1, fun b z => .inl (ow b z)⟩
  | fr o =>
    obtain ⟨a, rfl, n, f, w, ob⟩ := rr
    have h : (match δ[i]? with | some (.bo _) => none | some _ => some (δ.set i (.ow o)) | none => none) = some δ1 := h
    have key : noBo δ i ∧ δ1 = δ.set i (.ow o) := by
      cases e : δ[i]? with
      | none => rw [e] at h; cases h
      | some s =>
        rw [e] at h
        cases s with
        | bo o => cases h
        | un => cases h; exact ⟨⟨_, e, fun o z => nomatch z⟩, rfl⟩
        | sh _ => cases h; exact ⟨⟨_, e, fun o z => nomatch z⟩, rfl⟩
        | ow _ => cases h; exact ⟨⟨_, e, fun o z => nomatch z⟩, rfl⟩
    obtain ⟨nb, rfl⟩ := key
    obtain ⟨q3, ow⟩ := q.setOw nb f (hq a n).1 (hq a n).2 w ob
    refine ⟨q3, fun b z => (ow b z).imp id fun y => ⟨o, rfl, by rw [y], by rw [y]; exact n⟩⟩
theorem RKs.move : ∀ {rs : List Dp.RV} {vs : List V} {Hq : Hp}, RKs R A σ H F δ rs Hq vs → (∀ b, Own A σ1 δ1 b → Own A σ δ b ∨ ¬ Nt Hq b) → RKs R A σ1 H F δ1 rs Hq vs
  | [], vs, Hq, h, _ => h
  | r :: rs, vs, Hq, ⟨v, ws, Hm, e, ⟨rr, nb⟩, k, d, t⟩, ow => by
    refine ⟨v, ws, Hm, e, ⟨?_, nb⟩, k, d, RKs.move t fun b z => (ow b z).imp id fun n m => n (k b m)⟩
    cases r with
    | bor j => exact absurd rfl (nb j)
    | val d => exact rr
    | fr o =>
      obtain ⟨a, e1, n, f, w, ob⟩ := rr
      exact ⟨a, e1, n, f, fun z => (ow a z).elim w fun y => y n, ob⟩
def setVs : List Nat → List V → St → St
  | i :: is, v :: vs, σ => setVs is vs (σ.set i (some v))
  | _, _, σ => σ
theorem stores_kept : ∀ {is : List Nat} {rs : List Dp.RV} {vs : List V} {σ : St} {δ δ1 : Dp.DSt} {Hq : Hp}, DRel R A σ H F δ → RKs R A σ H F δ rs Hq vs → (∀ a, Nt Hq a → Nt A.H0 a ∧ A.bo ≠ some a) → Dp.storeRs is rs δ = some δ1 →
    vs.length = is.length ∧ DRel R A (setVs is vs σ) H F δ1 ∧ ∀ b, Own A (setVs is vs σ) δ1 b → Own A σ δ b ∨ Nt Hq b
  | [], [], vs, σ, δ, δ1, Hq, q, rk, hq, e => by
    cases (show vs = [] from rk)
    cases e
    exact ⟨rfl, q, fun b z => .inl z⟩
  | [], _ :: _, _, _, _, _, _, _, _, _, e => by cases e
  | _ :: _, [], _, _, _, _, _, _, _, _, e => by cases e
  | i :: is, r :: rs, vs, σ, δ, δ1, Hq, q, ⟨v, ws, Hm, e0, rk, k, d, t⟩, hq, e => by
    subst e0
    have e : (match Dp.store i r δ with | some σ1 => Dp.storeRs is rs σ1 | none => none) = some δ1 := e
    cases e1 : Dp.store i r δ with
    | none => rw [e1] at e; cases e
    | some δ2 =>
      rw [e1] at e
      obtain ⟨q1, ow⟩ := store_kept q rk hq e1
      have t1 := t.move (σ1 := σ.set i (some v)) (δ1 := δ2) fun b z => (ow b z).imp id fun ⟨o, y1, y2, _⟩ => d o b y1 y2
      obtain ⟨l, q2, ow2⟩ := stores_kept q1 t1 (fun a n => hq a (k a n)) e
      refine ⟨by rw [List.length_cons, l, List.length_cons], q2, fun b z => ?_⟩
      rcases ow2 b z with y | y
      · exact (ow b y).imp id fun ⟨_, _, _, n⟩ => n
      · exact .inr (k b y)
/-- a row stored in names -/
theorem PostS.par {is : List Nat} {o : Dp.Out (List Dp.RV)} (q : DRel R A σ H F δ) (h : PostS R A W σ H F δ (o.bind fun rs σ1 => Dp.storeS (Dp.storeRs is rs σ1)) D) : Post R A W (RlKs R A) σ H F δ o fun vs H1 => vs.length = is.length ∧ D.nx (setVs is vs σ) H1 := by
  cases o with
  | stuck => exact h
  | exc x δ' => exact fun H' F' c dx q st xr => h σ H' F' c dx q st.toS xr
  | ok rs δ' =>
    intro vs H' F' q' st rk
    have h : PostS R A W σ H F δ (Dp.storeS (Dp.storeRs is rs δ')) D := h
    cases e : Dp.storeRs is rs δ' with
    | none => rw [e] at h; exact h.elim
    | some δ2 =>
      rw [e] at h
      obtain ⟨l, q1, own⟩ := stores_kept q' rk (fun a n => q.ntA n) e
      exact ⟨l, h _ H' F' q1 ⟨st.keep, st.there, st.more, st.new, fun a ha => (own a ha).imp st.ownS id⟩⟩
end
section
variable {L : LX} {G : Dp.Gam} {N : List Str} {sc : Scope} {cal : Bool} {a : Expr} {fa : Dp.E} {es : List Expr} {fs : Dp.Es}
def DR (L : LX) (G : Dp.Gam) (N : List Str) (sc : Scope) (cal : Bool) (x : List Expr) (f : Dp.DSt → Dp.Out (List Dp.RV)) : Prop :=
  ∀ A W X, XOk L G N sc cal A W X → PA X x (tP L.R A W (RlKs L.R A) f)
theorem dr_nil : DR L G N sc cal [] (Dp.evrs G .nil) := fun A W X xo => pa_nil.imp fun σ H Q ⟨F, δ, q, h⟩ => h [] H F q Stp.refl rfl
theorem dr_cons (hs : notStar a = true) (ha : DE L G N sc cal a (Dp.ev G fa)) (hb : DR L G N sc cal es (Dp.evrs G fs)) : DR L G N sc cal (a :: es) (Dp.evrs G (.cons fa fs)) := by
  intro A W X xo
  refine (pa_cons (ha A W X xo) (hb A W X xo) (star_cons hs _ _)).imp fun σ H Q ⟨F, δ, q, h⟩ => ?_
  have h : Post L.R A W (RlKs L.R A) σ H F δ ((Dp.keptF (Dp.ev G fa δ)).bind fun r σ1 => (Dp.evrs G fs σ1).bind fun rs σ2 => .ok (r :: rs) σ2) Q := h
  refine ⟨F, δ, q, Post.kept q ?_⟩
  cases eo : Dp.keptF (Dp.ev G fa δ) with
  | stuck => rw [eo] at h; exact h.elim
  | exc x s => rw [eo] at h; exact h
  | ok r δ1 =>
    rw [eo] at h
    intro v H1 F1 q1 st1 rr1
    have h : Post L.R A W (RlKs L.R A) σ H F δ ((Dp.evrs G fs δ1).bind fun rs σ2 => .ok (r :: rs) σ2) Q := h
    refine ⟨F1, δ1, q1, ?_⟩
    cases er : Dp.evrs G fs δ1 with
    | stuck => rw [er] at h; exact h.elim
    | exc x s => rw [er] at h; exact fun H' F' c dx q' st' xr => h H' F' c dx q' (st1.trans st') xr
    | ok rs δ2 =>
      rw [er] at h
      intro vs H2 F2 q2 st2 rr2
      refine h (v :: vs) H2 F2 q2 (st1.trans st2) ⟨v, vs, H1, rfl, ⟨rr1.1.step st2, rr1.2⟩, fun a n => st1.nt n, fun o a e1 e2 => ?_, rr2⟩
      obtain ⟨rr, _⟩ := rr1
      subst e1
      obtain ⟨b, e3, _, _, _, ob⟩ := rr
      rw [e2] at e3
      cases e3
      exact ob.nnt
end
section
variable {L : LX} {G : Dp.Gam} {N : List Str}
theorem chkEs_okR : ∀ (x : Dp.Es) (cal : Bool) (sc : Scope) (es : List Expr), chkEs L N cal x sc es = true → DR L G N sc cal es (Dp.evrs G x)
  | .nil, cal, sc, es, h => by
    cases es with
    | nil => exact dr_nil
    | cons _ _ => cases h
  | .cons a as, cal, sc, es, h => by
    cases es with
    | nil => cases h
    | cons x xs =>
      obtain ⟨h, h3⟩ := band h
      obtain ⟨h1, h2⟩ := band h
      exact dr_cons h1 (chkE_ok a L cal sc x h2).de (chkEs_okR as cal sc xs h3)
end
end DpS
end

section
set_option Elab.async false
set_option linter.all false
set_option maxRecDepth 100000
set_option maxHeartbeats 4000000
set_option autoImplicit false
/-! DpB18: loops, stores of several names. -/
namespace DpS
open PySem PySem.Spec L2
section
variable {L : LX} {G : Dp.Gam} {N : List Str} {sc : Scope} {e : Expr} {a : Dp.E} {p p1 p2 : Pos} {sts rest : List Stmt} {st : Stmt} {A : Act} {W : WX} {R : RC}
/-- where a local is stored -/
def lcF1 (sc : Scope) (x : Str) : Bool := locB sc x
theorem pg_at {X : Cx} (so : SOk L G N sc A W X) {tg : Expr} {t : Dp.Tg} (h : chkG N (locB sc) tg t = true) : PG X tg (tG L.R A (tgIx t) (Dp.asg t)) :=
  pg_chk (so.calm rfl) so.K so.nd so.N (fun x hx => by
    have e := so.sc
    have l := loc_of hx
    subst e
    exact ⟨l, .inl (so.fn1 x)⟩) tg t h
theorem ds_for {tg iter : Expr} {body : List Stmt} {t : Dp.Tg} {it : Dp.It} {fb : Dp.Ss} (hg : chkG N (locB sc) tg t = true) (hs : isSet iter = false) (hi : DI L G N sc true tg iter (Dp.evi G it)) (hb : DSs L G N sc body (Dp.exs G fb)) :
    DS L G N sc (.For tg iter body [] p) (Dp.ex G (.for_ t it fb)) := by
  intro A W X so
  refine (ps_for so.own (so.calm rfl) (hi A W X so.toXOk) (pg_at so hg) (hb A W X so) (fsi_plain hs X.env)).imp fun D σ H h => ?_
  refine tS.bind (f := Dp.evi G it) (g := fun xs σ1 => Dp.forL (fun x τ => Dp.seqS (Dp.storeS (Dp.asg t x τ)) fun τ1 => Dp.exs G fb τ1) xs σ1) h fun J H1 F1 xs δ1 q1 k1 it1 h1 => ?_
  have it1 : ItOk L.R A F1 J xs := it1
  refine ⟨fun i m σ' H' => m + i = xs.length ∧ ∃ F τ, DRel L.R A σ' H' F τ ∧ StpS A σ H1 F1 δ1 σ' H' F τ ∧ PostS L.R A W σ' H' F τ (Dp.forL (fun x τ => Dp.seqS (Dp.storeS (Dp.asg t x τ)) fun τ1 => Dp.exs G fb τ1) (xs.drop i) τ) D, ⟨xs.length, Nat.add_zero _, F1, δ1, q1, .refl, h1⟩, ?_⟩
  rintro i m σ' H' ⟨hm, F, τ, q, st, po⟩
  by_cases hi : i < xs.length
  · have hx : xs[i]? = some xs[i] := List.getElem?_eq_getElem hi
    obtain ⟨go, yl⟩ := (it1 i σ' H' F τ st.more q).1 _ hx
    rw [List.drop_eq_getElem_cons hi, Dp.forL] at po
    refine .inr ⟨go, fun σ2 H2 => (xs.length - (i + 1)) + (i + 1) = xs.length ∧ ∃ F τ, DRel L.R A σ2 H2 F τ ∧ StpS A σ H1 F1 δ1 σ2 H2 F τ ∧ PostS L.R A W σ2 H2 F τ (Dp.forL (fun x τ => Dp.seqS (Dp.storeS (Dp.asg t x τ)) fun τ1 => Dp.exs G fb τ1) (xs.drop (i + 1)) τ) D, fun σ2 H2 w => ⟨xs.length - (i + 1), by omega, w⟩, fun x H2 y => ?_⟩
    obtain ⟨F2, g, rx⟩ := yl x H2 y
    have q2 := g.rel q
    have st2 := st.trans g.step.toS
    have po : PostS L.R A W σ' H' F τ (match Dp.seqS (Dp.storeS (Dp.asg t xs[i] τ)) fun τ1 => Dp.exs G fb τ1 with
      | .ok .nx σ1 => Dp.forL (fun x τ => Dp.seqS (Dp.storeS (Dp.asg t x τ)) fun τ1 => Dp.exs G fb τ1) (xs.drop (i + 1)) σ1
      | .ok .ct σ1 => Dp.forL (fun x τ => Dp.seqS (Dp.storeS (Dp.asg t x τ)) fun τ1 => Dp.exs G fb τ1) (xs.drop (i + 1)) σ1
      | .ok .bk σ1 => .ok .nx σ1
      | .ok (.rt r) σ1 => .ok (.rt r) σ1
      | .exc x s => .exc x s
      | .stuck => .stuck) D := po
    cases ea : Dp.asg t xs[i] τ with
    | none => rw [ea] at po; exact po.elim
    | some τ1 =>
      rw [ea] at po
      refine ⟨F2, τ, _, τ1, q2, rx, ea, fun σ3 as => ⟨F2, τ1, as.rel, ?_⟩⟩
      have st3 : StpS A σ H1 F1 δ1 σ3 H2 F2 τ1 := st2.trans (StpS.slots as.own)
      have st3' : StpS A σ' H' F τ σ3 H2 F2 τ1 := g.step.toS.trans (StpS.slots as.own)
      have po := PostS.rebase st3' po
      have es : (Dp.seqS (Dp.storeS (some τ1)) fun τ1 => Dp.exs G fb τ1) = Dp.exs G fb τ1 := rfl
      rw [es] at po
      show PostS L.R A W σ3 H2 F2 τ1 (Dp.exs G fb τ1) _
      cases eb : Dp.exs G fb τ1 with
      | stuck => rw [eb] at po; exact po.elim
      | exc x τ2 => rw [eb] at po; exact po
      | ok f τ2 =>
        rw [eb] at po
        cases f with
        | nx => exact fun σ4 H4 F4 q4 st4 => ⟨by omega, F4, τ2, q4, st3.trans st4, PostS.rebase st4 po⟩
        | ct => exact fun σ4 H4 F4 q4 st4 => ⟨by omega, F4, τ2, q4, st3.trans st4, PostS.rebase st4 po⟩
        | bk => exact po
        | rt r => exact po
  · have ei : xs.drop i = [] := List.drop_eq_nil_iff.mpr (by omega)
    rw [ei] at po
    exact .inl ⟨(it1 i σ' H' F τ st.more q).2 (by omega), po σ' H' F q .refl⟩
theorem ds_whl {c : Expr} {body : List Stmt} {fc : Dp.E} {fb : Dp.Ss} (hc : DT L G N sc true c (fun δ => Dp.truth (Dp.ev G fc δ))) (hb : DSs L G N sc body (Dp.exs G fb)) :
    DS L G N sc (.While c body [] p) (Dp.ex G (.whl fc fb)) := by
  intro A W X so
  refine (ps_while so.own (hc A W X so.toXOk) (hb A W X so)).imp fun D σ H h => ?_
  obtain ⟨F0, δ0, q0, h⟩ := h
  refine ⟨fun m σ' H' => ∃ F τ, DRel L.R A σ' H' F τ ∧ PostS L.R A W σ' H' F τ (Dp.whlL (fun τ => Dp.truth (Dp.ev G fc τ)) (fun τ => Dp.exs G fb τ) m τ) D, ⟨G.fuel, F0, δ0, q0, h⟩, ?_⟩
  rintro m σ' H' ⟨F, τ, q, po⟩
  cases m with
  | zero => exact po.elim
  | succ m =>
    rw [Dp.whlL] at po
    refine ⟨F, τ, q, ?_⟩
    show Post L.R A W RlT σ' H' F τ (Dp.truth (Dp.ev G fc τ)) _
    cases ec : Dp.truth (Dp.ev G fc τ) with
    | stuck => rw [ec] at po; exact po.elim
    | exc x τ1 => rw [ec] at po; exact fun H2 F2 c dx q2 st2 xr => po σ' H2 F2 c dx q2 st2.toS xr
    | ok b τ1 =>
      rw [ec] at po
      intro b' H2 F2 q2 st2 eb
      cases (show b = b' from eb)
      cases b with
      | false => exact po σ' H2 F2 q2 st2.toS
      | true =>
        rw [if_pos rfl]
        have po : PostS L.R A W σ' H' F τ (match Dp.exs G fb τ1 with
          | .ok .nx σ2 => Dp.whlL (fun τ => Dp.truth (Dp.ev G fc τ)) (fun τ => Dp.exs G fb τ) m σ2
          | .ok .ct σ2 => Dp.whlL (fun τ => Dp.truth (Dp.ev G fc τ)) (fun τ => Dp.exs G fb τ) m σ2
          | .ok .bk σ2 => .ok .nx σ2
          | .ok (.rt r) σ2 => .ok (.rt r) σ2
          | .exc x s => .exc x s
          | .stuck => .stuck) D := po
        have po := PostS.rebase st2.toS po
        refine ⟨fun σ3 H3 => ∃ F τ, DRel L.R A σ3 H3 F τ ∧ PostS L.R A W σ3 H3 F τ (Dp.whlL (fun τ => Dp.truth (Dp.ev G fc τ)) (fun τ => Dp.exs G fb τ) m τ) D, fun σ3 H3 w => ⟨m, Nat.lt_succ_self m, w⟩, F2, τ1, q2, ?_⟩
        show PostS L.R A W σ' H2 F2 τ1 (Dp.exs G fb τ1) _
        cases eb : Dp.exs G fb τ1 with
        | stuck => rw [eb] at po; exact po.elim
        | exc x τ2 => rw [eb] at po; exact po
        | ok f τ2 =>
          rw [eb] at po
          cases f with
          | nx => exact fun σ4 H4 F4 q4 st4 => ⟨F4, τ2, q4, PostS.rebase st4 po⟩
          | ct => exact fun σ4 H4 F4 q4 st4 => ⟨F4, τ2, q4, PostS.rebase st4 po⟩
          | bk => exact po
          | rt r => exact po
/-! ### several names -/
theorem swap_tup {es : List Expr} {k : Nat} {q : Pos} (h : (unTup e).isNone = true) (env : Env) : swappedStores [.Tuple es k q] e env = pure none := by
  cases e <;> first | rfl | cases h
theorem sws_tup {es : List Expr} {k : Nat} {q : Pos} {l : Nat} (h : isComp e = false) (env : Env) : swapsWithSole [.Tuple es k q] e l env = pure false := by
  cases e <;> first | rfl | cases h
theorem ds_unp {es : List Expr} {k : Nat} {q : Pos} {t : Dp.Tg} (ht : (unTup e).isNone = true) (hs : isComp e = false) (hg : chkG N (locB sc) (.Tuple es k q) t = true) (ha : DE L G N sc true e (Dp.ev G a)) : DS L G N sc (.Assign [.Tuple es k q] e p) (Dp.ex G (.unp t a)) := by
  intro A W X so
  refine (ps_asg (ha A W X so.toXOk) (pg_at so hg) (sws_tup hs X.env) (swap_tup ht X.env)).imp fun D σ H h => ?_
  exact used_val (tS.bind (Rl := RlD L.R) (f := fun δ => (Dp.ev G a δ).used) (g := fun d σ1 => Dp.storeS (Dp.asg t d σ1)) h fun v H1 F1 d δ1 q1 k1 rd h1 => PostS.asg q1 rd h1)
theorem two_of {R : RC} {F : Hp} {vs : List V} {ds : List Dp.D} (h : Reps R F ds vs) (e : ds.length = 2) : ∃ d1 d2 v w, ds = [d1, d2] ∧ vs = [v, w] ∧ Rep R F d1 v ∧ Rep R F d2 w := by
  match ds, e with
  | [d1, d2], _ =>
    obtain ⟨v, ws, rfl, r1, w, us, rfl, r2, r3⟩ := h
    obtain rfl := (show us = [] from r3)
    exact ⟨d1, d2, v, w, rfl, rfl, r1, r2⟩
theorem three_of {R : RC} {F : Hp} {vs : List V} {ds : List Dp.D} (h : Reps R F ds vs) (e : ds.length = 3) : ∃ d1 d2 d3 v w u, ds = [d1, d2, d3] ∧ vs = [v, w, u] ∧ Rep R F d1 v ∧ Rep R F d2 w ∧ Rep R F d3 u := by
  match ds, e with
  | [d1, d2, d3], _ =>
    obtain ⟨v, ws, rfl, r1, w, us, rfl, r2, u, xs, rfl, r3, r4⟩ := h
    obtain rfl := (show xs = [] from r4)
    exact ⟨d1, d2, d3, v, w, u, rfl, rfl, r1, r2, r3⟩
/-- not a constant that is folded -/
def parB (vs : List Expr) : Bool := !vs.all (foldedForSure 8) && !vs.all (constantsAlone 8) && vs.all notStar
theorem notStar_any : ∀ {vs : List Expr}, vs.all notStar = true → (vs.any fun | .Starred .. => true | _ => false) = false
  | [], _ => rfl
  | v :: vs, h => by
    rw [List.all_cons, Bool.and_eq_true] at h
    rw [List.any_cons, notStar_any h.2]
    cases v <;> first | rfl | exact absurd h.1 Bool.false_ne_true
theorem ds_par2 {i j : Nat} {x y : Str} {u v : Expr} {px py pt pt2 : Pos} {kt k2 : Nat} {fs : Dp.Es} (hi : N[i]? = some x) (hj : N[j]? = some y) (hij : i ≠ j) (hx : sc.names.lookup x = some .local) (hy : sc.names.lookup y = some .local) (hxy : x ≠ y) (hl : px.line = py.line) (hk : sc.kind = .function) (hp : parB [u, v] = true)
    (ha : DR L G N sc true [u, v] (Dp.evrs G fs)) : DS L G N sc (.Assign [.Tuple [.Name x px, .Name y py] kt pt] (.Tuple [u, v] k2 pt2) p) (Dp.ex G (.par [i, j] fs)) := by
  intro A W X so
  have hx' : X.env.scope.names.lookup x = some .local := by rw [so.sc]; exact hx
  have hy' : X.env.scope.names.lookup y = some .local := by rw [so.sc]; exact hy
  have hw : swappedStores [.Tuple [.Name x px, .Name y py] kt pt] (.Tuple [u, v] k2 pt2) X.env = pure (some [x, y]) := by
    obtain ⟨h1, h2⟩ := band hp
    obtain ⟨h0, h1⟩ := band h1
    have kx : X.env.kindOf x = some .local := hx'
    have ky : X.env.kindOf y = some .local := hy'
    have bk : X.env.blockKind = .function := by unfold Env.blockKind; rw [so.sc, hk]; rfl
    have ns := notStar_any h2
    unfold swappedStores
    simp only [List.length_cons, List.length_nil, bk, ns, kx, ky, List.filterMap_cons, List.filterMap_nil, List.head?_cons, Option.map_some, Option.getD_some, Expr.pos, hl, bnot h0, bnot h1]
    have ed : [x, y].eraseDups = [x, y] := by
      simp [List.eraseDups_cons, Ne.symm hxy, beq_iff_eq]
    simp [ed]
    intro hh
    exfalso
    rw [List.all_cons, List.all_cons, List.all_nil, Bool.and_true, Bool.and_eq_true] at h2
    rcases hh with hh | hh
    · have h2 := h2.1
      clear ha hp h0 h1 ns
      cases u <;> first | exact Bool.false_ne_true hh | exact Bool.false_ne_true h2
    · have h2 := h2.2
      clear ha hp h0 h1 ns
      cases v <;> first | exact Bool.false_ne_true hh | exact Bool.false_ne_true h2
  refine (ps_par (so.calm rfl) so.nd (by rw [so.N]; exact hi) (by rw [so.N]; exact hj) hij hx' hy' (ha A W X so.toXOk) hw).imp fun D σ H h => ?_
  obtain ⟨F, δ, q, h⟩ := h
  refine ⟨F, δ, q, (PostS.par q h).imp fun vs H1 ⟨l, h⟩ => ?_⟩
  match vs, l, h with
  | [v1, v2], _, h => exact ⟨v1, v2, rfl, h⟩
/-- x = [.. for ..] -/
theorem ds_setlc {i : Nat} {x : Str} {elt tg iter : Expr} {ifs : List Expr} {scope : Scope} {own : List (Str × Nat)} {px q : Pos} {t : Dp.Tg} {it : Dp.It} {fc fe : Dp.E} (hi0 : N[i]? = some x) (hx : sc.names.lookup x = some .local) (hk : sc.kind = .function) (hl : (px.line == q.line) = true) (hn : (scope.names.any fun (n, k) => n == x && (k == .local || k == .cell)) = false)
    (hb : blkC N sc scope own = true) (hs : isSet iter = false) (hg : chkG N (lcB sc scope) tg t = true) (sub : ∀ i ∈ tgIx t, i ∈ own.map (·.2))
    (hi : DI L G N sc true tg iter (Dp.evi G it)) (ht : (ifs = [] ∧ ∀ τ, Dp.truth (Dp.ev G fc τ) = .ok true τ) ∨ ∃ e, ifs = [e] ∧ DT L G N (relS scope sc) true e (fun τ => Dp.truth (Dp.ev G fc τ))) (he : DE L G N (relS scope sc) true elt (Dp.ev G fe)) :
    DS L G N sc (.Assign [.Name x px] (.ListComp elt [⟨tg, iter, ifs, 0⟩] scope q) p) (Dp.ex G (.set i (.lc (own.map (·.2)) t it fc fe))) := by
  intro A W X so
  have xo := so.toXOk
  have ok : BlkOk X.N X.env.scope scope own := by rw [xo.N, xo.sc]; exact blkOk_by hb
  have pg : ∀ (s : Shared) (H : Hp) (C : Addr) (cl : List (Str × Addr)) (fp : List Addr), PG (X.blk s H scope (compEnvC scope cl C X.env) fp) tg (tG L.R A (tgIx t) (Dp.asg t)) := fun s H C cl fp =>
    pg_chk (X := X.blk s H scope (compEnvC scope cl C X.env) fp) (xo.calm rfl) xo.K xo.nd xo.N (fun x hx => by
      obtain ⟨h1, h2⟩ := lcB_ok hx
      have e := xo.sc
      subst e
      exact ⟨h1, h2⟩) tg t hg
  have pt : ∀ (s : Shared) (H : Hp) (C : Addr) (cl : List (Str × Addr)) (fp : List Addr), PTs (X.blk s H scope (compEnvC scope cl C X.env) fp) ifs (tT L.R A (fun _ _ _ _ => False) (fun τ => Dp.truth (Dp.ev G fc τ))) := fun s H C cl fp => by
    rcases ht with ⟨rfl, e⟩ | ⟨e, rfl, h⟩
    · refine ⟨fun pins s σ H Q I ⟨F, δ, q, h⟩ => pts_nil.run pins s σ H Q I ?_⟩
      have h : Post L.R A (fun _ _ _ _ => False) RlT σ H F δ (Dp.truth (Dp.ev G fc δ)) Q := h
      rw [e] at h
      exact h true H F q Stp.refl rfl
    · exact pts_one (h A _ _ (xo.blk s H scope C cl fp))
  have hx' : X.env.scope.names.lookup x = some .local := by rw [so.sc]; exact hx
  refine (ps_setLc (so.calm rfl) so.nd (by rw [so.N]; exact hi0) hx' (sw_true (by rw [so.sc]; exact hk) hx' hl hn) (hi A W X xo) ok pg pt (fun s H C cl fp => he A _ _ (xo.blk s H scope C cl fp)) (fsi_plain hs X.env)).imp fun D σ H h => ?_
  obtain ⟨F, δ, q, h⟩ := h
  have key : tE L.R A W (Dp.ev G (.lc (own.map (·.2)) t it fc fe)) σ H (fun v H1 => gName i v σ H1 D.nx) := ⟨F, δ, q, PostS.set q h⟩
  refine tP.bind (f := Dp.evi G it) (g := fun xs σ1 => if Dp.freeB σ1 (own.map (·.2)) then Dp.lcEnd (own.map (·.2)) σ1 (Dp.lcL (lcF (own.map (·.2)) t (fun τ => Dp.truth (Dp.ev G fc τ)) fun τ => (Dp.ev G fe τ).used) xs σ1) else .stuck) back_E key fun J H1 F1 xs δ1 q1 k1 rr h1 => ?_
  exact lc_post (el := Dp.ev G fe) sub q1 rr h1
/-- x = [.. for .. for ..] -/
theorem ds_setlc2 {i : Nat} {x : Str} {elt tg iter tg2 iter2 : Expr} {scope : Scope} {own : List (Str × Nat)} {own2 : List Nat} {px q : Pos} {t t2 : Dp.Tg} {it it2 : Dp.It} {fe : Dp.E} (hi0 : N[i]? = some x) (hx : sc.names.lookup x = some .local) (hk : sc.kind = .function) (hl : (px.line == q.line) = true) (hn : (scope.names.any fun (n, k) => n == x && (k == .local || k == .cell)) = false)
    (hb : blkC N sc scope own = true) (hs : isSet iter = false) (hs2 : isSet iter2 = false) (hg : chkG N (lcB sc scope) tg t = true) (hg2 : chkG N (lcB sc scope) tg2 t2 = true) (sub : ∀ i ∈ tgIx t, i ∈ own.map (·.2)) (sub2 : ∀ i ∈ tgIx t2, i ∈ own2) (oo : ∀ i ∈ own2, i ∈ own.map (·.2))
    (hi : DI L G N sc true tg iter (Dp.evi G it)) (hi2 : DI L G N (relS scope sc) true tg2 iter2 (Dp.evi G it2)) (he : DE L G N (relS scope sc) true elt (Dp.ev G fe)) :
    DS L G N sc (.Assign [.Name x px] (.ListComp elt [⟨tg, iter, [], 0⟩, ⟨tg2, iter2, [], 0⟩] scope q) p) (Dp.ex G (.set i (.lc2 (own.map (·.2)) own2 t it t2 it2 fe))) := by
  intro A W X so
  have xo := so.toXOk
  have ok : BlkOk X.N X.env.scope scope own := by rw [xo.N, xo.sc]; exact blkOk_by hb
  have pg : ∀ {tg : Expr} {t : Dp.Tg}, chkG N (lcB sc scope) tg t = true → ∀ (s : Shared) (H : Hp) (C : Addr) (cl : List (Str × Addr)) (fp : List Addr), PG (X.blk s H scope (compEnvC scope cl C X.env) fp) tg (tG L.R A (tgIx t) (Dp.asg t)) := fun {tg t} hg s H C cl fp =>
    pg_chk (X := X.blk s H scope (compEnvC scope cl C X.env) fp) (xo.calm rfl) xo.K xo.nd xo.N (fun x hx => by
      obtain ⟨h1, h2⟩ := lcB_ok hx
      have e := xo.sc
      subst e
      exact ⟨h1, h2⟩) tg t hg
  have hx' : X.env.scope.names.lookup x = some .local := by rw [so.sc]; exact hx
  refine (ps_setLc2 (so.calm rfl) so.nd (by rw [so.N]; exact hi0) hx' (sw_true (by rw [so.sc]; exact hk) hx' hl hn) (hi A W X xo) ok oo (pg hg) (fun _ _ _ _ _ => pts_nil) (fun s H C cl fp => hi2 A _ _ (xo.blk s H scope C cl fp)) (pg hg2) (fun _ _ _ _ _ => pts_nil) (fun s H C cl fp => he A _ _ (xo.blk s H scope C cl fp)) (fsi_plain hs X.env) (fun env => fsi_plain hs2 env)).imp fun D σ H h => ?_
  obtain ⟨F, δ, q, h⟩ := h
  exact lc2_key sub sub2 oo (W := W) ⟨F, δ, q, PostS.set q h⟩
end
end DpS
end

section
set_option Elab.async false
set_option linter.all false
set_option maxRecDepth 100000
set_option maxHeartbeats 4000000
set_option autoImplicit false
/-! DpB18a: more statements: extend, += of an int, three names at once. -/
namespace DpS
open PySem PySem.Spec L2
section
variable {L : LX} {G : Dp.Gam} {N : List Str} {sc : Scope} {e : Expr} {a : Dp.E} {p p1 p2 : Pos} {st : Stmt}
theorem ds_bad : DS L G N sc st (Dp.ex G .bad) := fun A W X so => ⟨fun pins s σ H D I ⟨F, δ, q, h⟩ => h.elim⟩
theorem ds_extend {i : Nat} {x : Str} {apos : Pos} (hi : N[i]? = some x) (hx : visB sc x = true) (hk : okName x = true) (hs : notStar e = true) (hl : (apos.endLine == p2.line) = true) (ha : DE L G N sc true e (Dp.ev G a)) :
    DS L G N sc (.Expr (.Call (.Attribute (.Name x p1) "extend" apos) [e] [] p2) p) (Dp.ex G (.mm .extend i a)) := by
  intro A W X so
  have hv : PE X (.Name x p1) (tVar i) := pe_var (i := i) (by rw [so.N]; exact hi) (by rw [so.sc]; exact vis_of hx) (okName_of hk).1 (okName_of hk).2
  have hst : starEach [e] X.env = (false, eval e X.env) :: starEach [] X.env := star_cons hs [] X.env
  refine (ps_expr (pe_bm PySem.F.plainAttrs_list PySem.F.slot_list_extend PySem.F.type_list_extend mt_extend hv (pa_cons (ha A W X so.toXOk) pa_nil hst) rfl (by rw [hst]; rfl) hl hst rfl) (sw_plain rfl _ _ _)).imp fun D σ H h => ?_
  obtain ⟨F0, δ0, q0, h⟩ := h
  have h : PostS L.R A W σ H F0 δ0 (if Dp.isL (Dp.slotOb δ0 i) then (Dp.ev G a δ0).used.bind fun d σ1 => Dp.chS i (fun o => Dp.mmOb .extend o d) σ1 else .stuck) D := h
  cases e0 : Dp.slotOb δ0 i with
  | none => rw [e0] at h; exact h.elim
  | some o0 =>
    cases o0 with
    | d _ _ _ => rw [e0] at h; exact h.elim
    | i _ _ => rw [e0] at h; exact h.elim
    | l xs0 =>
      rw [e0] at h
      obtain ⟨ad, ea, _, vs0, hl0, _⟩ := slot_at q0 e0
      have h : PostS L.R A W σ H F0 δ0 ((Dp.ev G a δ0).used.bind fun d σ1 => Dp.chS i (fun o => Dp.mmOb .extend o d) σ1) D := h
      refine ⟨.ref ad, ea, .inl ⟨rfl, vs0, SqL.of hl0⟩, used_val ⟨F0, δ0, q0, PostS.bind (Rl := RlD L.R) h fun v H1 F1 d δ1 _ q1 st1 rd h1 => ?_⟩⟩
      have rd : Rep L.R F1 d v := rd
      unfold Dp.chS at h1
      cases e2 : Dp.slotOb δ1 i with
      | none => rw [e2] at h1; exact h1.elim
      | some o =>
        rw [e2] at h1
        obtain ⟨ad', ea', hF, ob⟩ := slot_at q1 e2
        rw [ea] at ea'
        cases ea'
        cases o with
        | d _ _ _ => exact h1.elim
        | i _ _ => exact h1.elim
        | l xs => cases d with
          | lst ys =>
            obtain ⟨vs, hl, rs⟩ := ob
            obtain ⟨b, ws, ev, hB, rs2⟩ := rd
            have h1 : PostS L.R A W σ H1 F1 δ1 (match (if xs.length + ys.length ≤ Dp.sizeLine then some (Dp.Ob.l (xs ++ ys)) else none) with | some o' => .ok .nx (Dp.putOb δ1 i o') | none => .stuck) D := h1
            by_cases hz : xs.length + ys.length ≤ Dp.sizeLine
            · rw [if_pos hz] at h1
              refine ⟨ad, b, vs, ws, rfl, by rw [ev], hl, q1.sub _ _ hB, by rw [rs.length, rs2.length, ← sizeL]; exact hz, ?_⟩
              have ob' : ObAt L.R (upd H1 ad (.lst (vs ++ ws))) F1 ad (.l (xs ++ ys)) := ⟨_, upd_same, rs.append rs2⟩
              obtain ⟨q3, st3⟩ := q1.change e2 ea hF ⟨vs, hl, rs⟩ (fun w p z => by rw [hl] at z; cases z; exact fun y => nomatch y) ob' (fun ⟨_, z⟩ => nomatch z)
              exact h1 σ _ F1 q3 st3.toS
            · rw [if_neg hz] at h1; exact h1.elim
          | _ => exact h1.elim
/-! ### a cell stored, whatever the value's form -/
theorem sw_cell {e : Expr} {x : Str} {px : Pos} {l : Nat} {env : Env} (h : env.scope.names.lookup x = some .cell) : swapsWith e (some (.Name x px)) l env = pure false := by
  have ky : env.kindOf x = some .cell := h
  have hb : (some NameKind.cell == some NameKind.local) = false := by decide
  cases e <;> first | rfl | (unfold swapsWith; simp only [ky, hb, Bool.and_false, Bool.false_and])
def cellB (sc : Scope) (x : Str) : Bool := decide (sc.names.lookup x = some .cell)
theorem ds_setC {i : Nat} {x : Str} {p1 : Pos} (hi : N[i]? = some x) (hx : locB sc x = true) (hc : cellB sc x = true) (ha : DE L G N sc true e (Dp.ev G a)) : DS L G N sc (.Assign [.Name x p1] e p) (Dp.ex G (.set i a)) := fun A W X so =>
  (ps_set (i := i) so.nd (by rw [so.N]; exact hi) (by rw [so.sc]; exact loc_of hx) (ha A W X so.toXOk) (sw_cell (by rw [so.sc]; exact dec hc)) (.inl (so.fn1 x))).imp fun D σ H ⟨F, δ, q, h⟩ => ⟨F, δ, q, PostS.set q h⟩
/-! ### two names at once, one a cell -/
def twoCell (sc : Scope) (t : Expr) : Bool := match t with
  | .Tuple [.Name x _, .Name y _] _ _ => cellB sc x || cellB sc y
  | _ => false
theorem swap_cell {ts : List Expr} {k : Nat} {q : Pos} {env : Env} (h : twoCell env.scope (.Tuple ts k q) = true) (e : Expr) : swappedStores [.Tuple ts k q] e env = pure none := by
  match ts, h with
  | [.Name x px, .Name y py], h =>
    have nc : (some NameKind.cell == some NameKind.local) = false := by decide
    have key : ([Expr.Name x px, .Name y py].filterMap fun
      | .Name id pos => if env.kindOf id == some .local && pos.line == (([Expr.Name x px, .Name y py].head?.map (·.pos.line)).getD 0) then some id else none
      | _ => none).length ≠ 2 := by
      rcases Bool.or_eq_true_iff.mp h with h | h
      · have kx : env.kindOf x = some .cell := dec h
        simp only [List.filterMap_cons, List.filterMap_nil, kx, nc, Bool.false_and]
        split
        · split <;> simp
        · rename_i hh
          simp at hh
      · have ky : env.kindOf y = some .cell := dec h
        simp only [List.filterMap_cons, List.filterMap_nil, ky, nc, Bool.false_and]
        split <;> simp
    cases e with
    | Tuple vs _ _ =>
      unfold swappedStores
      simp only [List.length_cons, List.length_nil]
      split
      · rfl
      · split
        · rfl
        · rw [if_pos]
          rw [Bool.or_eq_true_iff]
          exact .inl (bne_iff_ne.mpr key)
    | _ => rfl
theorem ds_unpC {es : List Expr} {k : Nat} {q : Pos} {t : Dp.Tg} (ht : twoCell sc (.Tuple es k q) = true) (hs : isComp e = false) (hg : chkG N (locB sc) (.Tuple es k q) t = true) (ha : DE L G N sc true e (Dp.ev G a)) : DS L G N sc (.Assign [.Tuple es k q] e p) (Dp.ex G (.unp t a)) := by
  intro A W X so
  refine (ps_asg (ha A W X so.toXOk) (pg_at so hg) (sws_tup hs X.env) (swap_cell (by rw [so.sc]; exact ht) e)).imp fun D σ H h => ?_
  exact used_val (tS.bind (Rl := RlD L.R) (f := fun δ => (Dp.ev G a δ).used) (g := fun d σ1 => Dp.storeS (Dp.asg t d σ1)) h fun v H1 F1 d δ1 q1 k1 rd h1 => PostS.asg q1 rd h1)
/-! ### x += e, x -= e of ints -/
def augOp : Dp.Bop → Option Operator
  | .add => some .Add
  | .sub => some .Sub
  | _ => none
theorem ds_aug {i : Nat} {x : Str} {o : Dp.Bop} {op : Operator} (ho : augOp o = some op) (hi : N[i]? = some x) (hx : locB sc x = true) (ha : DE L G N sc true e (Dp.ev G a)) : DS L G N sc (.AugAssign (.Name x p1) op e p) (Dp.ex G (.aug i o a)) := by
  intro A W X so
  have key : ∀ (f : Int → Int → Int), PIp X op (ipI f) → (∀ (m n : Int) (σ : Dp.DSt), Dp.augS i o (.int m) (.int n) σ = .ok .nx (σ.set i (.sh (.int (f m n))))) → (∀ (d e : Dp.D) (σ : Dp.DSt), Dp.augS i o d e σ ≠ .stuck → ∃ m n, d = .int m ∧ e = .int n) → PS X (.AugAssign (.Name x p1) op e p) (tS L.R A W (Dp.ex G (.aug i o a))) := fun f pf e1 e2 => by
    refine (ps_aug (i := i) so.nd (by rw [so.N]; exact hi) (by rw [so.sc]; exact loc_of hx) (ha A W X so.toXOk) pf (.inl (so.fn1 x))).imp fun D σ H ⟨F, δ, q, h⟩ => ?_
    have h : PostS L.R A W σ H F δ (match δ[i]? with | some (.sh x) => (Dp.ev G a δ).used.bind fun y σ1 => Dp.augS i o x y σ1 | _ => .stuck) D := h
    cases es : δ[i]? with
    | none => rw [es] at h; exact h.elim
    | some s0 =>
      rw [es] at h
      cases s0 with
      | un => exact h.elim
      | ow _ => exact h.elim
      | bo _ => exact h.elim
      | sh d =>
        obtain ⟨v, ev, rv⟩ := q.sh i d es
        refine ⟨v, ev, ?_⟩
        have h : PostS L.R A W σ H F δ ((Dp.ev G a δ).used.bind fun y σ1 => Dp.augS i o d y σ1) D := h
        refine used_val ⟨F, δ, q, ?_⟩
        show Post L.R A W (RlD L.R) σ H F δ (Dp.ev G a δ).used _
        cases ea : (Dp.ev G a δ).used with
        | stuck => rw [ea] at h; exact h.elim
        | exc z s1 => rw [ea] at h; exact fun H' F' c dx q' st' xr => h σ H' F' c dx q' st'.toS xr
        | ok d2 s1 =>
          rw [ea] at h
          intro w H1 F1 q1 st1 rw_
          have h : PostS L.R A W σ H F δ (Dp.augS i o d d2 s1) D := h
          by_cases ns : Dp.augS i o d d2 s1 = .stuck
          · rw [ns] at h; exact h.elim
          · obtain ⟨m, n, rfl, rfl⟩ := e2 d d2 s1 ns
            rw [e1 m n s1] at h
            have hv : v = .int m := rv
            have hw : w = .int n := rw_
            refine ⟨m, n, hv, hw, ?_⟩
            have nb : noBo s1 i := by
              have hi' : i < s1.length := by rw [← q1.len, q.len]; exact (List.getElem?_eq_some_iff.mp es).1
              refine ⟨s1[i], List.getElem?_eq_getElem hi', fun o' z => ?_⟩
              have z' : s1[i]? = some (.bo o') := by rw [List.getElem?_eq_getElem hi', z]
              obtain ⟨b, eb, _, _⟩ := q1.bo i o' z'
              rw [ev] at eb
              rw [hv] at eb
              cases eb
            have a1 := Asg.one (i := i) (v := .int (f m n)) (d := .int (f m n)) q1 nb rfl
            exact h _ H1 F1 a1.rel (st1.toS.trans (StpS.slots a1.own))
  cases o with
  | add =>
    cases ho
    refine key (fun m n => m + n) ip_add (fun _ _ _ => rfl) fun d e σ h => ?_
    cases d with
    | int m => cases e with
      | int n => exact ⟨m, n, rfl, rfl⟩
      | _ => exact absurd rfl h
    | _ => exact absurd rfl h
  | sub =>
    cases ho
    refine key (fun m n => m - n) ip_sub (fun _ _ _ => rfl) fun d e σ h => ?_
    cases d with
    | int m => cases e with
      | int n => exact ⟨m, n, rfl, rfl⟩
      | _ => exact absurd rfl h
    | _ => exact absurd rfl h
  | _ => cases ho
/-! ### three names at once -/
theorem ds_par3 {i j l : Nat} {x y z : Str} {u v w : Expr} {px py pz pt pt2 : Pos} {kt k2 : Nat} {fs : Dp.Es} (hi : N[i]? = some x) (hj : N[j]? = some y) (hl : N[l]? = some z) (hij : i ≠ j) (hil : i ≠ l) (hjl : j ≠ l) (hx : sc.names.lookup x = some .local) (hy : sc.names.lookup y = some .local) (hz : sc.names.lookup z = some .local)
    (hxy : x ≠ y) (hxz : x ≠ z) (hyz : y ≠ z) (hl1 : px.line = py.line) (hl2 : px.line = pz.line) (hk : sc.kind = .function) (hp : parB [u, v, w] = true) (ha : DR L G N sc true [u, v, w] (Dp.evrs G fs)) :
    DS L G N sc (.Assign [.Tuple [.Name x px, .Name y py, .Name z pz] kt pt] (.Tuple [u, v, w] k2 pt2) p) (Dp.ex G (.par [i, j, l] fs)) := by
  intro A W X so
  have hx' : X.env.scope.names.lookup x = some .local := by rw [so.sc]; exact hx
  have hy' : X.env.scope.names.lookup y = some .local := by rw [so.sc]; exact hy
  have hz' : X.env.scope.names.lookup z = some .local := by rw [so.sc]; exact hz
  have hw : swappedStores [.Tuple [.Name x px, .Name y py, .Name z pz] kt pt] (.Tuple [u, v, w] k2 pt2) X.env = pure (some [x, y, z]) := by
    obtain ⟨h1, h2⟩ := band hp
    obtain ⟨h0, h1⟩ := band h1
    have kx : X.env.kindOf x = some .local := hx'
    have ky : X.env.kindOf y = some .local := hy'
    have kz : X.env.kindOf z = some .local := hz'
    have bk : X.env.blockKind = .function := by unfold Env.blockKind; rw [so.sc, hk]; rfl
    have ns := notStar_any h2
    have ed : [x, y, z].eraseDups = [x, y, z] := by
      simp [List.eraseDups_cons, Ne.symm hxy, Ne.symm hxz, Ne.symm hyz, beq_iff_eq]
    unfold swappedStores
    simp only [List.length_cons, List.length_nil, bk, ns, kx, ky, kz, List.filterMap_cons, List.filterMap_nil, List.head?_cons, Option.map_some, Option.getD_some, Expr.pos, ← hl1, ← hl2, bnot h0, bnot h1, ed]
    simp [ed]
    intro hh
    exfalso
    rw [List.all_cons, List.all_cons, List.all_cons, List.all_nil, Bool.and_true, Bool.and_eq_true, Bool.and_eq_true] at h2
    obtain ⟨g1, g2, g3⟩ := h2
    have no : ∀ t : Expr, notStar t = true → (match t with | .Starred _ _ => true | _ => false) = true → False := fun t gt ht => by
      cases t <;> first | exact Bool.false_ne_true ht | exact Bool.false_ne_true gt
    rcases hh with hh | hh | hh
    · exact no u g1 hh
    · exact no v g2 hh
    · exact no w g3 hh
  refine (ps_par3 (so.calm rfl) so.nd (by rw [so.N]; exact hi) (by rw [so.N]; exact hj) (by rw [so.N]; exact hl) hij hil hjl hx' hy' hz' (ha A W X so.toXOk) hw).imp fun D σ H h => ?_
  obtain ⟨F, δ, q, h⟩ := h
  refine ⟨F, δ, q, (PostS.par q h).imp fun vs H1 ⟨l, h⟩ => ?_⟩
  match vs, l, h with
  | [v1, v2, v3], _, h => exact ⟨v1, v2, v3, rfl, h⟩
end
end DpS
end

section
set_option Elab.async false
set_option linter.all false
set_option maxRecDepth 100000
set_option maxHeartbeats 4000000
set_option autoImplicit false
/-! DpB19: the check of statements; it is sound. -/
namespace DpS
open PySem PySem.Spec L2
def unAsg : Stmt → Option (Expr × Expr)
  | .Assign [t] e _ => some (t, e)
  | _ => none
def unRet : Stmt → Option (Option Expr)
  | .Return e _ => some e
  | _ => none
def unIf : Stmt → Option (Expr × List Stmt × List Stmt)
  | .If c a b _ => some (c, a, b)
  | _ => none
def unFor : Stmt → Option (Expr × Expr × List Stmt)
  | .For t i b [] _ => some (t, i, b)
  | _ => none
def unWhl : Stmt → Option (Expr × List Stmt)
  | .While c b [] _ => some (c, b)
  | _ => none
def unExp : Stmt → Option Expr
  | .Expr e _ => some e
  | _ => none
def unRai : Stmt → Option Expr
  | .Raise (some e) none _ => some e
  | _ => none
section
variable {s : Stmt}
theorem unAsg_ok {t e : Expr} (h : unAsg s = some (t, e)) : ∃ p, s = .Assign [t] e p := by
  cases s with
  | Assign ts v p => match ts, h with
    | [_], h => cases h; exact ⟨_, rfl⟩
  | _ => cases h
theorem unRet_ok {e : Option Expr} (h : unRet s = some e) : ∃ p, s = .Return e p := by cases s <;> cases h; exact ⟨_, rfl⟩
theorem unIf_ok {c : Expr} {a b : List Stmt} (h : unIf s = some (c, a, b)) : ∃ p, s = .If c a b p := by cases s <;> cases h; exact ⟨_, rfl⟩
theorem unFor_ok {t i : Expr} {b : List Stmt} (h : unFor s = some (t, i, b)) : ∃ p, s = .For t i b [] p := by
  cases s with
  | For t i b o p => cases o with
    | nil => cases h; exact ⟨_, rfl⟩
    | cons _ _ => cases h
  | _ => cases h
theorem unWhl_ok {c : Expr} {b : List Stmt} (h : unWhl s = some (c, b)) : ∃ p, s = .While c b [] p := by
  cases s with
  | While t b o p => cases o with
    | nil => cases h; exact ⟨_, rfl⟩
    | cons _ _ => cases h
  | _ => cases h
theorem unExp_ok {e : Expr} (h : unExp s = some e) : ∃ p, s = .Expr e p := by cases s <;> cases h; exact ⟨_, rfl⟩
theorem unRai_ok {e : Expr} (h : unRai s = some e) : ∃ p, s = .Raise (some e) none p := by
  cases s with
  | Raise x c p => cases x with
    | none => cases h
    | some x => cases c with
      | none => cases h; exact ⟨_, rfl⟩
      | some _ => cases h
  | _ => cases h
end
def isLc : Dp.E → Bool
  | .lc _ _ _ _ _ => true
  | _ => false
def locl (sc : Scope) (x : Str) : Bool := decide (sc.names.lookup x = some .local)
def isFun (sc : Scope) : Bool := decide (sc.kind = .function)
/-- x = [.. for ..] -/
def chkSetLc (L : LX) (N : List Str) (sc : Scope) (i : Nat) (t e : Expr) : Dp.E → Bool
  | .lc is tg it c elt => match t with
    | .Name x px => match e with
      | .ListComp y [⟨tx, iter, ifs, 0⟩] scope q => decide (N[i]? = some x) && locl sc x && isFun sc && (px.line == q.line) && !(scope.names.any fun (n, k) => n == x && (k == .local || k == .cell)) && blkC N sc scope (ownOf N is) && decide ((ownOf N is).map (·.2) = is) && !isSet iter && chkG N (lcB sc scope) tx tg && (tgIx tg).all (fun i => is.contains i) && chkI L N true it sc tx iter && (match ifs with
          | [] => isTru c
          | [z] => chkE L N true c (relS scope sc) z
          | _ => false) && chkE L N true elt (relS scope sc) y
      | _ => false
    | _ => false
  | _ => false
def chkSet (L : LX) (N : List Str) (sc : Scope) (i : Nat) (t e : Expr) (a : Dp.E) : Bool := match unName t with
  | some x => decide (N[i]? = some x) && locB sc x && (!isComp e || cellB sc x) && chkE L N true a sc e
  | none => false
def chkPar (L : LX) (N : List Str) (sc : Scope) (i j : Nat) (t e : Expr) (fs : Dp.Es) : Bool := match t with
  | .Tuple [.Name x px, .Name y py] _ _ => match e with
    | .Tuple [u, v] _ _ => decide (N[i]? = some x) && decide (N[j]? = some y) && decide (i ≠ j) && locl sc x && locl sc y && decide (x ≠ y) && decide (px.line = py.line) && isFun sc && parB [u, v] && chkEs L N true fs sc [u, v]
    | _ => false
  | _ => false
def chkSeti (L : LX) (N : List Str) (sc : Scope) (i : Nat) (t e : Expr) (ix a : Dp.E) : Bool := match unSub t with
  | some (o, k) => match unName o with
    | some x => decide (N[i]? = some x) && visB sc x && okName x && !isComp e && !isSlice k && chkE L N true a sc e && chkE L N true ix sc k
    | none => false
  | none => false
def chkApp (L : LX) (N : List Str) (sc : Scope) (i : Nat) (e : Expr) (a : Dp.E) : Bool := match unMeth e with
  | some (o, n, b) => match unName o with
    | some x => decide (n = "append") && decide (N[i]? = some x) && visB sc x && okName x && chkE L N true a sc b
    | none => false
  | none => false
def chkExt (L : LX) (N : List Str) (sc : Scope) (i : Nat) (e : Expr) (a : Dp.E) : Bool := match unMeth e with
  | some (o, n, b) => match unName o with
    | some x => decide (n = "extend") && decide (N[i]? = some x) && visB sc x && okName x && chkE L N true a sc b
    | none => false
  | none => false
def unAug : Stmt → Option (Expr × Operator × Expr)
  | .AugAssign t o e _ => some (t, o, e)
  | _ => none
theorem unAug_ok {s : Stmt} {t e : Expr} {o : Operator} (h : unAug s = some (t, o, e)) : ∃ p, s = .AugAssign t o e p := by cases s <;> cases h; exact ⟨_, rfl⟩
def chkAug (L : LX) (N : List Str) (sc : Scope) (i : Nat) (o : Dp.Bop) (a : Dp.E) (s : Stmt) : Bool := match unAug s with
  | some (t, op, e) => match unName t with
    | some x => decide (augOp o = some op) && decide (N[i]? = some x) && locB sc x && chkE L N true a sc e
    | none => false
  | none => false
def chkSetLc2 (L : LX) (N : List Str) (sc : Scope) (i : Nat) (t e : Expr) : Dp.E → Bool
  | .lc2 is is2 tg it tg2 it2 elt => match t with
    | .Name x px => match e with
      | .ListComp y [⟨tx, iter, [], 0⟩, ⟨tx2, iter2, [], 0⟩] scope q => decide (N[i]? = some x) && locl sc x && isFun sc && (px.line == q.line) && !(scope.names.any fun (n, k) => n == x && (k == .local || k == .cell)) && blkC N sc scope (ownOf N is) && decide ((ownOf N is).map (·.2) = is) && !isSet iter && !isSet iter2 && chkG N (lcB sc scope) tx tg && chkG N (lcB sc scope) tx2 tg2 &&
          (tgIx tg).all (fun i => is.contains i) && (tgIx tg2).all (fun i => is2.contains i) && is2.all (fun i => is.contains i) && chkI L N true it sc tx iter && chkI L N true it2 (relS scope sc) tx2 iter2 && chkE L N true elt (relS scope sc) y
      | _ => false
    | _ => false
  | _ => false
def chkSetf (L : LX) (N : List Str) (sc : Scope) (i f : Nat) (t e : Expr) (a : Dp.E) : Bool := match t with
  | .Attribute o y _ => match unName o with
    | some x => decide (N[i]? = some x) && visB sc x && okName x && decide (L.anm f = some y) && !isComp e && chkE L N true a sc e
    | none => false
  | _ => false
def chkPar3 (L : LX) (N : List Str) (sc : Scope) (i j l : Nat) (t e : Expr) (fs : Dp.Es) : Bool := match t with
  | .Tuple [.Name x px, .Name y py, .Name z pz] _ _ => match e with
    | .Tuple [u, v, w] _ _ => decide (N[i]? = some x) && decide (N[j]? = some y) && decide (N[l]? = some z) && decide (i ≠ j) && decide (i ≠ l) && decide (j ≠ l) && locl sc x && locl sc y && locl sc z && decide (x ≠ y) && decide (x ≠ z) && decide (y ≠ z) && decide (px.line = py.line) && decide (px.line = pz.line) && isFun sc && parB [u, v, w] && chkEs L N true fs sc [u, v, w]
    | _ => false
  | _ => false
def chkParS (L : LX) (N : List Str) (sc : Scope) (is : List Nat) (fs : Dp.Es) (s : Stmt) : Bool := match is, unAsg s with
  | [i, j], some (t, e) => chkPar L N sc i j t e fs
  | [i, j, l], some (t, e) => chkPar3 L N sc i j l t e fs
  | _, _ => false
def chkMm (L : LX) (N : List Str) (sc : Scope) (m : Dp.Mm) (i : Nat) (a : Dp.E) (s : Stmt) : Bool := match m, unExp s with
  | .append, some e => chkApp L N sc i e a
  | .extend, some e => chkExt L N sc i e a
  | _, _ => false
def isNil : Dp.Es → Bool
  | .nil => true
  | _ => false
def chkRai (L : LX) (N : List Str) (sc : Scope) (c : Nat) (e : Expr) (fs : Dp.Es) : Bool := match unCallN e with
  | some (x, []) => decide (L.xnm c = some x) && glB sc x && okName x && isNil fs
  | some (x, [y]) => (match fs with
    | .cons fe .nil => decide (L.xam c = some x) && glB sc x && okName x && notStar y && chkE L N true fe sc y
    | _ => false)
  | _ => false
mutual
def chkS (L : LX) (N : List Str) (sc : Scope) : Dp.S → Stmt → Bool
  | .set i a, s => match unAsg s with
    | some (t, e) => chkSet L N sc i t e a || chkSetLc L N sc i t e a || chkSetLc2 L N sc i t e a
    | none => false
  | .unp tg a, s => match unAsg s with
    | some (t, e) => (unTup t).isSome && ((unTup e).isNone || twoCell sc t) && !isComp e && chkG N (locB sc) t tg && chkE L N true a sc e
    | none => false
  | .par is fs, s => chkParS L N sc is fs s
  | .seti i ix a, s => match unAsg s with
    | some (t, e) => chkSeti L N sc i t e ix a
    | none => false
  | .bad, s => true
  | .setf i f a, s => match unAsg s with
    | some (t, e) => chkSetf L N sc i f t e a
    | none => false
  | .aug i o a, s => chkAug L N sc i o a s
  | .mm m i a, s => chkMm L N sc m i a s
  | .ex a, s => match unExp s with
    | some e => !isComp e && chkE L N true a sc e
    | none => false
  | .ret a, s => match unRet s with
    | some (some e) => chkE L N true a sc e
    | _ => false
  | .retn, s => match unRet s with
    | some none => true
    | _ => false
  | .ife c a b, s => match unIf s with
    | some (x, y, z) => chkE L N true c sc x && chkSs L N sc a y && chkSs L N sc b z
    | none => false
  | .for_ t it b, s => match unFor s with
    | some (x, y, z) => chkG N (locB sc) x t && !isSet y && chkI L N true it sc x y && chkSs L N sc b z
    | none => false
  | .whl c b, s => match unWhl s with
    | some (x, y) => chkE L N true c sc x && chkSs L N sc b y
    | none => false
  | .rais c fs, s => match unRai s with
    | some e => chkRai L N sc c e fs
    | none => false
  | .pass, s => match s with
    | .Pass _ => true
    | _ => false
  | .brk, s => match s with
    | .Break _ => true
    | _ => false
  | .cont, s => match s with
    | .Continue _ => true
    | _ => false
  | _, _ => false
def chkSs (L : LX) (N : List Str) (sc : Scope) : Dp.Ss → List Stmt → Bool
  | .nil, [] => true
  | .cons a as, s :: ss => chkS L N sc a s && chkSs L N sc as ss
  | _, _ => false
end
section
variable {L : LX} {G : Dp.Gam} {N : List Str} {sc : Scope}
theorem chkSet_ok {i : Nat} {t e : Expr} {a : Dp.E} {p : Pos} (h : chkSet L N sc i t e a = true) : DS L G N sc (.Assign [t] e p) (Dp.ex G (.set i a)) := by
  unfold chkSet at h
  cases h0 : unName t with
  | none => rw [h0] at h; cases h
  | some x =>
    rw [h0] at h
    obtain ⟨h, h4⟩ := band h
    obtain ⟨h, h3⟩ := band h
    obtain ⟨h1, h2⟩ := band h
    obtain ⟨px, rfl⟩ := unName_ok h0
    cases hc : cellB sc x with
    | true => exact ds_setC (dec h1) h2 hc (chkE_ok a L true sc e h4).de
    | false =>
      rw [hc, Bool.or_false] at h3
      exact ds_set (dec h1) h2 (bnot h3) (chkE_ok a L true sc e h4).de
theorem chkSetLc_ok {i : Nat} {t e : Expr} {a : Dp.E} {p : Pos} (h : chkSetLc L N sc i t e a = true) : DS L G N sc (.Assign [t] e p) (Dp.ex G (.set i a)) := by
  cases a with
  | lc is tg it c elt => cases t with
    | Name x px => cases e with
      | ListComp y gs scope q =>
        match gs, h with
        | [⟨tx, iter, ifs, 0⟩], h =>
          obtain ⟨h, g13⟩ := band h
          obtain ⟨h, g12⟩ := band h
          obtain ⟨h, g11⟩ := band h
          obtain ⟨h, g10⟩ := band h
          obtain ⟨h, g9⟩ := band h
          obtain ⟨h, g8⟩ := band h
          obtain ⟨h, g7⟩ := band h
          obtain ⟨h, g6⟩ := band h
          obtain ⟨h, g5⟩ := band h
          obtain ⟨h, g4⟩ := band h
          obtain ⟨h, g3⟩ := band h
          obtain ⟨g1, g2⟩ := band h
          have e0 := dec g7
          have key := ds_setlc (G := G) (ifs := ifs) (own := ownOf N is) (p := p) (t := tg) (it := it) (fc := c) (fe := elt) (dec g1) (dec g2) (dec g3) g4 (bnot g5) g6 (bnot g8) g9 (fun i hi => by rw [e0]; exact List.contains_iff_mem.mp (List.all_eq_true.mp g10 i hi)) (chkI_ok it L true sc tx iter g11)
            (by
              match ifs, g12 with
              | [], g12 =>
                refine .inl ⟨rfl, fun τ => ?_⟩
                cases c with
                | k d => cases d with
                  | bl b => cases b with
                    | true => rfl
                    | false => cases g12
                  | _ => cases g12
                | _ => cases g12
              | [z], g12 => exact .inr ⟨z, rfl, (chkE_ok c L true (relS scope sc) z g12).dt⟩
              | _ :: _ :: _, g12 => cases g12) (chkE_ok elt L true (relS scope sc) y g13).de
          rw [e0] at key
          exact key
      | _ => cases h
    | _ => cases h
  | _ => cases h
theorem chkPar_ok {i j : Nat} {t e : Expr} {fs : Dp.Es} {p : Pos} (h : chkPar L N sc i j t e fs = true) : DS L G N sc (.Assign [t] e p) (Dp.ex G (.par [i, j] fs)) := by
  unfold chkPar at h
  split at h
  · split at h
    · obtain ⟨h, g10⟩ := band h
      obtain ⟨h, g9⟩ := band h
      obtain ⟨h, g8⟩ := band h
      obtain ⟨h, g7⟩ := band h
      obtain ⟨h, g6⟩ := band h
      obtain ⟨h, g5⟩ := band h
      obtain ⟨h, g4⟩ := band h
      obtain ⟨h, g3⟩ := band h
      obtain ⟨g1, g2⟩ := band h
      exact ds_par2 (dec g1) (dec g2) (dec g3) (dec g4) (dec g5) (dec g6) (dec g7) (dec g8) g9 (chkEs_okR fs true sc _ g10)
    · cases h
  · cases h
theorem chkSeti_ok {i : Nat} {t e : Expr} {ix a : Dp.E} {p : Pos} (h : chkSeti L N sc i t e ix a = true) : DS L G N sc (.Assign [t] e p) (Dp.ex G (.seti i ix a)) := by
  unfold chkSeti at h
  cases h0 : unSub t with
  | none => rw [h0] at h; cases h
  | some w =>
    obtain ⟨o, k⟩ := w
    rw [h0] at h
    have h : (match unName o with
      | some x => decide (N[i]? = some x) && visB sc x && okName x && !isComp e && !isSlice k && chkE L N true a sc e && chkE L N true ix sc k
      | none => false) = true := h
    cases h1 : unName o with
    | none => rw [h1] at h; cases h
    | some x =>
      rw [h1] at h
      obtain ⟨h, g7⟩ := band h
      obtain ⟨h, g6⟩ := band h
      obtain ⟨h, g5⟩ := band h
      obtain ⟨h, g4⟩ := band h
      obtain ⟨h, g3⟩ := band h
      obtain ⟨g1, g2⟩ := band h
      obtain ⟨q, rfl⟩ := unSub_ok h0
      obtain ⟨px, rfl⟩ := unName_ok h1
      exact ds_seti (dec g1) g2 g3 (bnot g4) (bnot g5) (chkE_ok a L true sc e g6).de (chkE_ok ix L true sc k g7).de
theorem chkApp_ok {i : Nat} {e : Expr} {a : Dp.E} {p : Pos} (h : chkApp L N sc i e a = true) : DS L G N sc (.Expr e p) (Dp.ex G (.mm .append i a)) := by
  unfold chkApp at h
  cases h0 : unMeth e with
  | none => rw [h0] at h; cases h
  | some w =>
    obtain ⟨o, n, b⟩ := w
    rw [h0] at h
    have h : (match unName o with
      | some x => decide (n = "append") && decide (N[i]? = some x) && visB sc x && okName x && chkE L N true a sc b
      | none => false) = true := h
    cases h1 : unName o with
    | none => rw [h1] at h; cases h
    | some x =>
      rw [h1] at h
      obtain ⟨h, g5⟩ := band h
      obtain ⟨h, g4⟩ := band h
      obtain ⟨h, g3⟩ := band h
      obtain ⟨g1, g2⟩ := band h
      obtain ⟨px, rfl⟩ := unName_ok h1
      obtain ⟨ap, q, rfl, k1, k2, k3⟩ := unMeth_ok h0
      have := dec g1
      subst this
      exact ds_append (dec g2) g3 g4 k3 k1 (chkE_ok a L true sc b g5).de
theorem chkExt_ok {i : Nat} {e : Expr} {a : Dp.E} {p : Pos} (h : chkExt L N sc i e a = true) : DS L G N sc (.Expr e p) (Dp.ex G (.mm .extend i a)) := by
  unfold chkExt at h
  cases h0 : unMeth e with
  | none => rw [h0] at h; cases h
  | some w =>
    obtain ⟨o, n, b⟩ := w
    rw [h0] at h
    have h : (match unName o with
      | some x => decide (n = "extend") && decide (N[i]? = some x) && visB sc x && okName x && chkE L N true a sc b
      | none => false) = true := h
    cases h1 : unName o with
    | none => rw [h1] at h; cases h
    | some x =>
      rw [h1] at h
      obtain ⟨h, g5⟩ := band h
      obtain ⟨h, g4⟩ := band h
      obtain ⟨h, g3⟩ := band h
      obtain ⟨g1, g2⟩ := band h
      obtain ⟨px, rfl⟩ := unName_ok h1
      obtain ⟨ap, q, rfl, k1, k2, k3⟩ := unMeth_ok h0
      have := dec g1
      subst this
      exact ds_extend (dec g2) g3 g4 k3 k1 (chkE_ok a L true sc b g5).de
theorem chkAug_ok {i : Nat} {o : Dp.Bop} {a : Dp.E} {s : Stmt} (h : chkAug L N sc i o a s = true) : DS L G N sc s (Dp.ex G (.aug i o a)) := by
  unfold chkAug at h
  cases h0 : unAug s with
  | none => rw [h0] at h; cases h
  | some w =>
    obtain ⟨t, op, e⟩ := w
    rw [h0] at h
    have h : (match unName t with
      | some x => decide (augOp o = some op) && decide (N[i]? = some x) && locB sc x && chkE L N true a sc e
      | none => false) = true := h
    cases h1 : unName t with
    | none => rw [h1] at h; cases h
    | some x =>
      rw [h1] at h
      obtain ⟨h, g4⟩ := band h
      obtain ⟨h, g3⟩ := band h
      obtain ⟨g1, g2⟩ := band h
      obtain ⟨p, rfl⟩ := unAug_ok h0
      obtain ⟨px, rfl⟩ := unName_ok h1
      exact ds_aug (dec g1) (dec g2) g3 (chkE_ok a L true sc e g4).de
theorem chkPar3_ok {i j l : Nat} {t e : Expr} {fs : Dp.Es} {p : Pos} (h : chkPar3 L N sc i j l t e fs = true) : DS L G N sc (.Assign [t] e p) (Dp.ex G (.par [i, j, l] fs)) := by
  unfold chkPar3 at h
  split at h
  · split at h
    · obtain ⟨h, g17⟩ := band h
      obtain ⟨h, g16⟩ := band h
      obtain ⟨h, g15⟩ := band h
      obtain ⟨h, g14⟩ := band h
      obtain ⟨h, g13⟩ := band h
      obtain ⟨h, g12⟩ := band h
      obtain ⟨h, g11⟩ := band h
      obtain ⟨h, g10⟩ := band h
      obtain ⟨h, g9⟩ := band h
      obtain ⟨h, g8⟩ := band h
      obtain ⟨h, g7⟩ := band h
      obtain ⟨h, g6⟩ := band h
      obtain ⟨h, g5⟩ := band h
      obtain ⟨h, g4⟩ := band h
      obtain ⟨h, g3⟩ := band h
      obtain ⟨g1, g2⟩ := band h
      exact ds_par3 (dec g1) (dec g2) (dec g3) (dec g4) (dec g5) (dec g6) (dec g7) (dec g8) (dec g9) (dec g10) (dec g11) (dec g12) (dec g13) (dec g14) (dec g15) g16 (chkEs_okR fs true sc _ g17)
    · cases h
  · cases h
theorem chkParS_ok {is : List Nat} {fs : Dp.Es} {s : Stmt} (h : chkParS L N sc is fs s = true) : DS L G N sc s (Dp.ex G (.par is fs)) := by
  unfold chkParS at h
  split at h
  · rename_i e0
    obtain ⟨p, rfl⟩ := unAsg_ok e0
    exact chkPar_ok h
  · rename_i e0
    obtain ⟨p, rfl⟩ := unAsg_ok e0
    exact chkPar3_ok h
  · cases h
theorem chkMm_ok {m : Dp.Mm} {i : Nat} {a : Dp.E} {s : Stmt} (h : chkMm L N sc m i a s = true) : DS L G N sc s (Dp.ex G (.mm m i a)) := by
  unfold chkMm at h
  split at h
  · rename_i e0
    obtain ⟨p, rfl⟩ := unExp_ok e0
    exact chkApp_ok h
  · rename_i e0
    obtain ⟨p, rfl⟩ := unExp_ok e0
    exact chkExt_ok h
  · cases h
theorem chkRai_ok {c : Nat} {e : Expr} {fs : Dp.Es} {p : Pos} (h : chkRai L N sc c e fs = true) : DS L G N sc (.Raise (some e) none p) (Dp.ex G (.rais c fs)) := by
  unfold chkRai at h
  cases h0 : unCallN e with
  | none => rw [h0] at h; cases h
  | some w =>
    obtain ⟨x, es⟩ := w
    rw [h0] at h
    obtain ⟨p1, p2, rfl⟩ := unCallN_ok h0
    match es, h with
    | [], h =>
      obtain ⟨h, g4⟩ := band h
      obtain ⟨h, g3⟩ := band h
      obtain ⟨g1, g2⟩ := band h
      cases fs with
      | nil => exact ds_rais (dec g1) g2 g3
      | cons _ _ => cases g4
    | [y], h =>
      match fs, h with
      | .cons fe .nil, h =>
        obtain ⟨h, g5⟩ := band h
        obtain ⟨h, g4⟩ := band h
        obtain ⟨h, g3⟩ := band h
        obtain ⟨g1, g2⟩ := band h
        exact ds_raisA (dec g1) g2 g3 g4 (chkE_ok fe L true sc y g5).de
      | .nil, h => cases h
      | .cons _ (.cons _ _), h => cases h
    | _ :: _ :: _, h => cases h
theorem chkSetLc2_ok {i : Nat} {t e : Expr} {a : Dp.E} {p : Pos} (h : chkSetLc2 L N sc i t e a = true) : DS L G N sc (.Assign [t] e p) (Dp.ex G (.set i a)) := by
  cases a with
  | lc2 is is2 tg it tg2 it2 elt => cases t with
    | Name x px => cases e with
      | ListComp y gs scope q =>
        match gs, h with
        | [⟨tx, iter, [], 0⟩, ⟨tx2, iter2, [], 0⟩], h =>
          obtain ⟨h, g17⟩ := band h
          obtain ⟨h, g16⟩ := band h
          obtain ⟨h, g15⟩ := band h
          obtain ⟨h, g14⟩ := band h
          obtain ⟨h, g13⟩ := band h
          obtain ⟨h, g12⟩ := band h
          obtain ⟨h, g11⟩ := band h
          obtain ⟨h, g10⟩ := band h
          obtain ⟨h, g9⟩ := band h
          obtain ⟨h, g8⟩ := band h
          obtain ⟨h, g7⟩ := band h
          obtain ⟨h, g6⟩ := band h
          obtain ⟨h, g5⟩ := band h
          obtain ⟨h, g4⟩ := band h
          obtain ⟨h, g3⟩ := band h
          obtain ⟨g1, g2⟩ := band h
          have e0 := dec g7
          have key := ds_setlc2 (G := G) (own := ownOf N is) (own2 := is2) (p := p) (t := tg) (t2 := tg2) (it := it) (it2 := it2) (fe := elt) (dec g1) (dec g2) (dec g3) g4 (bnot g5) g6 (bnot g8) (bnot g9) g10 g11 (fun i hi => by rw [e0]; exact List.contains_iff_mem.mp (List.all_eq_true.mp g12 i hi)) (fun i hi => List.contains_iff_mem.mp (List.all_eq_true.mp g13 i hi))
            (fun i hi => by rw [e0]; exact List.contains_iff_mem.mp (List.all_eq_true.mp g14 i hi)) (chkI_ok it L true sc tx iter g15) (chkI_ok it2 L true (relS scope sc) tx2 iter2 g16) (chkE_ok elt L true (relS scope sc) y g17).de
          rw [e0] at key
          exact key
      | _ => cases h
    | _ => cases h
  | _ => cases h
theorem chkSetf_ok {i f : Nat} {t e : Expr} {a : Dp.E} {p : Pos} (h : chkSetf L N sc i f t e a = true) : DS L G N sc (.Assign [t] e p) (Dp.ex G (.setf i f a)) := by
  cases t with
  | Attribute o y q =>
    have h : (match unName o with
      | some x => decide (N[i]? = some x) && visB sc x && okName x && decide (L.anm f = some y) && !isComp e && chkE L N true a sc e
      | none => false) = true := h
    cases h0 : unName o with
    | none => rw [h0] at h; cases h
    | some x =>
      rw [h0] at h
      obtain ⟨px, rfl⟩ := unName_ok h0
      obtain ⟨h, g6⟩ := band h
      obtain ⟨h, g5⟩ := band h
      obtain ⟨h, g4⟩ := band h
      obtain ⟨h, g3⟩ := band h
      obtain ⟨g1, g2⟩ := band h
      exact ds_setf (dec g1) g2 g3 (dec g4) (bnot g5) (chkE_ok a L true sc e g6).de
  | _ => cases h
mutual
theorem chkS_ok : ∀ (x : Dp.S) (s : Stmt), chkS L N sc x s = true → DS L G N sc s (Dp.ex G x)
  | .set i a, s, h => by
    rw [chkS] at h
    cases h0 : unAsg s with
    | none => rw [h0] at h; cases h
    | some w =>
      obtain ⟨t, e⟩ := w
      rw [h0] at h
      obtain ⟨p, rfl⟩ := unAsg_ok h0
      rcases (Bool.or_eq_true _ _ ▸ h : _ ∨ _) with h | h
      · rcases (Bool.or_eq_true _ _ ▸ h : _ ∨ _) with h | h
        · exact chkSet_ok h
        · exact chkSetLc_ok h
      · exact chkSetLc2_ok h
  | .unp tg a, s, h => by
    rw [chkS] at h
    cases h0 : unAsg s with
    | none => rw [h0] at h; cases h
    | some w =>
      obtain ⟨t, e⟩ := w
      rw [h0] at h
      obtain ⟨p, rfl⟩ := unAsg_ok h0
      obtain ⟨h, g5⟩ := band h
      obtain ⟨h, g4⟩ := band h
      obtain ⟨h, g3⟩ := band h
      obtain ⟨g1, g2⟩ := band h
      obtain ⟨es, he⟩ := Option.isSome_iff_exists.mp g1
      obtain ⟨k, q, rfl⟩ := unTup_ok he
      cases hc : twoCell sc (.Tuple es k q) with
      | true => exact ds_unpC hc (bnot g3) g4 (chkE_ok a L true sc e g5).de
      | false =>
        rw [hc, Bool.or_false] at g2
        exact ds_unp g2 (bnot g3) g4 (chkE_ok a L true sc e g5).de
  | .par is fs, s, h => by
    rw [chkS] at h
    exact chkParS_ok h
  | .bad, s, h => ds_bad
  | .aug i o a, s, h => by
    rw [chkS] at h
    exact chkAug_ok h
  | .seti i ix a, s, h => by
    rw [chkS] at h
    cases h0 : unAsg s with
    | none => rw [h0] at h; cases h
    | some w =>
      obtain ⟨t, e⟩ := w
      rw [h0] at h
      obtain ⟨p, rfl⟩ := unAsg_ok h0
      exact chkSeti_ok h
  | .mm m i a, s, h => by
    rw [chkS] at h
    exact chkMm_ok h
  | .ex a, s, h => by
    rw [chkS] at h
    cases h0 : unExp s with
    | none => rw [h0] at h; cases h
    | some e =>
      rw [h0] at h
      obtain ⟨p, rfl⟩ := unExp_ok h0
      obtain ⟨g1, g2⟩ := band h
      exact ds_ex (bnot g1) (chkE_ok a L true sc e g2).de
  | .ret a, s, h => by
    rw [chkS] at h
    cases h0 : unRet s with
    | none => rw [h0] at h; cases h
    | some e =>
      rw [h0] at h
      obtain ⟨p, rfl⟩ := unRet_ok h0
      cases e with
      | none => cases h
      | some e => exact ds_ret (chkE_ok a L true sc e h).de
  | .retn, s, h => by
    rw [chkS] at h
    cases h0 : unRet s with
    | none => rw [h0] at h; cases h
    | some e =>
      rw [h0] at h
      obtain ⟨p, rfl⟩ := unRet_ok h0
      cases e with
      | none => exact ds_retn
      | some e => cases h
  | .ife c a b, s, h => by
    rw [chkS] at h
    cases h0 : unIf s with
    | none => rw [h0] at h; cases h
    | some w =>
      obtain ⟨x, y, z⟩ := w
      rw [h0] at h
      obtain ⟨p, rfl⟩ := unIf_ok h0
      obtain ⟨h, g3⟩ := band h
      obtain ⟨g1, g2⟩ := band h
      exact ds_if (chkE_ok c L true sc x g1).dt (chkSs_ok a y g2) (chkSs_ok b z g3)
  | .for_ t it b, s, h => by
    rw [chkS] at h
    cases h0 : unFor s with
    | none => rw [h0] at h; cases h
    | some w =>
      obtain ⟨x, y, z⟩ := w
      rw [h0] at h
      obtain ⟨p, rfl⟩ := unFor_ok h0
      obtain ⟨h, g4⟩ := band h
      obtain ⟨h, g3⟩ := band h
      obtain ⟨g1, g2⟩ := band h
      exact ds_for g1 (bnot g2) (chkI_ok it L true sc x y g3) (chkSs_ok b z g4)
  | .whl c b, s, h => by
    rw [chkS] at h
    cases h0 : unWhl s with
    | none => rw [h0] at h; cases h
    | some w =>
      obtain ⟨x, y⟩ := w
      rw [h0] at h
      obtain ⟨p, rfl⟩ := unWhl_ok h0
      obtain ⟨g1, g2⟩ := band h
      exact ds_whl (chkE_ok c L true sc x g1).dt (chkSs_ok b y g2)
  | .rais c fs, s, h => by
    rw [chkS] at h
    cases h0 : unRai s with
    | none => rw [h0] at h; cases h
    | some e =>
      rw [h0] at h
      obtain ⟨p, rfl⟩ := unRai_ok h0
      exact chkRai_ok h
  | .pass, s, h => by
    cases s with
    | Pass p => exact ds_pass
    | _ => cases h
  | .brk, s, h => by
    cases s with
    | Break p => exact ds_brk
    | _ => cases h
  | .cont, s, h => by
    cases s with
    | Continue p => exact ds_cont
    | _ => cases h
  | .augi _ _ _ _, s, h => by cases h
  | .setf i f a, s, h => by
    rw [chkS] at h
    cases h0 : unAsg s with
    | none => rw [h0] at h; cases h
    | some w =>
      obtain ⟨t, e⟩ := w
      rw [h0] at h
      obtain ⟨p, rfl⟩ := unAsg_ok h0
      exact chkSetf_ok h
theorem chkSs_ok : ∀ (x : Dp.Ss) (ss : List Stmt), chkSs L N sc x ss = true → DSs L G N sc ss (Dp.exs G x)
  | .nil, ss, h => by
    cases ss with
    | nil => exact dss_nil
    | cons _ _ => cases h
  | .cons a as, ss, h => by
    cases ss with
    | nil => cases h
    | cons s ss =>
      obtain ⟨g1, g2⟩ := band h
      exact dss_cons (chkS_ok a s g1) (chkSs_ok as ss g2)
end
end
end DpS
end

section
set_option Elab.async false
set_option linter.all false
set_option maxRecDepth 100000
set_option maxHeartbeats 4000000
set_option autoImplicit false
/-! DpB20: a def keeps what its term tells. -/
namespace DpS
open PySem PySem.Spec L2
section
variable {R : RC} {T : List (Addr × Str)} {H F : Hp} {N : List Str} {vs ws : List V} {ds : List Dp.D} {ad : Addr} {o : Dp.Ob} {n : Nat}
theorem start_at {N : List Str} {vs : List V} {i : Nat} {v : V} (h : vs[i]? = some v) : (L2.start N vs)[i]? = some (some v) := by
  unfold L2.start
  have hi : i < vs.length := (List.getElem?_eq_some_iff.mp h).1
  rw [List.getElem?_append_left (by rw [List.length_map]; exact hi), List.getElem?_map, h]; rfl
theorem start_len (N : List Str) (vs : List V) (h : vs.length ≤ N.length) : (L2.start N vs).length = N.length := by
  unfold L2.start
  rw [List.length_append, List.length_map, List.length_replicate]
  omega
/-- the slots at the entry -/
def ent (l : List Dp.Sl) (n : Nat) : Dp.DSt := l ++ List.replicate n .un
theorem ent_at {l : List Dp.Sl} {n i : Nat} {s : Dp.Sl} (h : (ent l n)[i]? = some s) (ne : s ≠ .un) : l[i]? = some s := by
  unfold ent at h
  by_cases hi : i < l.length
  · rwa [List.getElem?_append_left hi] at h
  · rw [List.getElem?_append_right (by omega), List.getElem?_replicate] at h
    split at h
    · cases h; exact absurd rfl ne
    · cases h
theorem start0 (sub : Sub F H) (ntb : ∀ b o, F b = some o → ¬ Tb o) (tab : LamX.Tabs T H) (rs : Reps R F ds vs) (hn : vs.length + n = N.length) : DRel R ⟨H, F, none, T⟩ (L2.start N vs) H F (ent (ds.map .sh) n) where
  len := by
    rw [start_len N vs (by omega)]
    unfold ent
    rw [List.length_append, List.length_map, List.length_replicate, ← rs.length, hn]
  sub := sub
  old := Sub.refl _
  ntb := ntb
  sh := fun i d h => by
    have h := ent_at h (fun z => nomatch z)
    rw [List.getElem?_map] at h
    obtain ⟨d', hd, e⟩ := Option.map_eq_some_iff.mp h
    cases e
    obtain ⟨v, hv, rv⟩ := rs.at hd
    exact ⟨v, start_at hv, rv⟩
  ow := fun i o h => by
    have h := ent_at h (fun z => nomatch z)
    rw [List.getElem?_map] at h
    obtain ⟨d', hd, e⟩ := Option.map_eq_some_iff.mp h
    cases e
  bo := fun i o h => by
    have h := ent_at h (fun z => nomatch z)
    rw [List.getElem?_map] at h
    obtain ⟨d', hd, e⟩ := Option.map_eq_some_iff.mp h
    cases e
  one := fun i j o u h => by
    have h := ent_at h (fun z => nomatch z)
    rw [List.getElem?_map] at h
    obtain ⟨d', hd, e⟩ := Option.map_eq_some_iff.mp h
    cases e
  bt := fun a h => nomatch h
  dis := fun i j o u a h => by
    have h := ent_at h (fun z => nomatch z)
    rw [List.getElem?_map] at h
    obtain ⟨d', hd, e⟩ := Option.map_eq_some_iff.mp h
    cases e
  base := fun a o h _ _ => h
  tab := tab
theorem bo_at {i : Nat} {s : Dp.Sl} (h : (ent (.bo o :: ds.map .sh) n)[i]? = some s) (ne : s ≠ .un) : (i = 0 ∧ s = .bo o) ∨ ∃ j d, i = j + 1 ∧ ds[j]? = some d ∧ s = .sh d := by
  have h := ent_at h ne
  cases i with
  | zero => cases h; exact .inl ⟨rfl, rfl⟩
  | succ j =>
    rw [List.getElem?_cons_succ, List.getElem?_map] at h
    obtain ⟨d', hd, e⟩ := Option.map_eq_some_iff.mp h
    cases e
    exact .inr ⟨j, d', rfl, hd, rfl⟩
theorem start1 (sub : Sub F H) (ntb : ∀ b o, F b = some o → ¬ Tb o) (tab : LamX.Tabs T H) (hF : F ad = none) (ob : ObAt R H F ad o) (rs : Reps R F ds ws) (hn : ws.length + 1 + n = N.length) :
    DRel R ⟨H, F, some ad, T⟩ (L2.start N (.ref ad :: ws)) H F (ent (.bo o :: ds.map .sh) n) where
  len := by
    rw [start_len N _ (by rw [List.length_cons]; omega)]
    unfold ent
    rw [List.length_append, List.length_cons, List.length_map, List.length_replicate, ← rs.length, hn]
  sub := sub
  old := Sub.refl _
  ntb := ntb
  sh := fun i d h => by
    rcases bo_at h (fun z => nomatch z) with ⟨_, e⟩ | ⟨j, d', rfl, hd, e⟩
    · cases e
    · cases e
      obtain ⟨v, hv, rv⟩ := rs.at hd
      exact ⟨v, start_at (by rw [List.getElem?_cons_succ]; exact hv), rv⟩
  ow := fun i u h => by
    rcases bo_at h (fun z => nomatch z) with ⟨_, e⟩ | ⟨j, d', rfl, hd, e⟩ <;> cases e
  bo := fun i u h => by
    rcases bo_at h (fun z => nomatch z) with ⟨rfl, e⟩ | ⟨j, d', rfl, hd, e⟩
    · cases e
      exact ⟨ad, start_at rfl, rfl, ob⟩
    · cases e
  one := fun i j u w h1 h2 => by
    rcases bo_at h1 (fun z => nomatch z) with ⟨rfl, _⟩ | ⟨_, _, rfl, _, e⟩
    · rcases bo_at h2 (fun z => nomatch z) with ⟨rfl, _⟩ | ⟨_, _, rfl, _, e⟩
      · rfl
      · cases e
    · cases e
  bt := fun a h => by cases h; exact ⟨hF, ob.nnt⟩
  dis := fun i j u w a h => by
    rcases bo_at h (fun z => nomatch z) with ⟨_, e⟩ | ⟨j, d', rfl, hd, e⟩ <;> cases e
  base := fun a o h _ _ => h
  tab := tab

/-! ### the end -/
theorem retOf_rel {A : Act} {σ' : St} {H' F' : Hp} {δ' : Dp.DSt} {v : V} {r : Dp.RV} {fr : Dp.FR} (q : DRel R A σ' H' F' δ') (rr : RelRV R A σ' H H' F' δ' v r) (hb : ∀ a, Nt A.H0 a → Nt H a) (e : Dp.retOf r δ' = some fr) : RelFR R H H' F' v fr := by
  cases r with
  | val d => cases e; exact rr
  | fr o =>
    cases e
    obtain ⟨a, e1, n, f, _, ob⟩ := rr
    exact ⟨a, e1, n, f, ob⟩
  | bor i =>
    have rr : σ'[i]? = some (some v) := rr
    have e : (match δ'[i]? with | some (.ow o) => some (.fr o) | some (.sh d) => some (.val d) | _ => none) = some fr := e
    cases z : δ'[i]? with
    | none => rw [z] at e; cases e
    | some s => cases s with
      | un => rw [z] at e; cases e
      | bo o => rw [z] at e; cases e
      | sh d =>
        rw [z] at e
        cases e
        obtain ⟨v', e1, r1⟩ := q.sh i d z
        rw [rr] at e1
        cases e1
        exact r1
      | ow o =>
        rw [z] at e
        cases e
        obtain ⟨a, e1, f, n0, _, ob⟩ := q.ow i o z
        rw [rr] at e1
        cases e1
        exact ⟨a, rfl, hb a n0, f, ob⟩
theorem cstep_of {m : Option Addr} {σ0 σ' : St} {H' F' : Hp} {δ0 δ' : Dp.DSt} (q0 : DRel R ⟨H, F, m, T⟩ σ0 H F δ0) (q : DRel R ⟨H, F, m, T⟩ σ' H' F' δ') (st : StpS ⟨H, F, m, T⟩ σ0 H F δ0 σ' H' F' δ') (own : ∀ a, Own ⟨H, F, m, T⟩ σ0 δ0 a → m = some a) : CStep T m H F H' F' where
  keep := fun b u h t n => q.base b u h t n
  there := st.there
  more := q.old
  new := fun b u h => by
    rcases st.new b u h with z | z | z
    · exact .inl z
    · exact .inr z
    · rw [(q.bt b (own b z)).1] at h; cases h
  sub := q.sub
  ntb := q.ntb
  tab := q.tab
theorem fin0 {σ0 : St} {δ0 : Dp.DSt} {out : Dp.Out Dp.Flow} {Q : VK} {E : XK} (q0 : DRel R ⟨H, F, none, T⟩ σ0 H F δ0) (own : ∀ a, ¬ Own ⟨H, F, none, T⟩ σ0 δ0 a) (h : FPost R T none H F (Dp.finish false out) Q E) :
    PostS R ⟨H, F, none, T⟩ (fun c d _ H' => E c d H') σ0 H F δ0 out { nx := fun _ H' => Q .non H', rt := Q } := by
  have own' : ∀ a, Own ⟨H, F, none, T⟩ σ0 δ0 a → (none : Option Addr) = some a := fun a z => absurd z (own a)
  cases out with
  | stuck => exact h
  | exc x δ' => exact fun σ' H' F' c dx q st xr => h H' F' c dx (cstep_of q0 q st own') xr
  | ok f δ' => cases f with
    | nx => exact fun σ' H' F' q st => h .non H' F' (cstep_of q0 q st own') rfl
    | bk => exact h.elim
    | ct => exact h.elim
    | rt r =>
      intro v σ' H' F' q st rr
      have h : FPost R T none H F (match Dp.retOf r δ', Dp.endOf false δ' with | some r, some m => .ok r m | _, _ => .stuck) Q E := h
      cases e : Dp.retOf r δ' with
      | none => rw [e] at h; exact h.elim
      | some fr =>
        rw [e] at h
        exact h v H' F' (cstep_of q0 q st own') (retOf_rel q rr (fun _ n => n) e)
theorem fin1 {σ0 : St} {δ0 : Dp.DSt} {out : Dp.Out Dp.Flow} {Q : VK} {E : XK} (q0 : DRel R ⟨H, F, some ad, T⟩ σ0 H F δ0) (own : ∀ a, Own ⟨H, F, some ad, T⟩ σ0 δ0 a → a = ad) (h : FPost R T (some ad) H F (Dp.finish true out) Q E) :
    PostS R ⟨H, F, some ad, T⟩ (fun c d _ H' => E c d H') σ0 H F δ0 out { nx := fun _ H' => Q .non H', rt := Q } := by
  have own' : ∀ a, Own ⟨H, F, some ad, T⟩ σ0 δ0 a → some ad = some a := fun a z => by rw [own a z]
  have obj : ∀ {σ' H' F' δ' m}, DRel R ⟨H, F, some ad, T⟩ σ' H' F' δ' → Dp.endOf true δ' = some m → ∃ o', m = some o' ∧ F' ad = none ∧ ObAt R H' F' ad o' := by
    intro σ' H' F' δ' m q e
    have e : (match δ'.head? with | some (.bo o) => some (some o) | _ => none) = some m := e
    cases z : δ'.head? with
    | none => rw [z] at e; cases e
    | some s => cases s with
      | bo o' =>
        rw [z] at e
        cases e
        have z0 : δ'[0]? = some (.bo o') := by rw [← List.head?_eq_getElem?]; exact z
        obtain ⟨b, e1, e2, ob⟩ := q.bo 0 o' z0
        cases e2
        exact ⟨o', rfl, (q.bt ad rfl).1, ob⟩
      | un => rw [z] at e; cases e
      | sh _ => rw [z] at e; cases e
      | ow _ => rw [z] at e; cases e
  cases out with
  | stuck => exact h
  | exc x δ' =>
    intro σ' H' F' c dx q st xr
    have h : FPost R T (some ad) H F (match Dp.endOf true δ' with | some m => .exc x m | none => .stuck) Q E := h
    cases e : Dp.endOf true δ' with
    | none => rw [e] at h; exact h.elim
    | some m =>
      rw [e] at h
      obtain ⟨o', rfl, hF, ob⟩ := obj q e
      exact h H' F' c dx (cstep_of q0 q st own') hF ob xr
  | ok f δ' => cases f with
    | nx =>
      intro σ' H' F' q st
      have h : FPost R T (some ad) H F (match Dp.endOf true δ' with | some m => .ok (.val .non) m | none => .stuck) Q E := h
      cases e : Dp.endOf true δ' with
      | none => rw [e] at h; exact h.elim
      | some m =>
        rw [e] at h
        obtain ⟨o', rfl, hF, ob⟩ := obj q e
        exact h .non H' F' (cstep_of q0 q st own') hF ob rfl
    | bk => exact h.elim
    | ct => exact h.elim
    | rt r =>
      intro v σ' H' F' q st rr
      have h : FPost R T (some ad) H F (match Dp.retOf r δ', Dp.endOf true δ' with | some r, some m => .ok r m | _, _ => .stuck) Q E := h
      cases e : Dp.retOf r δ' with
      | none => rw [e] at h; exact h.elim
      | some fr =>
        rw [e] at h
        have h : FPost R T (some ad) H F (match Dp.endOf true δ' with | some m => .ok fr m | none => .stuck) Q E := by
          cases z : Dp.endOf true δ' with
          | none => rw [z] at h; exact h
          | some m => rw [z] at h; exact h
        cases e2 : Dp.endOf true δ' with
        | none => rw [e2] at h; exact h.elim
        | some m =>
          rw [e2] at h
          obtain ⟨o', rfl, hF, ob⟩ := obj q e2
          exact h v H' F' (cstep_of q0 q st own') hF ob (retOf_rel q rr (fun _ n => n) e)
end
section
variable {P : Program} {w : World} {mg : Str → Option Value} {base : Heap} {L : LX} {G : Dp.Gam} {N ps : List Str} {x z : Str} {params : Arguments} {body : List Stmt} {scope : Scope} {f : Addr} {fd : FuncData} {k : Nat} {DF : Dp.FDef}
/-- FunD.ok with the code that the context has -/
theorem okCode {K : PySem.W.Frag} {CX : CXT} {sp : Sp} (F : FunD K z x params body scope [] [] f fd) (S : FnScope N ps scope) (len : ∀ vs H Q E, sp vs H Q E → vs.length = ps.length)
    (hbody : ∀ (cdv : Value) (A : Around) (outer : List Env) (s : Shared) (H : Hp) (vs : List V) (Q : VK) (E : XK), fd.code = cdv → Room k (A.deeper (PyProof.Rows.envOfC x scope s.heap.objs.size f cdv)) → sp vs H Q E →
      ∃ t, PSs (cxOf CX P w K mg base N x scope f cdv A outer s H E) body t ∧ t { nx := fun _ H' => Q .non H', rt := Q } (L2.start N vs) H) : FnOk P w K mg base CX (k + 1) f fd ps sp := by
  obtain ⟨oc, od, dV, kV, doc, pm, an, cdv, ct, osl, rfl, lk, hcd, _, _⟩ := F.ex
  exact fn_of lk hcd S len fun A outer s H vs Q E hr hsp => hbody cdv A outer s H vs Q E rfl hr hsp
theorem fnD (F : FunD L.R.K z x params body scope [] [] f fd) (S : FnScope N ps scope) (hN : N.length = DF.ns) (hps : ps.length = DF.np) (hb : DSs L G N scope body (Dp.exs G DF.body))
    (so : ∀ (cdv : Value) (A : Around) (outer : List Env) (s : Shared) (H : Hp) (E : XK) (Ac : Act), fd.code = cdv → Room k (A.deeper (PyProof.Rows.envOfC x scope s.heap.objs.size f cdv)) → Ac.T = L.T → SOk L G N scope Ac (fun c d _ H' => E c d H') (cxOf (L2.CX P w) P w L.R.K mg base N x scope f cdv A outer s H E)) :
    FnOk P w L.R.K mg base (L2.CX P w) (k + 1) f fd ps (spD L.R L.T (Dp.runDef G DF) ps.length) := by
  have hpl : ps.length ≤ N.length := by have := congrArg List.length S.pre; rw [List.length_take] at this; omega
  refine okCode F S (fun vs H Q E h => h.1) fun cdv A outer s H vs Q E hcd hr h => ?_
  obtain ⟨hl, F0, sub, ntb, tab, h⟩ := h
  rcases h with ⟨ds, rs, po⟩ | ⟨ad, ws, o, ds, rfl, hF, ob, rs, po⟩
  · refine ⟨_, hb ⟨H, F0, none, L.T⟩ _ _ (so cdv A outer s H E ⟨H, F0, none, L.T⟩ hcd hr rfl), F0, ent (ds.map .sh) (DF.ns - DF.np), start0 sub ntb tab rs (by omega), ?_⟩
    have q0 := start0 (N := N) (n := DF.ns - DF.np) sub ntb tab rs (by omega)
    have po : FPost L.R L.T none H F0 (match Dp.startD DF none ds with | some σ => Dp.finish DF.mu (Dp.exs G DF.body σ) | none => .stuck) Q E := po
    cases hm : DF.mu with
    | true =>
      have e : Dp.startD DF none ds = none := by unfold Dp.startD; rw [hm]
      rw [e] at po
      exact po.elim
    | false =>
      have e : Dp.startD DF none ds = some (ent (ds.map .sh) (DF.ns - DF.np)) := by
        unfold Dp.startD
        rw [hm]
        show (if ds.length = DF.np then _ else _) = _
        rw [if_pos (by rw [← rs.length, hl, hps])]
        rfl
      rw [e, hm] at po
      exact fin0 q0 (fun a z => by
        rcases z with z | ⟨i, o, h1, _⟩
        · cases z
        · have h1 := ent_at h1 (fun z => nomatch z)
          rw [List.getElem?_map] at h1
          obtain ⟨d', hd, e⟩ := Option.map_eq_some_iff.mp h1
          cases e) po
  · rw [List.length_cons] at hl
    refine ⟨_, hb ⟨H, F0, some ad, L.T⟩ _ _ (so cdv A outer s H E ⟨H, F0, some ad, L.T⟩ hcd hr rfl), F0, ent (.bo o :: ds.map .sh) (DF.ns - DF.np), start1 sub ntb tab hF ob rs (by omega), ?_⟩
    have q0 := start1 (N := N) (n := DF.ns - DF.np) sub ntb tab hF ob rs (by omega)
    have po : FPost L.R L.T (some ad) H F0 (match Dp.startD DF (some o) ds with | some σ => Dp.finish DF.mu (Dp.exs G DF.body σ) | none => .stuck) Q E := po
    cases hm : DF.mu with
    | false =>
      have e : Dp.startD DF (some o) ds = none := by unfold Dp.startD; rw [hm]
      rw [e] at po
      exact po.elim
    | true =>
      have e : Dp.startD DF (some o) ds = some (ent (.bo o :: ds.map .sh) (DF.ns - DF.np)) := by
        unfold Dp.startD
        rw [hm]
        show (if ds.length + 1 = DF.np then _ else _) = _
        rw [if_pos (by rw [← rs.length, hl, hps])]
        rfl
      rw [e, hm] at po
      exact fin1 q0 (fun a z => by
        rcases z with z | ⟨i, u, h1, _⟩
        · cases z; rfl
        · rcases bo_at h1 (fun z => nomatch z) with ⟨_, e⟩ | ⟨_, _, _, _, e⟩ <;> cases e) po
end
end DpS
end

section
set_option Elab.async false
set_option linter.all false
set_option maxRecDepth 100000
set_option maxHeartbeats 4000000
set_option autoImplicit false
/-! DpB21: own exceptions without arguments, without fields. -/
namespace L2
open PySem PySem.Spec PyProof.Rows
section
variable {X : Cx}
/-- C() is made: it is let go, it has no dict -/
theorem mk_endN {pins : List (Addr × Obj)} {σ : St} {H1 H2 : Hp} {hp hp2 h2 : Heap} {g1 g2 : Array GenState} {d1 d2 : Drawn} {t1 t2 : Nat} {os1 os2 : OsState} {a C : Addr} (I1 : Inv X pins σ H1 ⟨hp, g1, d1, t1, os1⟩)
    (ha : hp.objs.size ≤ a) (k : ∀ b o, hp.get? b = some o → hp2.get? b = some o) (un : Un (frs X.stack) [] (upd H1 a (exo a C none)) H2 hp2 h2) (hok : HOk X.prog X.w H2 h2) (ho : os2 = os1) (hb : AllBare g2)
    (ea : H2 a = some (exo a C none)) :
    ∃ (t0 : Addr) (G : Heap), Inv X pins σ (del H2 a) ⟨G, g2, d2, t2, os2⟩ ∧ (∀ b o, G.get? b = some o → h2.get? b = some o) ∧ G.get? a = none ∧
      h2.get? a = some ({ cls := .ref C, dict := none, data := .fields #[.ref t0, .none, .none, .none, .bool false, .none] } : Obj) ∧ del H2 a a = none := by
  obtain ⟨t0, hoe⟩ := exo_at hok ea
  have hn : H1 a = none := I1.hok.fresh ha
  obtain ⟨G, g1', g2'⟩ := restrict h2 fun b => decide (b ≠ a)
  have gk : ∀ b, b ≠ a → G.get? b = h2.get? b := fun b hb => g1' b (decide_eq_true hb)
  have ge : G.get? a = none := g2' a (by simp)
  have nha : ∀ {b : Addr} {o : Obj}, hp.get? b = some o → b ≠ a := fun {b o} z => Nat.ne_of_lt (Nat.lt_of_lt_of_le (Heap.lt_size z) ha)
  have up : ∀ {b : Addr}, b ≠ a → H1 b = none → upd H1 a (exo a C none) b = none := fun {b} hb n => by rw [upd_ne hb]; exact n
  have U : Un (frs X.stack) [] H1 (del H2 a) hp G := {
    keep := fun b o z n hf hx => by
      rw [gk b (nha z)]
      exact un.keep b o (k b o z) (up (nha z) n) hf hx
    slot := fun b o z n hf hx => by
      rw [gk b (nha z)]
      exact un.slot b o (k b o z) (up (nha z) n) hf hx
    free := fun b o z n hx => by
      rw [del_ne (nha z)]
      exact un.free b o (k b o z) (up (nha z) n) hx
    there := fun b o z hx => by
      rw [gk b (nha z)]
      exact un.there b o (k b o z) hx
    tups := fun b xs z => by
      rw [del_ne (ne_of_none z hn)]
      exact un.tups b xs (by rw [upd_ne (ne_of_none z hn)]; exact z)
    frzs := fun b o v z => by
      rw [del_ne (ne_of_none z hn)]
      exact un.frzs b o v (by rw [upd_ne (ne_of_none z hn)]; exact z)
    tbls := fun b ps z => by
      rw [del_ne (ne_of_none z hn)]
      exact un.tbls b ps (by rw [upd_ne (ne_of_none z hn)]; exact z) }
  have hok3 : HOk X.prog X.w (del H2 a) G := fun b o z => by
    have hba : b ≠ a := fun e => by
      rw [e, del_same] at z
      cases z
    rw [del_ne hba] at z
    have noa : ∀ {c : Addr}, H2 c = some (.own b) → c ≠ a := fun {c} hc => at_ne ea hc exo_own
    exact (hok b o z).stay (fun c v hc y => by
        have hca : c ≠ a := by
          rcases hc with hc | hc
          · rw [hc]
            exact hba
          · exact noa hc
        rw [gk c hca]
        exact y)
      (fun c hc => by rw [del_ne (noa hc)]; exact hc) (fun c xs hc => by rw [del_ne (at_ne ea hc exo_tup)]; exact hc)
  have J : Inv X pins σ (del H2 a) ⟨G, g2, d2, t2, os2⟩ := I1.call' (ch := []) ho U hok3 hb (fun b z => absurd z (by simp))
  refine ⟨t0, G, J, fun b o z => ?_, ge, hoe, del_same⟩
  by_cases hba : b = a
  · rw [hba, ge] at z
    cases z
  · exact (gk b hba).symm.trans z
/-- what an own __init__ of such a class keeps -/
def spX0 (K : PySem.W.Frag) : Sp := fun vs H Q _ => ∃ a C : Addr, vs = [.ref a] ∧ OexC K C ∧ H a = some (exo a C none) ∧ Q .non H
theorem pmk_oex0 {CX : CXT} {x : Str} {C fI : Addr} {k : Nat} {fd : FuncData} {ps : List Str} {p pos : Pos} (T : OexC X.K C) (iC : PySem.W.findIn X.K (.ref C) "__init__" = some (some (.ref fI))) (tI : PySem.W.typeIn X.K (.ref fI) = some (.type "function"))
    (F1 : FnOk X.prog X.w X.K X.mg X.base CX k fI fd ps (spX0 X.K)) (hr : Room (k + 1) X.A) (hb : Binds X.K fd ps []) (hx : Passes CX X (fun _ _ _ => False)) (hg : Gl X x) (hm : X.mg x = some (.ref C))
    (hdb : (x == ("__debug__" : Str)) = false := by decide) : PMk X (.Call (.Name x p) [] [] pos) (fun _ H Q => Q (.ref C) none H) := by
  intro pins s σ H1 Q I1 h
  obtain ⟨nm, q, N, bs, bm, sn, sub, ab, col, dd, k0, k1, k2, k3, k5, hC, hbm⟩ := T.cls
  refine wpAny_Call_Name_kw (ld_glob I1 hg hm ?_ hdb)
  refine PySem.W.callWith_K0 I1.kIn T.kC ?_
  show wpAny _ _ (call (.ref C) []) _ _ _
  obtain ⟨hp, g, dr, tk, os⟩ := s
  have hsz : hp.objs.size ≤ hp.objs.size + 1 := Nat.le_succ _
  have hn : H1 (hp.objs.size + 1) = none := I1.hok.fresh hsz
  have kk : ∀ b o, hp.get? b = some o → ((hp.push (PySem.W.kdv_tup [])).push (PySem.HandSPX.excO C hp.objs.size)).get? b = some o := fun b o e => Heap.get?_push_of_some _ (Heap.get?_push_of_some _ e)
  have hget : ((hp.push (PySem.W.kdv_tup [])).push (PySem.HandSPX.excO C hp.objs.size)).get? (hp.objs.size + 1) = some (PySem.HandSPX.excO C hp.objs.size) := by heap_get
  have I2 : Inv X pins σ (upd H1 (hp.objs.size + 1) (exo (hp.objs.size + 1) C none)) ⟨(hp.push (PySem.W.kdv_tup [])).push (PySem.HandSPX.excO C hp.objs.size), g, dr, tk, os⟩ :=
    I1.laid (t' := tk) (a := hp.objs.size + 1) (o := exo (hp.objs.size + 1) C none) (h' := (hp.push (PySem.W.kdv_tup [])).push (PySem.HandSPX.excO C hp.objs.size)) kk hsz (exo_ok hget)
  have hq : spX0 X.K [V.ref (hp.objs.size + 1)] (upd H1 (hp.objs.size + 1) (exo (hp.objs.size + 1) C none)) (fun v H2 => v = .non ∧ H2 = upd H1 (hp.objs.size + 1) (exo (hp.objs.size + 1) C none)) (fun _ _ _ => False) := ⟨_, C, rfl, T, upd_same, rfl, rfl⟩
  have r2 : Vals [V.ref (hp.objs.size + 1)] [Value.ref (hp.objs.size + 1)] := .cons rfl .nil
  have hl : ([Value.ref (hp.objs.size + 1)] ++ []).length = ps.length := by
    have e := r2.length
    rw [F1.len _ _ _ _ hq] at e
    exact e.symm
  refine wpAny_call (PySem.HandSPX.call_own F.excBase_ValueError (fun Y => PySem.HandSPX.refsVE_contains Y bm hbm) (I1.kIn _ _ hC) (PySem.W.looks_findIn I1.kIn iC) (fun self => PySem.W.bind_fn I1.kIn self tI) (Nat.zero_le _)
    (codeAny_mono (F1.run _ X.stack _ _ ⟨Value.ref (hp.objs.size + 1) :: [], []⟩ [Value.ref (hp.objs.size + 1)] _ _ (fun _ _ _ => False) (hr.make C [] []) (I2.env0.make C [] []) (hb _ [Value.ref (hp.objs.size + 1)] I2.kIn hl) r2 hq) fun r s' hq' => ?_))
  cases r with
  | error er => exact hx pins σ _ _ er s' I2 hq'
  | ok fl =>
    cases fl with
    | ret u =>
      obtain ⟨v, H2, os2, bare2, un2, hok2, rv, ev, eH⟩ := hq'
      subst ev
      subst eH
      obtain ⟨h2, g2, d2, t2, os'⟩ := s'
      obtain ⟨t0, G, J, kG, ge, hoe, na⟩ := mk_endN (d2 := d2) (t2 := t2) I1 hsz kk un2 hok2 os2 bare2 upd_same
      have eD : del (upd H1 (hp.objs.size + 1) (exo (hp.objs.size + 1) C none)) (hp.objs.size + 1) = H1 := by
        funext b
        by_cases hba : b = hp.objs.size + 1
        · rw [hba, del_same, hn]
        · rw [del_ne hba, upd_ne hba]
      rw [eD] at J na
      exact ⟨rv, _, _, _, ⟨G, g2, d2, t2, os'⟩, H1, .ref C, none, rfl, J, kG, ge, hoe, ⟨rfl, rfl⟩, rfl, rfl, na, rfl, bare2, raises_own T.exC T.tyC, h⟩
    | next => exact False.elim hq'
    | brk => exact False.elim hq'
    | cont => exact False.elim hq'
end
end L2
namespace DpS
open PySem PySem.Spec L2
/-- what the written part says of such a class -/
def oexB (K : PySem.W.Frag) (C : Addr) : Bool := (match K.lookup C with
    | some ⟨.type "type", _, .cls cd, sl⟩ => (match cd.mro, sl.toList with
      | .ref C' :: bm, [_, _, _, _, some (.builtin n), _] => C' == C && n == "ValueError.__new__" && cd.hasDict && !cd.hasDel && PySem.HandSPX.refsVE bm
      | _, _ => false)
    | _ => false) && decide (PySem.W.findIn K (.ref C) "__setattr__" = some (some (.builtin "object.__setattr__"))) && decide (PySem.W.subIn K (.ref C) (.type "BaseException") = some true) && decide (PySem.W.typeIn K (.ref C) = some (.type "type")) && PySem.W.keepIn K (.ref C)
theorem oexB_ok {K : PySem.W.Frag} {C : Addr} (h : oexB K C = true) : OexC K C := by
  obtain ⟨h, g5⟩ := band h
  obtain ⟨h, g4⟩ := band h
  obtain ⟨h, g3⟩ := band h
  obtain ⟨q, g2⟩ := band h
  refine ⟨?_, of_decide_eq_true g2, of_decide_eq_true g3, of_decide_eq_true g4, g5⟩
  split at q
  · rename_i dd cd sl ho
    split at q
    · rename_i C' bm k0 k1 k2 k3 n k5 hm hs
      simp only [Bool.and_eq_true, beq_iff_eq, Bool.not_eq_true'] at q
      obtain ⟨⟨⟨⟨rfl, rfl⟩, hdct⟩, hdel⟩, ht⟩ := q
      obtain ⟨nm, bs, mro, ns, qn, hd, sn, sub, ab, col, del⟩ := cd
      dsimp only at hm hdel hdct
      subst hm hdel hdct
      have hsl : sl = #[k0, k1, k2, k3, some (.builtin "ValueError.__new__"), k5] := by
        obtain ⟨l⟩ := sl
        simp only at hs
        rw [hs]
      subst hsl
      exact ⟨nm, qn, ns, bs, bm, sn, sub, ab, col, dd, k0, k1, k2, k3, k5, ho, ht⟩
    · cases q
  · cases q
section
variable {L : LX} {G : Dp.Gam} {N : List Str} {sc : Scope} {A : Act} {W : WX} {X : Cx}
/-- what is known of a class that is raised without arguments -/
structure XCls (K : PySem.W.Frag) (mg : Str → Option Value) (x : Str) (C fI : Addr) : Prop where
  T : OexC K C
  iC : PySem.W.findIn K (.ref C) "__init__" = some (some (.ref fI))
  tI : PySem.W.typeIn K (.ref fI) = some (.type "function")
  m : mg x = some (.ref C)
theorem rais_ok {c : Nat} {x : Str} {fI : Addr} {k : Nat} {fd : FuncData} {ps : List Str} {p1 p2 p3 : Pos} (xo : XOk L G N sc true A W X) (T : XCls X.K X.mg x (L.R.ca c) fI)
    (F1 : FnOk X.prog X.w X.K X.mg X.base (L2.CX X.prog X.w) k fI fd ps (spX0 X.K)) (hr : Room (k + 1) X.A) (hb : Binds X.K fd ps []) (hg : glB sc x = true) (hk : okName x = true) (hc : G.excF c = some []) :
    PS X (.Raise (some (.Call (.Name x p1) [] [] p2)) none p3) (tS L.R A W (Dp.ex G (.rais c .nil))) := by
  have pass : Passes (L2.CX X.prog X.w) X (fun _ _ _ => False) := fun pins σ H s e s' I z => by
    obtain ⟨_, _, _, _, _, _, _, _, _, _, _, _, f⟩ := z
    exact f.elim
  refine (ps_raise (xo.calm rfl) xo.tk (pmk_oex0 T.T T.iC T.tI F1 hr hb pass (gl_X xo hg) T.m (okName_of hk).1)).imp fun D σ H h => ?_
  obtain ⟨F, δ, q, h⟩ := h
  have h : PostS L.R A W σ H F δ (Dp.raiS c [] δ (G.excF c)) D := h
  rw [hc] at h
  exact h σ H F _ _ q .refl ⟨rfl, XD.none⟩
/-- __init__(self): ValueError.__init__(self) -/
def veInit : List Stmt → Bool
  | [.Expr (.Call (.Attribute (.Name v _) i a) [.Name s _] [] q) _] => decide (v = "ValueError") && decide (i = "__init__") && decide (s = "self") && (a.endLine == q.line)
  | _ => false
theorem init_ok {P : Program} {w : World} {K : PySem.W.Frag} {mg : Str → Option Value} {base : Heap} {x qual : Str} {params : Arguments} {body : List Stmt} {scope : Scope} {f : Addr} {fd : FuncData} (F : FunD K x qual params body scope [] [] f fd) (S : FnScope ["self"] ["self"] scope)
    (hs : visB scope "self" = true) (hb : veInit body = true) (hg : glB scope "ValueError" = true) (hm : mg "ValueError" = none) (vV : PySem.W.findCls K (.type "ValueError") (.type "type") "__init__" = some (.val (.builtin "ValueError.__init__"))) :
    FnOk P w K mg base (L2.CX P w) 1 f fd ["self"] (spX0 K) := by
  refine F.ok S (fun vs H Q E h => by obtain ⟨a, C, rfl, _⟩ := h; rfl) fun cdv A outer s H vs Q E hr h => ?_
  obtain ⟨a, C, rfl, T, ha, hq⟩ := h
  unfold veInit at hb
  split at hb
  · rename_i v p1 i p2 y p3 p4 p5
    obtain ⟨hb, h4⟩ := band hb
    obtain ⟨hb, h3⟩ := band hb
    obtain ⟨h1, h2⟩ := band hb
    have := dec h1
    subst this
    have := dec h2
    subst this
    have := dec h3
    subst this
    refine ⟨_, pss_one (ps_expr (pe_veinit (pl := plainOf (.Name "ValueError" p1) (cxOf (L2.CX P w) P w K mg base ["self"] qual scope f cdv A outer s H E).env) (gl_of hg) hm vV (pa_cons (pe_var (i := 0) rfl (vis_of hs)) pa_nil) ?_) rfl), ?_⟩
    · rw [arm_eval_Call, base_plain rfl]
      exact congrArg (bind _) (funext fun ov => congrArg (bind _) (funext fun _ => mcall_line rfl h4))
    exact ⟨V.ref a, rfl, a, C, [], rfl, by decide, T, ha, hq⟩
  · cases hb
end
end DpS
end

section
set_option Elab.async false
set_option linter.all false
set_option maxRecDepth 100000
set_option maxHeartbeats 4000000
set_option autoImplicit false
/-! DpB21f: own exceptions of one field: __init__(self, f): C.__init__(self); self.f = f. -/
namespace DpS
open PySem PySem.Spec L2
/-- C.m(e, ..), m a def of the class C -/
theorem pe_clsfn {X : Cx} {CX : CXT} {k : Nat} {C g : Addr} {mc : Value} {fd : FuncData} {ps : List Str} {sp : Sp} {E : XK} {x m : Str} {p apos pos : Pos} {e : Expr} {es : List Expr} {t : TA} {pl : Sem Bool} (hg : Gl X x) (hm : X.mg x = some (.ref C)) (hdb : (x == ("__debug__" : Str)) = false)
    (r : ClX.CRead X.K C mc) (c : ClX.CVal X.K C mc m (.ref g) (.ref g)) (hk : PySem.W.keepIn X.K (.ref g) = true) (F : FnOk X.prog X.w X.K X.mg X.base CX k g fd ps sp) (hr : Room k X.A) (hb : Binds X.K fd ps []) (hx : Passes CX X E) (ha : PA X (e :: es) t)
    (hst : starEach (e :: es) X.env = (false, eval e X.env) :: starEach es X.env) (hpl : (backTo pos (starEach es X.env)).any (·.1) = false)
    (ht : eval (.Call (.Attribute (.Name x p) m apos) (e :: es) [] pos) X.env = (do
      let ov ← eval (.Name x p) X.env
      standAt apos.atName
      let (f, first) ← holding [ov] (getMethod ov m pl)
      callWith pos f first (backTo pos (starEach (e :: es) X.env)) (backToKw pos (keywordEach [] X.env)))) :
    PE X (.Call (.Attribute (.Name x p) m apos) (e :: es) [] pos) (fun σ H Q => t σ H fun vs H1 => sp vs H1 Q E) := by
  refine ⟨fun pins s σ H Q I h => ?_⟩
  refine PySem.W.methodCall_KW (pl := pl) (thn ((pe_glob (v := .ref C) hg hm rfl hdb).run pins s σ H (fun v H1 => v = .ref C ∧ t σ H1 fun vs H2 => sp vs H2 Q E) I ⟨rfl, h⟩) fun u s1 ⟨x', H1, I1, rx, ex, q⟩ => ?_) ht
  subst ex
  obtain rfl : u = Value.ref C := rx
  refine PySem.W.method_cls I1.kIn r.ga (ClX.getcval_ok I1 r c fun s2 I2 => ?_)
  refine PySem.W.callWith_K (first := []) (h₀ := X.base) I.ok.mod.kin hk (thn (ha.run pos pins s2 σ H1 _ I2 q) fun us s3 ⟨vs, H2, I3, rv, q2⟩ => ⟨I3.kIn, ?_⟩) hst hpl
  exact run_fn F hr hb .nil hx I3 rv (by rwa [List.append_nil])
/-- what such an __init__ keeps: the field laid -/
def spXF (K : PySem.W.Frag) (f : Str) : Sp := fun vs H Q _ => ∃ (a C : Addr) (v : V), vs = [.ref a, v] ∧ OexC K C ∧ PySem.W.findIn K (.ref C) f = some none ∧ H a = some (exo a C none) ∧ ∀ dx, H dx = none → dx ≠ a → Q .non (upd (upd H dx (exd dx [(f, v)])) a (exo a C (some dx)))
/-- its text -/
def fInit (ce f g : Str) : List Stmt → Bool
  | [.Expr (.Call (.Attribute (.Name v _) i a) [.Name s _] [] q) _, .Assign [.Attribute (.Name s2 _) f2 _] (.Name g2 _) _] => decide (v = ce) && decide (i = "__init__") && decide (s = "self") && (a.endLine == q.line) && decide (s2 = "self") && decide (f2 = f) && decide (g2 = g)
  | _ => false
theorem initF_ok {P : Program} {w : World} {K : PySem.W.Frag} {mg : Str → Option Value} {base : Heap} {x qual : Str} {params : Arguments} {body : List Stmt} {scope : Scope} {f C0 f0 : Addr} {fd fd0 : FuncData} {ps0 : List Str} {ce fl g : Str} {mc : Value} (F : FunD K x qual params body scope [] [] f fd) (S : FnScope ["self", g] ["self", g] scope)
    (hs : visB scope "self" = true) (hg : visB scope g = true) (ok : okName g = true) (hb : fInit ce fl g body = true) (hce : glB scope ce = true) (okc : okName ce = true) (hm : mg ce = some (.ref C0)) (r : ClX.CRead K C0 mc) (c : ClX.CVal K C0 mc "__init__" (.ref f0) (.ref f0)) (hk : PySem.W.keepIn K (.ref f0) = true)
    (F0 : FnOk P w K mg base (L2.CX P w) 1 f0 fd0 ps0 (spX0 K)) (hb0 : Binds K fd0 ps0 []) : FnOk P w K mg base (L2.CX P w) 2 f fd ["self", g] (spXF K fl) := by
  refine F.ok S (fun vs H Q E h => by obtain ⟨a, C, v, rfl, _⟩ := h; rfl) fun cdv A outer s H vs Q E hr h => ?_
  obtain ⟨a, C, v, rfl, T, hno, ha, hq⟩ := h
  unfold fInit at hb
  split at hb
  · rename_i v0 p1 i p2 y p3 p4 p5 y2 p6 f2 p7 g2 p8 p9
    obtain ⟨hb, h7⟩ := band hb
    obtain ⟨hb, h6⟩ := band hb
    obtain ⟨hb, h5⟩ := band hb
    obtain ⟨hb, h4⟩ := band hb
    obtain ⟨hb, h3⟩ := band hb
    obtain ⟨h1, h2⟩ := band hb
    have := dec h1
    subst this
    have := dec h2
    subst this
    have := dec h3
    subst this
    have := dec h5
    subst this
    have := dec h6
    subst this
    have := dec h7
    subst this
    have pass : Passes (L2.CX P w) (cxOf (L2.CX P w) P w K mg base ["self", g2] qual scope f cdv A outer s H E) (fun _ _ _ => False) := fun pins σ H s e s' I z => by
      obtain ⟨_, _, _, _, _, _, _, _, _, _, _, _, f⟩ := z
      exact f.elim
    have pself : ∀ p, PE (cxOf (L2.CX P w) P w K mg base ["self", g2] qual scope f cdv A outer s H E) (.Name "self" p) (tVar 0) := fun p => pe_var (i := 0) rfl (vis_of hs)
    have pg : PE (cxOf (L2.CX P w) P w K mg base ["self", g2] qual scope f cdv A outer s H E) (.Name g2 p8) (tVar 1) := pe_var (i := 1) rfl (vis_of hg) (okName_of ok).1 (okName_of ok).2
    refine ⟨_, pss_cons (ps_expr (pe_clsfn (pl := plainOf (.Name v0 p1) (cxOf (L2.CX P w) P w K mg base ["self", g2] qual scope f cdv A outer s H E).env) (gl_of hce) hm (okName_of okc).1 r c hk F0 hr hb0 pass (pa_cons (pself p3) pa_nil) rfl rfl ?_) rfl) (pss_one (ps_ost (pself p6) pg)), ?_⟩
    · rw [arm_eval_Call, base_plain rfl]
      exact congrArg (bind _) (funext fun ov => congrArg (bind _) (funext fun _ => mcall_line rfl h4))
    · refine ⟨V.ref a, rfl, a, C, rfl, T, ha, ?_⟩
      exact ⟨v, rfl, V.ref a, rfl, a, C, rfl, T, hno, .inl ⟨ha, fun dx n ne => hq dx n ne⟩⟩
  · cases hb
section
variable {L : LX} {G : Dp.Gam} {N : List Str} {sc : Scope} {A : Act} {W : WX} {X : Cx}
theorem raisA_ok {c q : Nat} {x fl : Str} {fI : Addr} {k : Nat} {fd : FuncData} {ps : List Str} {p1 p2 p3 : Pos} {e : Expr} {fe : Dp.E} (xo : XOk L G N sc true A W X) (T : XCls X.K X.mg x (L.R.ca c) fI) (hno : PySem.W.findIn X.K (.ref (L.R.ca c)) fl = some none)
    (F1 : FnOk X.prog X.w X.K X.mg X.base (L2.CX X.prog X.w) k fI fd ps (spXF X.K fl)) (hr : Room (k + 1) X.A) (hb : Binds X.K fd ps []) (hg : glB sc x = true) (hk : okName x = true) (hc : G.excF c = some [q]) (hs : notStar e = true) (ha : PA X [e] (tA L.R A W (Dp.evs G (.cons fe .nil)))) :
    PS X (.Raise (some (.Call (.Name x p1) [e] [] p2)) none p3) (tS L.R A W (Dp.ex G (.rais c (.cons fe .nil)))) := by
  have pass : Passes (L2.CX X.prog X.w) X (fun _ _ _ => False) := fun pins σ H s e s' I z => by
    obtain ⟨_, _, _, _, _, _, _, _, _, _, _, _, f⟩ := z
    exact f.elim
  refine (ps_raise (xo.calm rfl) xo.tk (pmk_oex T.T T.iC T.tI F1 hr hb .nil pass (gl_X xo hg) T.m ha (okName_of hk).1 (star_cons hs [] X.env) rfl)).imp fun D σ H h => ?_
  obtain ⟨F, δ, q0, h⟩ := h
  have h : PostS L.R A W σ H F δ ((Dp.evs G (.cons fe .nil) δ).bind fun ds σ1 => Dp.raiS c ds σ1 (G.excF c)) D := h
  refine ⟨F, δ, q0, PostS.bind (Rl := RlA L.R) h fun vs H1 F1' ds δ1 e1 q1 st1 rs h1 => ?_⟩
  have hl : ds.length = 1 := evs_len (.cons fe .nil) δ δ1 ds e1
  have hv := Reps.length (show Reps L.R F1' ds vs from rs)
  rw [hc] at h1
  have h1 : PostS L.R A W σ H1 F1' δ1 (if [q].length = ds.length then .exc ⟨c, []⟩ δ1 else .stuck) D := h1
  rw [if_pos (show [q].length = ds.length from hl.symm)] at h1
  match vs, hv.trans hl with
  | [v], _ =>
    refine ⟨by show 1 ≤ 1000; omega, fun a na => ⟨a, L.R.ca c, v, rfl, T.T, hno, upd_same, fun dx ndx ne => ⟨rfl, dx, _, upd_same, by rw [upd_ne ne, upd_same], ?_, ?_⟩⟩⟩
    · rwa [upd_ne ne] at ndx
    · rw [upd_ne ne] at ndx
      have eH : upd (del (upd (upd (upd H1 a (exo a (L.R.ca c) none)) dx (exd dx [(fl, v)])) a (exo a (L.R.ca c) (some dx))) a) dx (.xd [(fl, v)]) = upd H1 dx (.xd [(fl, v)]) := by
        funext b
        by_cases hbd : b = dx
        · rw [hbd, upd_same, upd_same]
        · rw [upd_ne hbd, upd_ne hbd]
          by_cases hba : b = a
          · rw [hba, del_same, na]
          · rw [del_ne hba, upd_ne hba, upd_ne hbd, upd_ne hba]
      rw [eH]
      have g : Grow A H1 F1' (upd H1 dx (.xd [(fl, v)])) F1' := Grow.fresh q1.tab ndx
      exact h1 σ _ F1' _ (some dx) (g.rel q1) g.step.toS ⟨rfl, fun d e => by cases e; exact ⟨_, upd_same⟩⟩
end
end DpS
end

section
set_option Elab.async false
set_option linter.all false
set_option maxRecDepth 100000
set_option maxHeartbeats 4000000
set_option autoImplicit false
/-! DpB22: a lambda that is handed to a def: without parameters, or with one that has a written int. -/
namespace DpL
open PySem PySem.Spec PySem.W PySem.Calls PyProof.Rows L2 LamX
/-- the lambda's object, its defaults at dV -/
abbrev lfn (name qual : Str) (params : Arguments) (body : Expr) (scope : Scope) (cl : List (Str × Addr)) (pm cdv ct dV : Value) : FuncData := { kla_fn name qual params body scope cl pm cdv ct with defaults := dV }
abbrev lobj (name qual : Str) (params : Arguments) (body : Expr) (scope : Scope) (clos : List (Str × Addr)) (pm : Value) (cv ctv dV : Value) : Obj := { cls := .type "function", data := .func (lfn name qual params body scope clos pm cv ctv dV) }
section
variable {M : Model} {A : Around} {E : Value → Shared → Prop} {s : Shared} {name qual : Str} {params : Arguments} {body : Expr} {scope : Scope} {env : Env} {c P : Addr} {ps : Array Value} {pos : Pos} {firstLine : Nat} {mg : Str → Option Value}
  {clos : List (Str × Addr)} {Q : Value → Shared → Prop} {dV : Value}
theorem tailNew (hcl : closureFor scope env = pure clos) (hge0 : env.globals = mainGlobals) (hg : s.heap.Ns mainGlobals mg) (hcode : env.code = .ref c) (C : CodeHd s.heap c P) (hP : s.heap.get? P = some (tabObj ps)) (ht : TriplesOk ps.toList)
    (hnf : codeAmong pos ps.toList = none) (hgP : mainGlobals ≠ P) (hb : s.heap.BuiltinsAt mg P)
    (h : ∀ c' ctv h' tk, Heap.ExtBut P s.heap h' → s.heap.objs.size ≤ c' → c' < h'.objs.size → h'.CodeRec (.ref c') qual → h'.get? P = some (tabObj (ps ++ #[rawInt pos.line, rawInt pos.col, .ref c'])) →
      Q (.ref h'.objs.size) { s with heap := h'.push (lobj name qual params body scope clos ((mg "__name__").getD .none) (.ref c') ctv dV), toks := tk }) :
    wpAny M A (makeTail name qual params (.expr body) scope env dV .none none pos firstLine) Q E s := by
  obtain ⟨bm, ob, hbm, hne0, _, hneP, hbo, hcls, hdict, hdata⟩ := hb
  unfold makeTail
  rw [hcl, hge0]
  refine wpAny_bind (wpAny_pure ?_)
  cases clos with
  | nil =>
    simp only [List.isEmpty_nil, if_true]
    refine wpAny_bind (wpAny_pure ?_)
    refine wpAny_bind (wpAny_functionCodeX hcode (C.code hP ht) (C.tab hP) hnf fun c' h' tk hx hge hlt _ hrec htb _ => ?_)
    have hg' := hg.extBut hx hgP
    refine wpAny_bind (wpAny_builtinsFor hg' hbm hne0 (hx _ _ hneP hbo) hcls hdict hdata ?_)
    refine wpAny_bind (wpAny_nsGet hg' ?_)
    exact wpAny_bind (wpAny_pure (wpAny_newObj_type (h c' .none h' tk hx hge hlt hrec htb.2) (by size_fits)))
  | cons q r =>
    simp only [List.isEmpty_cons, Bool.false_eq_true, if_false]
    refine wpAny_bind (wpAny_newTextTuple ?_)
    refine wpAny_bind (wpAny_functionCodeX hcode ((C.keeps fun b o e => Heap.get?_push_of_some _ e).code (Heap.get?_push_of_some _ hP) ht) ((C.keeps fun b o e => Heap.get?_push_of_some _ e).tab (Heap.get?_push_of_some _ hP)) hnf fun c' h' tk hx hge hlt _ hrec htb _ => ?_)
    have hg' := (hg.push _).extBut hx hgP
    have hx' : Heap.ExtBut P s.heap h' := fun b o hb' e => hx b o hb' (Heap.get?_push_of_some _ e)
    have hge' : s.heap.objs.size ≤ c' := Nat.le_trans (by rw [Heap.size_push]; omega) hge
    refine wpAny_bind (wpAny_builtinsFor hg' hbm hne0 (hx' _ _ hneP hbo) hcls hdict hdata ?_)
    refine wpAny_bind (wpAny_nsGet hg' ?_)
    exact wpAny_bind (wpAny_pure (wpAny_newObj_type (h c' _ h' tk hx' hge' hlt hrec htb.2) (by size_fits)))
theorem tailHit {cv : Value} (hcl : closureFor scope env = pure clos) (hge0 : env.globals = mainGlobals) (hg : s.heap.Ns mainGlobals mg) (hcode : env.code = .ref c) (C : CodeHd s.heap c P) (hP : s.heap.get? P = some (tabObj ps)) (ht : TriplesOk ps.toList)
    (hf : codeAmong pos ps.toList = some cv) (hb : s.heap.BuiltinsAt mg P)
    (h : ∀ (ctv : Value) (h' : Heap) (tk : Tok), (∀ b o, s.heap.get? b = some o → h'.get? b = some o) → s.heap.objs.size ≤ h'.objs.size →
      Q (.ref h'.objs.size) { s with heap := h'.push (lobj name qual params body scope clos ((mg "__name__").getD .none) cv ctv dV), toks := tk }) :
    wpAny M A (makeTail name qual params (.expr body) scope env dV .none none pos firstLine) Q E s := by
  obtain ⟨bm, ob, hbm, hne0, _, hneP, hbo, hcls, hdict, hdata⟩ := hb
  unfold makeTail
  rw [hcl, hge0]
  refine wpAny_bind (wpAny_pure ?_)
  cases clos with
  | nil =>
    simp only [List.isEmpty_nil, if_true]
    refine wpAny_bind (wpAny_pure ?_)
    refine wpAny_bind (wpAny_functionCode_hit hcode (C.code hP ht) hf ?_)
    refine wpAny_bind (wpAny_builtinsFor hg hbm hne0 hbo hcls hdict hdata ?_)
    refine wpAny_bind (wpAny_nsGet hg ?_)
    exact wpAny_bind (wpAny_pure (wpAny_newObj_type (h .none s.heap s.toks (fun _ _ e => e) (Nat.le_refl _)) (by size_fits)))
  | cons q r =>
    simp only [List.isEmpty_cons, Bool.false_eq_true, if_false]
    refine wpAny_bind (wpAny_newTextTuple ?_)
    refine wpAny_bind (wpAny_functionCode_hit hcode ((C.keeps fun b o e => Heap.get?_push_of_some _ e).code (Heap.get?_push_of_some _ hP) ht) hf ?_)
    refine wpAny_bind (wpAny_builtinsFor (hg.push _) hbm hne0 (Heap.get?_push_of_some _ hbo) hcls hdict hdata ?_)
    refine wpAny_bind (wpAny_nsGet (hg.push _) ?_)
    have hsz : ∀ oT : Obj, s.heap.objs.size ≤ (s.heap.push oT).objs.size := fun oT => by rw [Heap.size_push]; omega
    exact wpAny_bind (wpAny_pure (wpAny_newObj_type (h _ _ s.toks (fun b o e => Heap.get?_push_of_some _ e) (hsz _)) (by size_fits)))
end
/-- the defaults stand at dV: none, or a tuple of one int -/
def DefAt (h : Heap) (xs : List Str) (dV : Value) (bs : List (Str × Value)) : Prop := (xs = [] ∧ dV = .none ∧ bs = []) ∨ ∃ (a : Str) (T : Addr) (u : Value), xs = [a] ∧ dV = .ref T ∧ bs = [(a, u)] ∧ h.get? T = some { cls := .type "tuple", data := .seq [u].toArray }
theorem DefAt.keeps {h h' : Heap} {xs : List Str} {dV : Value} {bs : List (Str × Value)} (d : DefAt h xs dV bs) (k : ∀ b o, h.get? b = some o → h'.get? b = some o) : DefAt h' xs dV bs := by
  rcases d with z | ⟨a, T, u, e1, e2, e3, e4⟩
  · exact .inl z
  · exact .inr ⟨a, T, u, e1, e2, e3, k _ _ e4⟩
theorem lamPs_cases {params : Arguments} {xs : List Str} (h : DpS.lamPs params = some xs) : (params = ⟨[], [], none, [], [], none, []⟩ ∧ xs = []) ∨ ∃ (a : Arg) (i : Int) (k : Nat) (p : Pos), params = ⟨[], [a], none, [], [], none, [.Constant (.int i) k p]⟩ ∧ xs = [a.arg] := by
  unfold DpS.lamPs at h
  split at h
  · cases h; exact .inl ⟨rfl, rfl⟩
  · cases h; exact .inr ⟨_, _, _, _, rfl, rfl⟩
  · cases h
section
variable {X : Cx} {pins : List (Addr × Obj)} {σ : L2.St} {H : Hp} {s : Shared}
/-- a lambda is made -/
theorem lam_make {T : List (Addr × Str)} {c P : Addr} {params : Arguments} {body : Expr} {scope : Scope} {pos : Pos} {xs : List Str} {Q : Value → Shared → Prop} (I : Inv X pins σ H s) (TB : TabB X.base X.mg c P) (hcode : X.env.code = .ref c)
    (hm : (P, X.env.qual ++ "<lambda>") ∈ T) (hu : ∀ p ∈ T, p.1 = P → p.2 = X.env.qual ++ "<lambda>") (hT : Tabs T H) (hps : DpS.lamPs params = some xs) (hfree : ∀ y ∈ scope.names, y.2 = .free → ∃ c, X.env.cells.lookup y.1 = some c)
    (h : ∀ (f c' : Addr) (pm ctv dV : Value) (bs : List (Str × Value)) (H1 : Hp) (s' : Shared), Inv X pins σ H1 s' → ExtN H H1 → Tabs T H1 → DefAt s'.heap xs dV bs → (∀ T', dV = .ref T' → H1 T' = none ∧ T' ∉ frs X.stack) →
      s'.heap.get? f = some (lobj "<lambda>" (X.env.qual ++ "<lambda>") params body scope (cloFrom X.env.cells scope.names []) pm (.ref c') ctv dV) → H1 f = none → f ∉ frs X.stack → H1 c' = some (CodeO c' (X.env.qual ++ "<lambda>")) → Q (.ref f) s') :
    wpAny (model X.prog X.w) X.A (eval (.Lambda params body scope pos) X.env) Q X.xe s := by
  -- the defaults, then the tail
  have tail : ∀ (s0 : Shared) (dV : Value) (bs : List (Str × Value)), Inv X pins σ H s0 → DefAt s0.heap xs dV bs → (∀ T', dV = .ref T' → H T' = none ∧ T' ∉ frs X.stack ∧ T' < s0.heap.objs.size) →
      wpAny (model X.prog X.w) X.A (makeTail "<lambda>" (X.env.qual ++ "<lambda>") params (.expr body) scope X.env dV .none none pos pos.line) Q X.xe s0 := by
    intro s0 dV bs I dA dN
    obtain ⟨ps, hP, ht, ha⟩ := hT _ hm
    have bP : s0.heap.BuiltinsAt X.mg P := TB.bm.keeps I.bk
    have hP' : s0.heap.get? P = some { cls := .none, data := .fields ps } := I.hok P _ hP
    have nofr : ∀ f, s0.heap.objs.size ≤ f → f ∉ frs X.stack := fun f hf z => by
      rcases List.mem_cons.mp (I.stkSub _ z) with e | e
      · have h1 := I.lt
        rw [← e] at h1
        exact Nat.lt_irrefl _ (Nat.lt_of_lt_of_le h1 hf)
      · exact I.nofs hf e
    cases hc : codeAmong pos ps.toList with
    | none =>
      refine tailNew (mg := X.mg) (c := c) (P := P) (ps := ps) (closure_ok hfree) I.ok.glob (I.mod.glob.keeps I.bk) hcode (TB.code.keeps I.bk) hP' ht hc TB.gP bP fun c' ctv h' tk hx hge hlt hrec htb => ?_
      obtain ⟨c2, oc, vs, t, e2, hoc, hd, hv⟩ := hrec
      cases e2
      have hsz : s0.heap.objs.size ≤ h'.objs.size := Nat.le_trans hge (Nat.le_of_lt hlt)
      have nC : H c' = none := I.hok.fresh hge
      have I1 := inv_table (t' := tk) (more := #[rawInt pos.line, rawInt pos.col, .ref c']) (h' := h'.push (lobj "<lambda>" (X.env.qual ++ "<lambda>") params body scope (cloFrom X.env.cells scope.names []) ((X.mg "__name__").getD .none) (.ref c') ctv dV)) I hP
        (fun b o hb e => Heap.get?_push_of_some _ (hx b o hb e)) (Heap.get?_push_of_some _ htb) hge ⟨oc, vs, t, Heap.get?_push_of_some _ hoc, hd, hv⟩
      have hE : ExtN H (upd (upd H P (.tbl (ps ++ #[rawInt pos.line, rawInt pos.col, .ref c']))) c' (CodeO c' (X.env.qual ++ "<lambda>"))) := fun b o e n => by
        rw [upd_ne (ne_of_none e nC), upd_ne (fun z => n ps (Option.some.inj (e.symm.trans (by rw [z]; exact hP))))]
        exact e
      have eL : (ps ++ #[rawInt pos.line, rawInt pos.col, .ref c']).toList = ps.toList ++ [rawInt pos.line, rawInt pos.col, .ref c'] := by simp
      have dA' : DefAt (h'.push (lobj "<lambda>" (X.env.qual ++ "<lambda>") params body scope (cloFrom X.env.cells scope.names []) ((X.mg "__name__").getD .none) (.ref c') ctv dV)) xs dV bs := by
        rcases dA with z | ⟨a, T', u, e1, e2, e3, e4⟩
        · exact .inl z
        · have nTP : T' ≠ P := fun z => by
            have := (dN T' e2).1
            rw [z, hP] at this
            cases this
          exact .inr ⟨a, T', u, e1, e2, e3, Heap.get?_push_of_some _ (hx _ _ nTP e4)⟩
      refine h h'.objs.size c' ((X.mg "__name__").getD .none) ctv dV bs _ _ I1 hE (fun p hp => ?_) dA' (fun T' e => ⟨?_, (dN T' e).2.1⟩) (Heap.get?_push_size _ rfl) ?_ (nofr _ hsz) upd_same
      · by_cases hb : p.1 = P
        · rw [hu p hp hb, hb]
          refine ⟨_, by rw [upd_ne (ne_of_none hP nC), upd_same], by rw [eL]; exact PySem.TriplesOk_snoc _ _ _ _ ht, fun p' cv hcv => ?_⟩
          rw [eL] at hcv
          rcases among_app _ ht hcv with z | z
          · obtain ⟨c0, e1, e2⟩ := ha p' cv z
            exact ⟨c0, e1, hE _ _ e2 codeO_ne⟩
          · exact ⟨c', z, upd_same⟩
        · obtain ⟨ps', a1, a2, a3⟩ := hT p hp
          refine ⟨ps', by rw [upd_ne (ne_of_none a1 nC), upd_ne hb]; exact a1, a2, fun p' cv hcv => ?_⟩
          obtain ⟨c0, e1, e2⟩ := a3 p' cv hcv
          exact ⟨c0, e1, hE _ _ e2 codeO_ne⟩
      · obtain ⟨d1, _, d3⟩ := dN T' e
        have n1 : T' ≠ c' := Nat.ne_of_lt (Nat.lt_of_lt_of_le d3 hge)
        have n2 : T' ≠ P := fun z => by rw [z, hP] at d1; cases d1
        rw [upd_ne n1, upd_ne n2]
        exact d1
      · have n1 : h'.objs.size ≠ c' := Nat.ne_of_gt hlt
        have n2 : h'.objs.size ≠ P := Nat.ne_of_gt (Nat.lt_of_lt_of_le (Heap.lt_size hP') hsz)
        rw [upd_ne n1, upd_ne n2]
        exact I.hok.fresh hsz
    | some cv =>
      obtain ⟨c', e, hco⟩ := ha pos cv hc
      subst e
      refine tailHit (mg := X.mg) (c := c) (P := P) (ps := ps) (closure_ok hfree) I.ok.glob (I.mod.glob.keeps I.bk) hcode (TB.code.keeps I.bk) hP' ht hc bP fun ctv h' tk hx hsz => ?_
      have I1 : Inv X pins σ H { s0 with heap := h'.push (lobj "<lambda>" (X.env.qual ++ "<lambda>") params body scope (cloFrom X.env.cells scope.names []) ((X.mg "__name__").getD .none) (.ref c') ctv dV), toks := tk } := I.kept fun b o e => Heap.get?_push_of_some _ (hx b o e)
      exact h h'.objs.size c' ((X.mg "__name__").getD .none) ctv dV bs H _ I1 (ExtN.refl H) hT (dA.keeps fun b o e => Heap.get?_push_of_some _ (hx b o e)) (fun T' e => ⟨(dN T' e).1, (dN T' e).2.1⟩) (Heap.get?_push_size _ rfl) (I.hok.fresh hsz) (nofr _ hsz) hco
  rw [arm_eval_Lambda]
  rcases lamPs_cases hps with ⟨rfl, rfl⟩ | ⟨a, i, k, p, rfl, rfl⟩
  · show wpAny _ _ (do let dv ← evalAll []; let kdv ← holding dv (evalAllOpt []); makeFunction "<lambda>" (X.env.qual ++ "<lambda>") _ (.expr body) scope X.env dv kdv [] pos pos.line) Q X.xe s
    refine wpAny_bind (wpAny_pure (wpAny_bind (wpAny_holding (wpAny_pure ?_))))
    rw [makeFunction_eq]
    simp only [List.zip_nil_right, List.filterMap_nil, List.isEmpty_nil, if_true, pure_bind]
    exact tail s .none [] I (.inl ⟨rfl, rfl, rfl⟩) (fun T' e => nomatch e)
  · show wpAny _ _ (do let dv ← evalAll [eval (.Constant (.int i) k p) X.env]; let kdv ← holding dv (evalAllOpt []); makeFunction "<lambda>" (X.env.qual ++ "<lambda>") _ (.expr body) scope X.env dv kdv [] pos pos.line) Q X.xe s
    refine wpAny_bind ?_
    show wpAny _ _ (do let v ← eval (.Constant (.int i) k p) X.env; let r ← holding [v] (evalAll []); pure (v :: r)) _ _ s
    refine wpAny_bind (thn (pe_int.run pins s σ H (fun v H1 => v = .int i ∧ H1 = H) I ⟨rfl, rfl⟩) fun u s1 ⟨v, H1, I1, r1, ev, eH⟩ => ?_)
    subst eH
    refine wpAny_bind (wpAny_holding (wpAny_pure (wpAny_pure (wpAny_bind (wpAny_holding (wpAny_pure ?_))))))
    rw [makeFunction_eq]
    simp only [List.zip_nil_right, List.filterMap_nil, List.isEmpty_nil, if_true, pure_bind, List.isEmpty_cons, Bool.false_eq_true, if_false]
    refine wpAny_bind (wpAny_newTextTuple ?_)
    have nofr : s1.heap.objs.size ∉ frs X.stack := fun z => by
      rcases List.mem_cons.mp (I1.stkSub _ z) with e | e
      · have h1 := I1.lt
        rw [← e] at h1
        exact Nat.lt_irrefl _ h1
      · exact I1.nofs (Nat.le_refl _) e
    refine tail _ _ [(a.arg, u)] (I1.kept (t' := s1.toks) fun b o e => Heap.get?_push_of_some _ e) (.inr ⟨a.arg, _, u, rfl, rfl, rfl, Heap.get?_push_size _ rfl⟩) (fun T' e => ?_)
    cases e
    exact ⟨I1.hok.fresh (Nat.le_refl _), nofr, by show s1.heap.objs.size < (s1.heap.push _).objs.size; rw [Heap.size_push]; exact Nat.lt_succ_self _⟩
end
end DpL
end

section
set_option Elab.async false
set_option linter.all false
set_option maxRecDepth 100000
set_option maxHeartbeats 4000000
set_option autoImplicit false
/-! DpB23: such a lambda is called; f(lambda: e) by data. -/
namespace DpL
open PySem PySem.Spec PySem.W PySem.Calls PyProof.Rows L2 LamX
theorem bind1 (name qual : Str) (a : Arg) (d : Expr) (body : Expr) (scope : Scope) (cl : List (Str × Addr)) (pm cv ct : Value) (T : Addr) (u : Value) :
    ∃ k, bindArgs (lfn name qual ⟨[], [a], none, [], [], none, [d]⟩ body scope cl pm cv ct (.ref T)) ⟨[], []⟩ = (seqItems? (.ref T) >>= k) ∧ k (some #[u]) = pure [(a.arg, u)] := by
  refine ⟨_, rfl, ?_⟩
  simp [List.lookup]
theorem bind_to {s : Shared} {params : Arguments} {xs : List Str} {dV : Value} {bs : List (Str × Value)} (name qual : Str) (body : Expr) (scope : Scope) (cl : List (Str × Addr)) (pm cv ct : Value) (hps : DpS.lamPs params = some xs) (d : DefAt s.heap xs dV bs) :
    BindsTo s (lfn name qual params body scope cl pm cv ct dV) ⟨[], []⟩ bs := by
  rcases lamPs_cases hps with ⟨rfl, rfl⟩ | ⟨a, i, k, p, rfl, rfl⟩
  · rcases d with ⟨_, rfl, rfl⟩ | ⟨_, _, _, e, _⟩
    · exact .of_eq rfl
    · cases e
  · rcases d with ⟨e, _⟩ | ⟨_, T, u, e, rfl, rfl, ho⟩
    · cases e
    · cases e
      obtain ⟨kk, e1, e2⟩ := bind1 name qual a (.Constant (.int i) k p) body scope cl pm cv ct T u
      intro M A E Q hq
      rw [e1]
      refine wpAny_bind (wpAny_seqItems ho rfl ?_)
      show wpAny M A (kk (some #[u])) Q E s
      rw [e2]
      exact wpAny_pure hq
/-- the lambda's names: parameters that are no slots, captured ones, globals -/
structure LmS (N : List Str) (sc scope : Scope) (xs : List Str) : Prop where
  kind : scope.kind = .function
  co : scope.isCoroutine = false
  gen : scope.isGenerator = false
  cell : ∀ y ∈ scope.names, y.2 ≠ .cell
  own : ∀ y ∈ scope.names, y.2 = .local → y.1 ∉ N
  free : ∀ y ∈ scope.names, y.2 = .free → sc.names.lookup y.1 = some .cell ∨ sc.names.lookup y.1 = some .free
  par : ∀ a ∈ xs, scope.names.lookup a = some .local
theorem lmS_by {N : List Str} {sc scope : Scope} {params : Arguments} (h : DpS.lamOk N sc scope params = true) : ∃ xs, DpS.lamPs params = some xs ∧ LmS N sc scope xs := by
  unfold DpS.lamOk at h
  cases e : DpS.lamPs params with
  | none => rw [e] at h; cases h
  | some xs =>
    rw [e] at h
    have h : DpS.lamScB N sc scope xs = true := h
    unfold DpS.lamScB at h
    simp only [Bool.and_eq_true, Bool.or_eq_true, Bool.not_eq_true', decide_eq_true_eq, decide_eq_false_iff_not, List.all_eq_true] at h
    obtain ⟨⟨⟨⟨h1, h2⟩, h3⟩, h4⟩, h5⟩ := h
    refine ⟨xs, rfl, h1, h2, h3, fun y hy => (h4 y hy).1.1, fun y hy e => ?_, fun y hy e => ?_, h5⟩
    · rcases (h4 y hy).1.2 with z | ⟨_, z⟩
      · exact absurd e z
      · intro m
        rw [List.contains_iff_mem.mpr m] at z
        cases z
    · rcases (h4 y hy).2 with (z | z) | z
      · exact absurd e z
      · exact .inl z
      · exact .inr z
theorem LmS.has {X : Cx} {N : List Str} {scope : Scope} {xs : List Str} (L : LmS N X.env.scope scope xs) (ok : X.Ok) : ∀ y ∈ scope.names, y.2 = .free → ∃ c, X.env.cells.lookup y.1 = some c := fun y hy e => by
  rcases L.free y hy e with k | k
  · exact ok.has _ (.inl k)
  · exact ok.has _ (.inr k)
section
variable {X : Cx} {pins : List (Addr × Obj)} {σ : L2.St} {H HZ : Hp} {s s1 : Shared}
theorem lam_start3 {A : Around} {outer : List Env} {E : XK} {scope : Scope} {xs : List Str} {bs : List (Str × Value)} {f c' : Addr} {h₁ : Heap} {tk : Nat} (I : Inv X pins σ H s) (L : LmS X.N X.env.scope scope xs) (e0 : Env0 X.prog X.w X.K X.mg X.base A outer s1 HZ) (hd : A.handled = none)
    (un : Un (frs X.stack) [] H HZ s.heap s1.heap) (hns : h₁.Ns s1.heap.objs.size fun y => bs.reverse.lookup y) (kp : ∀ b o, s1.heap.get? b = some o → h₁.get? b = some o) :
    Inv (lamCx X A outer s1 HZ E scope f c') [] σ HZ { s1 with heap := h₁, toks := tk } := by
  have hfree := L.has I.ok
  have cm : ∀ {y c}, (cloFrom X.env.cells scope.names []).lookup y = some c → X.env.cells.lookup y = some c := fun {y c} e => by
    rcases cloFrom_mem (PySem.mem_of_lookup e) with hm | ⟨h1, h2⟩
    · cases hm
    · obtain ⟨c1, hc⟩ := hfree _ h1 rfl
      have hc : X.env.cells.lookup y = some c1 := hc
      have e2 : c = c1 := by
        rw [h2, hc] <;> rfl
      rw [e2]
      exact hc
  have look : ∀ {y}, scope.names.lookup y = some .free → ∃ c, (cloFrom X.env.cells scope.names []).lookup y = some c := fun {y} hl => by
    have hy : (y, NameKind.free) ∈ scope.names := PySem.mem_of_lookup hl
    exact mem_lookup (cloFrom_has (cells := X.env.cells) (acc := []) hy)
  have cellK : ∀ {c : Addr} {v : Option Value}, H c = none → s.heap.IsCell c v → h₁.IsCell c v := fun {c v} n ⟨o, ho, hd⟩ => by
    obtain ⟨sl, q⟩ := un.any ho n (by simp)
    exact ⟨_, kp _ _ q, hd⟩
  have noA : ∀ b : Addr, b ∉ (lamCx X A outer s1 HZ E scope f c').ex := fun b z => absurd (show b ∈ ([] : List Addr) from z) (by simp)
  refine ⟨⟨e0.mod, L.kind, rfl, rfl, Nat.le_refl _, fun y z c e1 e2 => I.ok.inj y z c (cm e1) (cm e2), fun y hy => ?_, fun y c z _ => ?_, fun _ => hd, Around.frames_deeper e0.frames, .inr ⟨rfl, rfl⟩, fun b z => absurd z (noA b), e0.bs, e0.bsz, fun b _ _ => noA b,
      fun b z => absurd z (noA b), e0.funs, e0.frf⟩,
    rfl, e0.bare, Un.kept kp, ⟨_, hns, fun i y v e1 e2 e3 => ?_⟩, fun y c e => ?_, e0.hok.fresh (Nat.le_refl _), fun y c e => ?_, fun q hq => absurd (show q ∈ ([] : List (Addr × Obj)) ++ [] from hq) (by simp), e0.hok.kept kp, I.len⟩
  · have hy : scope.names.lookup y = some .cell ∨ scope.names.lookup y = some .free := hy
    rcases hy with hy | hy
    · exact absurd rfl (L.cell _ (PySem.mem_of_lookup hy))
    · exact look hy
  · have z : false = true := z
    cases z
  · have e3 : Vis scope y := e3
    rcases e3 with k | k | k
    · exact absurd (List.mem_of_getElem? e1) (L.own _ (PySem.mem_of_lookup k) rfl)
    · exact absurd rfl (L.cell _ (PySem.mem_of_lookup k))
    · obtain ⟨m, hn, hl⟩ := I.loc
      have hvis : Vis X.env.scope y := (L.free _ (PySem.mem_of_lookup k) rfl).elim (fun k => .inr (.inl k)) (fun k => .inr (.inr k))
      obtain ⟨w', r, q⟩ := hl i y v e1 e2 hvis
      obtain ⟨c2, h2⟩ := look k
      refine ⟨w', r, .inr ⟨.inr k, c2, h2, ?_⟩⟩
      have c1 := cm h2
      rcases q with ⟨k', _⟩ | ⟨_, c3, e', z⟩
      · have k' : X.env.scope.names.lookup y = some .local := k'
        rcases L.free _ (PySem.mem_of_lookup k) rfl with k2 | k2 <;> rw [show X.env.scope.names.lookup y = _ from k2] at k' <;> cases k'
      · rw [c1] at e'
        cases e'
        exact cellK (I.freeC y _ c1) z
  · obtain ⟨w', z⟩ := I.cell y c (cm e)
    exact ⟨w', cellK (I.freeC y c (cm e)) z⟩
  · obtain ⟨v, o, ho, hd⟩ := I.cell y c (cm e)
    exact un.free c o ho (I.freeC y c (cm e)) (by simp)
/-- x(), in the def that got the lambda: Z is that def's context, entered at s -/
theorem pe_act3 {CXg : CXT} {Eg : XK} {Ng : List Str} {qg : Str} {sg : Scope} {g f c' : Addr} {cdg pm ctv : Value} {params : Arguments} {body : Expr} {scope : Scope} {xs : List Str} {dV : Value} {bs : List (Str × Value)} {k i : Nat} {a : Str} {pn : List (Addr × Obj)} {xe : Value → Shared → Prop} {W : WX} {E : XK} {tb : TE} {p1 p2 : Pos}
    (I : Inv X pins σ H s) (L : LmS X.N X.env.scope scope xs) (hf : s.heap.get? f = some (lobj "<lambda>" (X.env.qual ++ "<lambda>") params body scope (cloFrom X.env.cells scope.names []) pm (.ref c') ctv dV)) (hfn : H f = none) (hfr : f ∉ frs X.stack)
    (hps : DpS.lamPs params = some xs) (hdf : DefAt s.heap xs dV bs) (hdn : ∀ T', dV = .ref T' → H T' = none ∧ T' ∉ frs X.stack)
    (tk : Takes ((cxOf CXg X.prog X.w X.K X.mg X.base Ng qg sg g cdg X.A X.stack s H Eg).tr pn xe) W) (hW : ∀ cls d σ' H', E cls d H' → W cls d σ' H') (hr : Room (k + 1) (X.A.deeper (envOfC qg sg s.heap.objs.size g cdg)))
    (hbody : ∀ (A : Around) (outer : List Env) (s : Shared) (H : Hp), Room k (A.deeper (lamEnv X scope s.heap.objs.size f c')) → PE (lamCx X A outer s H E scope f c') body tb)
    (hN : Ng[i]? = some a) (hv : Vis sg a) (hd : (a == ("__debug__" : Str)) = false := by decide) (hcd : (a == ("__classdict__" : Str)) = false := by decide) :
    PE ((cxOf CXg X.prog X.w X.K X.mg X.base Ng qg sg g cdg X.A X.stack s H Eg).tr pn xe) (.Call (.Name a p1) [] [] p2)
      (fun σZ HZ Q => σZ[i]? = some (some (.ref f)) ∧ HZ c' = some (CodeO c' (X.env.qual ++ "<lambda>")) ∧ tb σ HZ Q) := by
  refine ⟨fun pinsZ sZ σZ HZ Q IZ h => ?_⟩
  obtain ⟨hs, hc, ht⟩ := h
  refine wpAny_Call_Name_kw (thn ((pe_var (pos := p1) (i := i) hN hv hd hcd).run pinsZ sZ σZ HZ (fun v H1 => v = .ref f ∧ H1 = HZ) IZ ⟨.ref f, hs, rfl, rfl⟩) fun u s1 ⟨v, H1, I1, r1, q1⟩ => ?_)
  obtain ⟨ev, eH⟩ := q1
  subst ev
  rw [eH] at I1
  obtain rfl : u = Value.ref f := r1
  have of1 : s1.heap.get? f = some (lobj "<lambda>" (X.env.qual ++ "<lambda>") params body scope (cloFrom X.env.cells scope.names []) pm (.ref c') ctv dV) := I1.base.keep f _ hf hfn hfr (fun z => nomatch (show f ∈ ([] : List Addr) from z))
  have df1 : DefAt s1.heap xs dV bs := by
    rcases hdf with z | ⟨a, T', u, e1, e2, e3, e4⟩
    · exact .inl z
    · exact .inr ⟨a, T', u, e1, e2, e3, I1.base.keep T' _ e4 (hdn T' e2).1 (hdn T' e2).2 (fun z => nomatch (show T' ∈ ([] : List Addr) from z))⟩
  refine PySem.W.callWith_F0 ⟨_, _, _, _, of1⟩ ?_
  have un : Un (frs X.stack) [] H HZ s.heap s1.heap := I1.base
  obtain ⟨⟨oc, vs, t, hoc, hdc, hvc⟩, _, _⟩ := I1.hok c' _ hc
  have rc : codeAny (model X.prog X.w) (X.A.deeper (envOfC qg sg s.heap.objs.size g cdg)) (.call (.ref f) ⟨[], []⟩) (CR (L2.CX X.prog X.w) (envOfC qg sg s.heap.objs.size g cdg :: X.stack) X.prog X.w HZ s1 Q E) s1 := by
    refine PySem.W.kla_callFunE hr.depth of1 rfl L.co L.gen rfl ⟨c', oc, vs, t, rfl, hoc, hdc, hvc⟩ ?_
    refine bind_to "<lambda>" (X.env.qual ++ "<lambda>") body scope (cloFrom X.env.cells scope.names []) pm (.ref c') ctv hps df1 _ _ _ _ (wpAny_newFunctionEnv (fun y hy => L.cell y hy) (fun y hy => ?_) (fun h₁ hns hsb => ⟨I1.nolimit.fresh _ hsb, ?_⟩) L.kind)
    · rcases df1 with ⟨_, _, e3⟩ | ⟨a, T', u, e1, e2, e3, e4⟩
      · rw [e3] at hy; cases hy
      · rw [e3] at hy
        rw [List.mem_singleton.mp hy]
        exact L.par a (by rw [e1]; exact List.mem_singleton.mpr rfl)
    show codeAny _ _ (.expr body (lamEnv X scope s1.heap.objs.size f c')) _ _
    have kp : ∀ b o, s1.heap.get? b = some o → h₁.get? b = some o := fun b o e => hsb.extBut b o (Nat.ne_of_lt (Heap.lt_size e)) (Heap.get?_push_of_some _ e)
    have J : Inv (lamCx X (X.A.deeper (envOfC qg sg s.heap.objs.size g cdg)) (envOfC qg sg s.heap.objs.size g cdg :: X.stack) s1 HZ E scope f c') [] σ HZ { s1 with heap := h₁, toks := s1.toks + bs.length } :=
      lam_start3 I L I1.env0 hr.hd un hns kp
    refine PySem.W.kla_codeExpr (wpAny_mono ((hbody _ _ s1 HZ (hr.deeper _)).run [] _ _ HZ Q J ht) (fun v s' hq => ?_) fun e s' hq => hq)
    obtain ⟨w', H', J', rv, q⟩ := hq
    exact ⟨w', H', J'.os, J'.bare, J'.base, J'.hok, rv, q⟩
  have hx : Passes (L2.CX X.prog X.w) ((cxOf CXg X.prog X.w X.K X.mg X.base Ng qg sg g cdg X.A X.stack s H Eg).tr pn xe) E := passes_call tk hW
  refine wpAny_call (codeAny_mono rc fun r s' hq => ?_)
  cases r with
  | error e => exact hx pinsZ σZ HZ s1 e s' I1 hq
  | ok fl =>
    cases fl with
    | ret u => exact I1.after hq
    | next => exact False.elim hq
    | brk => exact False.elim hq
    | cont => exact False.elim hq
end
section
variable {X : Cx}
/-- x(lambda: body) -/
theorem pe_lamcall3 {T : List (Addr × Str)} {TT : (XK → Hp → VK → Prop) → Hp → VK → Prop} {x a : Str} {g c P : Addr} {k : Nat} {pg : Arguments} {bg : List Stmt} {sg : Scope} {dV kV doc pm cdv ct oc : Value} {an od : Option Addr} {osl : Array (Option Value)} {Ng : List Str}
    {params : Arguments} {body : Expr} {scope : Scope} {t : XK → TE} {p lpos pos : Pos} (hg : Gl X x) (hm : X.mg x = some (.ref g)) (hk : PySem.W.keepIn X.K (.ref g) = true)
    (lk : X.K.lookup g = some ⟨oc, od, .func (PySem.W.fnOf x x pg bg sg dV kV doc pm an cdv ct), osl⟩) (hcg : PySem.W.codeIn X.K cdv x = true) (hb : L2.Binds X.K (PySem.W.fnOf x x pg bg sg dV kV doc pm an cdv ct) [a] []) (Sg : FnScope Ng [a] sg) (hNg : Ng[0]? = some a) (hva : Vis sg a)
    (hG : GivesTo X Ng x sg g cdv bg a (X.env.qual ++ "<lambda>") TT)
    (TB : TabB X.base X.mg c P) (hcode : X.env.code = .ref c) (hmT : (P, X.env.qual ++ "<lambda>") ∈ T) (hu : ∀ p ∈ T, p.1 = P → p.2 = X.env.qual ++ "<lambda>") (hr : Room (k + 2) X.A) {xs : List Str} (L : LmS X.N X.env.scope scope xs) (hps : DpS.lamPs params = some xs)
    (hbody : ∀ (A : Around) (outer : List Env) (s : Shared) (H : Hp) (E : XK) (f c' : Addr), Room k (A.deeper (lamEnv X scope s.heap.objs.size f c')) → PE (lamCx X A outer s H E scope f c') body (t E))
    (hdb : (x == ("__debug__" : Str)) = false := by decide) (hd : (a == ("__debug__" : Str)) = false := by decide) (hcd : (a == ("__classdict__" : Str)) = false := by decide) :
    PE X (.Call (.Name x p) [.Lambda params body scope lpos] [] pos) (tLam T TT t) := by
  refine ⟨fun pins s σ H Q I h => ?_⟩
  obtain ⟨hT, h⟩ := h
  refine wpAny_Call_Name_kw (ld_glob I hg hm ?_ hdb)
  refine PySem.W.callWith_K (h₀ := X.base) I.ok.mod.kin hk ?_ (by rfl) (by rfl)
  show wpAny _ _ (spliced ((false, eval (.Lambda params body scope lpos) X.env) :: backTo pos (starEach [] X.env))) _ _ s
  refine Calls.spliced_cons (lam_make I TB hcode hmT hu hT hps (L.has I.ok) fun f c' pm' ctv dV bs H1 s' I1 eN T1 hdf hdn hf hfn hfr hco => ?_)
  refine Calls.spliced_nil ⟨I1.kIn, ?_⟩
  have rc : codeAny (model X.prog X.w) X.A (.call (.ref g) ⟨[.ref f], []⟩) (CR C8.CX0 X.stack X.prog X.w H1 s' Q C8.E0) s' := by
    refine run_ofS (N := Ng) (ps := [a]) (us := [.ref f]) (vs := [.ref f]) lk hcg Sg hr I1.env0 (hb s' [.ref f] I1.kIn rfl) (.cons rfl .nil) rfl fun hr' => ?_
    obtain ⟨t', ht', hq'⟩ := hG f c' s' H1 Q (fun E H' Q' => t E σ H' Q') (fun W pn xe E p1 p2 tk hW => pe_act3 (i := 0) I1 L hf hfn hfr hps hdf hdn tk hW hr' (fun A outer s H hr2 => hbody A outer s H E f c' hr2) hNg hva hd hcd) hco (h H1 eN T1)
    exact ⟨t', ht'.nox, hq'⟩
  refine wpAny_call (codeAny_mono rc fun r s2 hq => ?_)
  cases r with
  | error e => exact (show False from hq).elim
  | ok fl =>
    cases fl with
    | ret u => exact I1.after hq
    | next => exact False.elim hq
    | brk => exact False.elim hq
    | cont => exact False.elim hq
end
end DpL
end

section
set_option Elab.async false
set_option linter.all false
set_option maxRecDepth 100000
set_option maxHeartbeats 4000000
set_option autoImplicit false
/-! DpB24: told calls by data; levels of calls. -/
namespace DpS
open PySem PySem.Spec L2
/-- the defs at a level: each keeps what its term tells -/
def FnsAt (P : Program) (w : World) (mg : Str → Option Value) (base : Heap) (L : LX) (φ : Dp.Fsem) (k : Nat) : Prop :=
  ∀ f, L.dfn f = true → ∃ fd ps, ps.length = L.fnp f ∧ FnOk P w L.R.K mg base (L2.CX P w) k (L.R.fa f) fd ps (spD L.R L.T (φ f) ps.length) ∧ Binds L.R.K fd ps []
/-- the globals, the classes -/
structure GlobsOk (mg : Str → Option Value) (L : LX) (G : Dp.Gam) : Prop where
  free : ∀ x ∈ bnames, mg x = none
  glob : ∀ i d, G.glob i = some d → ∃ x v u, L.gnm i = some x ∧ mg x = some u ∧ RelV v u ∧ Rep L.R (fun _ => none) d v
  fnm : ∀ f x, L.fnm f = some x → L.dfn f = true ∧ mg x = some (.ref (L.R.fa f)) ∧ PySem.W.keepIn L.R.K (.ref (L.R.fa f)) = true
  inj : ∀ i j, L.R.an i = L.R.an j → i = j
  insts : ∀ c, (G.initOf c).isSome = true → Cls L.R.K (L.R.ca c) ∧ ∀ i y, L.anm i = some y → L.R.an i = y ∧ NoAttr L.R.K (L.R.ca c) y
  cnm : ∀ c x, L.cnm c = some x → ∃ f, G.initOf c = some f ∧ L.cnp c = L.fnp f ∧ L.dfn f = true ∧ Mk L.R.K (L.R.ca c) (L.R.fa f) ∧ mg x = some (.ref (L.R.ca c))
theorem xo0_of {L : LX} {G : Dp.Gam} {N : List Str} {sc : Scope} {A : Act} {W : WX} {X : Cx} {k : Nat} (hK : X.K = L.R.K) (hN : X.N = N) (hs : X.env.scope = sc) (nd : N.Nodup) (hc : X.calm = true) (hr : Room (k + 1) X.A) (tk : Takes X W) (hT : A.T = L.T) (gl : GlobsOk X.mg L G) (fn : FnsAt X.prog X.w X.mg X.base L G.fn k) : XOk0 L G N sc true A W X where
  K := hK
  N := hN
  sc := hs
  nd := by rw [hN]; exact nd
  calm := fun _ => hc
  units := by have := hr.un; omega
  tk := tk
  T := hT
  free := gl.free
  glob := gl.glob
  fns := fun f x h _ => by
    obtain ⟨hd, e3, e4⟩ := gl.fnm f x h
    obtain ⟨fd, ps, e1, e2, e5⟩ := fn f hd
    exact ⟨k, fd, ps, hr.mono (by omega), e1, by rw [hK]; exact e2, e3, by rw [hK]; exact e4, by rw [hK]; exact e5⟩
  inj := gl.inj
  insts := by rw [hK]; exact gl.insts
  mks := fun c x h _ => by
    obtain ⟨f, h1, hp, hd, h3, h4⟩ := gl.cnm c x h
    obtain ⟨fd, ps, e1, e2, e5⟩ := fn f hd
    exact ⟨f, k, fd, ps, h1, hp, hr, e1, by rw [hK]; exact h3, by rw [hK]; exact e2, h4, by rw [hK]; exact e5⟩

/-! ### told calls -/
/-- what the def makes of a call: the value itself (v) or a word of its own; of an exception without fields a word -/
abbrev Tld := Dp.Tld
def twV : Dp.TW → V
  | .s w => .str ⟨w.toArray⟩
  | .i n => .int (n : Int)
/-- an exception that is told -/
def TwE (R : RC) (t : Tld) (Q : VK) : XK := fun c dx H' => XD dx H' ∧ ∃ j s, c = .ref (R.ca j) ∧ t.exw j = some s ∧ ∀ H'', (∀ b o, H' b = some o → H'' b = some o) → Q (twV s) H''
/-- a value that is told -/
def TwQ (t : Tld) (Q : VK) : VK := fun v H' => ∀ H'', (∀ b o, H' b = some o → H'' b = some o) → Q (match t.okw with | some s => .str ⟨s.toArray⟩ | none => v) H''
def TTw (R : RC) (t : Tld) : (XK → Hp → VK → Prop) → Hp → VK → Prop := fun tl H Q =>
  ∀ (E' : XK) (Q' : VK), (∀ c dx H', TwE R t Q c dx H' → E' c dx H') → (∀ v H', TwQ t Q v H' → Q' v H') → tl E' H Q'
section
variable {L : LX} {G : Dp.Gam} {N : List Str} {sc : Scope} {A : Act} {W : WX} {X : Cx}
theorem grow_ext {H H' F : Hp} (t : LamX.Tabs A.T H) (e : ∀ b o, H b = some o → H' b = some o) : Grow A H F H' F := ⟨fun a o h _ => e a o h, Sub.refl _, fun _ _ h => .inl h, t.ext e⟩
theorem tld_imp {fb : Dp.E} {f : Nat} {t : Tld} {σ : St} {H : Hp} {Q : VK} (ht : G.told f = some t.told) (hT : A.T = L.T) (h : tE L.R A W (Dp.ev G (.tld f fb)) σ H Q) :
    LamX.tLam L.T (TTw L.R t) (fun E => tE L.R A (fun c d _ H' => E c d H') (Dp.ev G fb)) σ H Q := by
  obtain ⟨F, δ, q, h⟩ := h
  refine ⟨by rw [← hT]; exact q.tab, fun H1 eN T1 E' Q' hE hQ => ?_⟩
  have g : Grow A H F H1 F := ⟨fun a o h1 t => eN a o h1 fun ps e => t ⟨ps, e⟩, Sub.refl _, fun _ _ h => .inl h, by rw [hT]; exact T1⟩
  have q1 := g.rel q
  have h := Post.rebase back_E g.step h
  refine ⟨F, δ, q1, ?_⟩
  have h : Post L.R A W (RlE L.R A) σ H1 F δ (match G.told f with
    | some t => (match (Dp.ev G fb δ).used with
      | .ok d σ1 => .ok (.val (t.okv d)) σ1
      | .exc x σ1 => (match t.exv x with
        | some d => .ok (.val d) σ1
        | none => .stuck)
      | .stuck => .stuck)
    | none => .stuck) Q := h
  rw [ht] at h
  cases e : Dp.ev G fb δ with
  | stuck => rw [e] at h; exact h.elim
  | ok r δ1 =>
    rw [e] at h
    intro v H' F' q' st rr
    refine hQ v H' fun H'' eX => ?_
    have h : Post L.R A W (RlE L.R A) σ H1 F δ (match (match Dp.use r δ1 with | some (d, s') => Dp.Out.ok d s' | none => .stuck) with
      | .ok d σ1 => .ok (.val (t.told.okv d)) σ1
      | .exc x σ1 => (match t.told.exv x with
        | some d => .ok (.val d) σ1
        | none => .stuck)
      | .stuck => .stuck) Q := h
    cases u : Dp.use r δ1 with
    | none => rw [u] at h; exact h.elim
    | some p =>
      obtain ⟨d, δ2⟩ := p
      rw [u] at h
      obtain ⟨F2, q2, rd, sub, new, own⟩ := use_rel rr q' u (fun a n => q1.ntA n)
      have g2 := grow_ext (F := F2) q2.tab eX
      have st2 : Stp A σ H1 F δ H' F2 δ2 := ⟨st.keep, st.there, st.more.trans sub, fun a o ha => by
        rcases new a o ha with z | z | z
        · exact st.new a o z
        · exact .inr (.inl z)
        · exact .inr (.inr (st.ownS z)), fun i o ho => by
        obtain ⟨u, eu⟩ := own i o ho
        exact st.own i u eu⟩
      refine h _ H'' F2 (g2.rel q2) (st2.trans g2.step) ?_
      obtain ⟨okw, exw⟩ := t
      cases okw with
      | none => exact rd
      | some s => exact rfl
  | exc x δ1 =>
    rw [e] at h
    intro H' F' c dx q' st xr
    refine hE c dx H' ?_
    have h : Post L.R A W (RlE L.R A) σ H1 F δ (match t.told.exv x with
        | some d => .ok (.val d) δ1
        | none => .stuck) Q := h
    obtain ⟨cl, fs⟩ := x
    cases fs with
    | cons a b => exact h.elim
    | nil =>
      obtain ⟨ec, ed⟩ := xr
      have h : Post L.R A W (RlE L.R A) σ H1 F δ (match (t.exw cl).map Dp.TW.d with
        | some d => .ok (.val d) δ1
        | none => .stuck) Q := h
      cases e2 : t.exw cl with
      | none => rw [e2] at h; exact h.elim
      | some s =>
        rw [e2] at h
        refine ⟨ed, cl, s, ec, e2, fun H'' eX => ?_⟩
        have g2 := grow_ext (F := F') q'.tab eX
        cases s <;> exact h _ H'' F' (g2.rel q') (st.trans g2.step) rfl
/-- what is known of a told def: where it stands, what it makes of a call -/
structure TldAt (X : Cx) (R : RC) (x : Str) (t : Tld) : Prop where
  ex : ∃ (g : Addr) (pg : Arguments) (bg : List Stmt) (sg : Scope) (dV kV doc pm cdv ct oc : Value) (an od : Option Addr) (osl : Array (Option Value)) (Ng : List Str) (a : Str),
    X.mg x = some (.ref g) ∧ PySem.W.keepIn X.K (.ref g) = true ∧ X.K.lookup g = some ⟨oc, od, .func (PySem.W.fnOf x x pg bg sg dV kV doc pm an cdv ct), osl⟩ ∧ PySem.W.codeIn X.K cdv x = true ∧
      L2.Binds X.K (PySem.W.fnOf x x pg bg sg dV kV doc pm an cdv ct) [a] [] ∧ FnScope Ng [a] sg ∧ Ng[0]? = some a ∧ Vis sg a ∧ (a == ("__debug__" : Str)) = false ∧ (a == ("__classdict__" : Str)) = false ∧
      LamX.GivesTo X Ng x sg g cdv bg a (X.env.qual ++ "<lambda>") (TTw R t)
theorem told_ok {c P : Addr} {k : Nat} {tl : Nat → Tld} (xo : XOk0 L G N sc true A W X) (gl : GlobsOk X.mg L G) (fn : FnsAt X.prog X.w X.mg X.base L G.fn k) (hr : Room (k + 3) X.A)
    (TB : LamX.TabB X.base X.mg c P) (hcode : X.env.code = .ref c) (hm : (P, X.env.qual ++ "<lambda>") ∈ L.T) (hu : ∀ p ∈ L.T, p.1 = P → p.2 = X.env.qual ++ "<lambda>")
    (at_ : ∀ f x, L.tnm f = some x → G.told f = some (tl f).told ∧ TldAt X L.R x (tl f)) : ToldOk L G N sc A W X := by
  intro f x hx hg hk params body scope lpos p pos fb hl hbody
  obtain ⟨ht, T⟩ := at_ f x hx
  obtain ⟨g, pg, bg, sg, dV, kV, doc, pm, cdv, ct, oc, an, od, osl, Ng, a, m1, m2, m3, m4, m5, m6, m7, m8, m9, m10, m11⟩ := T.ex
  obtain ⟨xs, hps, S⟩ := DpL.lmS_by hl
  refine (DpL.pe_lamcall3 (T := L.T) (TT := TTw L.R (tl f)) (t := fun E => tE L.R A (fun c d _ H' => E c d H') (Dp.ev G fb)) (k := k + 1) (gl_of (by rw [xo.sc]; exact hg)) m1 m2 m3 m4 m5 m6 m7 m8 m11 TB hcode hm hu hr (xs := xs) (by rw [xo.N, xo.sc]; exact S) hps
    (fun A' outer s H E f' c' hr' => hbody A _ _ (xo0_of (k := k) xo.K xo.N rfl (by rw [← xo.N]; exact xo.nd) rfl hr' (takes_of rfl rfl rfl rfl) xo.T gl fn)) (okName_of hk).1 m9 m10).imp fun σ H Q h => tld_imp ht xo.T h
end
end DpS
end

section
set_option Elab.async false
set_option linter.all false
set_option maxRecDepth 100000
set_option maxHeartbeats 4000000
set_option autoImplicit false
/-! DpB25: the defs by levels. -/
namespace DpS
open PySem PySem.Spec L2
/-- what is known of the defs: object, scope, term, check; of those with lambdas the table -/
def FnE (mg : Str → Option Value) (base : Heap) (L : LX) (PR : Dp.Prog) (f : Nat) : Prop :=
  ∃ (x z : Str) (N ps : List Str) (params : Arguments) (body : List Stmt) (scope : Scope) (fd : FuncData) (DF : Dp.FDef), FunD L.R.K z x params body scope [] [] (L.R.fa f) fd ∧ FnScope N ps scope ∧ PR.defs[f]? = some DF ∧
    N.length = DF.ns ∧ ps.length = DF.np ∧ ps.length = L.fnp f ∧ Binds L.R.K fd ps [] ∧
    (chkSs L.bare N scope DF.body body = true ∨ (chkSs L N scope DF.body body = true ∧ ∃ c P', fd.code = .ref c ∧ LamX.TabB base mg c P' ∧ (P', x ++ ".<locals>." ++ "<lambda>") ∈ L.T ∧ ∀ p ∈ L.T, p.1 = P' → p.2 = x ++ ".<locals>." ++ "<lambda>"))
def FnI (mg : Str → Option Value) (base : Heap) (L : LX) (PR : Dp.Prog) : Prop := ∀ f, L.dfn f = true → FnE mg base L PR f
/-- .. of the exceptions -/
def XcI (P : Program) (w : World) (mg : Str → Option Value) (base : Heap) (L : LX) (PR : Dp.Prog) : Prop :=
  ∀ c x, L.xnm c = some x → PR.excF.lookup c = some [] ∧ ∃ fI fd ps, XCls L.R.K mg x (L.R.ca c) fI ∧ FnOk P w L.R.K mg base (L2.CX P w) 1 fI fd ps (spX0 L.R.K) ∧ Binds L.R.K fd ps []
/-- .. of those raised with one argument -/
def XaI (P : Program) (w : World) (mg : Str → Option Value) (base : Heap) (L : LX) (PR : Dp.Prog) : Prop :=
  ∀ c x, L.xam c = some x → ∃ q fl, PR.excF.lookup c = some [q] ∧ ∃ fI fd ps, XCls L.R.K mg x (L.R.ca c) fI ∧ PySem.W.findIn L.R.K (.ref (L.R.ca c)) fl = some none ∧ FnOk P w L.R.K mg base (L2.CX P w) 2 fI fd ps (spXF L.R.K fl) ∧ Binds L.R.K fd ps []
def TdI (P : Program) (w : World) (mg : Str → Option Value) (base : Heap) (L : LX) (PR : Dp.Prog) (tl : Nat → Tld) : Prop :=
  ∀ f x, L.tnm f = some x → PR.told.lookup f = some (tl f).told ∧ ∀ X : Cx, X.prog = P → X.w = w → X.K = L.R.K → X.mg = mg → X.base = base → TldAt X L.R x (tl f)
section
variable {P : Program} {w : World} {mg : Str → Option Value} {base : Heap} {L : LX} {PR : Dp.Prog} {tl : Nat → Tld}
theorem fns_zero : FnI mg base L PR → FnsAt P w mg base L (Dp.sem PR 0) 2 := fun I f h => by
  obtain ⟨x, z, N, ps, params, body, scope, fd, DF, F, S, _, _, _, e, b, _⟩ := I f h
  refine ⟨fd, ps, e, ⟨fun vs H Q E h => h.1, fun A outer s H args us vs Q E _ _ _ _ h => ?_⟩, b⟩
  obtain ⟨_, _, _, _, _, ⟨_, _, z⟩ | ⟨_, _, _, _, _, _, _, _, z⟩⟩ := h
  · exact z.elim
  · exact z.elim
theorem fn_step {n k f : Nat} {x z : Str} {N ps : List Str} {params : Arguments} {body : List Stmt} {scope : Scope} {fd : FuncData} {DF : Dp.FDef} (F : FunD L.R.K z x params body scope [] [] (L.R.fa f) fd) (S : FnScope N ps scope) (hd : PR.defs[f]? = some DF) (hN : N.length = DF.ns) (hps : ps.length = DF.np)
    (chk : chkSs L.bare N scope DF.body body = true ∨ (chkSs L N scope DF.body body = true ∧ ∃ c P', fd.code = .ref c ∧ LamX.TabB base mg c P' ∧ (P', x ++ ".<locals>." ++ "<lambda>") ∈ L.T ∧ ∀ p ∈ L.T, p.1 = P' → p.2 = x ++ ".<locals>." ++ "<lambda>"))
    (xc : XcI P w mg base L PR) (xa : XaI P w mg base L PR) (td : TdI P w mg base L PR tl) (gl : GlobsOk mg L (PR.gam (Dp.sem PR n))) (hk : 2 ≤ k) (ih : FnsAt P w mg base L (Dp.sem PR n) k) : FnOk P w L.R.K mg base (L2.CX P w) (k + 4) (L.R.fa f) fd ps (spD L.R L.T (Dp.sem PR (n + 1) f) ps.length) := by
  have es : Dp.sem PR (n + 1) f = Dp.runDef (PR.gam (Dp.sem PR n)) DF := by
    funext mm ds
    show (match PR.defs[f]? with | some fd => Dp.runDef (PR.gam (Dp.sem PR n)) fd mm ds | none => .stuck) = _
    rw [hd]
  rw [es]
  have base0 : ∀ (cdv : Value) (A : Around) (outer : List Env) (s : Shared) (H : Hp) (E : XK) (Ac : Act), Room (k + 3) (A.deeper (PyProof.Rows.envOfC x scope s.heap.objs.size (L.R.fa f) cdv)) → Ac.T = L.T →
      XOk0 L (PR.gam (Dp.sem PR n)) N scope true Ac (fun c d _ H' => E c d H') (cxOf (L2.CX P w) P w L.R.K mg base N x scope (L.R.fa f) cdv A outer s H E) := fun cdv A outer s H E Ac hr hT =>
    xo0_of (k := k) rfl rfl rfl S.nd rfl (hr.mono (by omega)) (takes_of rfl rfl rfl rfl) hT gl ih
  have rais : ∀ (LL : LX) (cdv : Value) (A : Around) (outer : List Env) (s : Shared) (H : Hp) (E : XK) (Ac : Act), Room (k + 3) (A.deeper (PyProof.Rows.envOfC x scope s.heap.objs.size (L.R.fa f) cdv)) → LL.R = L.R → LL.xnm = L.xnm →
      XOk LL (PR.gam (Dp.sem PR n)) N scope true Ac (fun c d _ H' => E c d H') (cxOf (L2.CX P w) P w L.R.K mg base N x scope (L.R.fa f) cdv A outer s H E) →
      RaisOk LL (PR.gam (Dp.sem PR n)) N scope Ac (fun c d _ H' => E c d H') (cxOf (L2.CX P w) P w L.R.K mg base N x scope (L.R.fa f) cdv A outer s H E) := fun LL cdv A outer s H E Ac hr e1 e2 xo c y hy p1 p2 p3 hg hok => by
    rw [e2] at hy
    obtain ⟨hf, fI, fd', ps', T, F1, b1⟩ := xc c y hy
    exact rais_ok (fI := fI) (k := 1) xo (by rw [e1]; exact T) F1 (hr.mono (by omega)) b1 hg hok hf
  have raisA : ∀ (LL : LX) (cdv : Value) (A : Around) (outer : List Env) (s : Shared) (H : Hp) (E : XK) (Ac : Act), Room (k + 3) (A.deeper (PyProof.Rows.envOfC x scope s.heap.objs.size (L.R.fa f) cdv)) → LL.R = L.R → LL.xam = L.xam →
      XOk LL (PR.gam (Dp.sem PR n)) N scope true Ac (fun c d _ H' => E c d H') (cxOf (L2.CX P w) P w L.R.K mg base N x scope (L.R.fa f) cdv A outer s H E) →
      RaisAOk LL (PR.gam (Dp.sem PR n)) N scope Ac (fun c d _ H' => E c d H') (cxOf (L2.CX P w) P w L.R.K mg base N x scope (L.R.fa f) cdv A outer s H E) := fun LL cdv A outer s H E Ac hr e1 e2 xo c y hy p1 p2 p3 e fe hg hok hs ha => by
    rw [e2] at hy
    obtain ⟨q, fl, hf, fI, fd', ps', T, hno, F1, b1⟩ := xa c y hy
    exact raisA_ok (fI := fI) (k := 2) (fl := fl) (q := q) xo (by rw [e1]; exact T) (by rw [e1]; exact hno) F1 (hr.mono (by omega)) b1 hg hok hf hs ha
  have tkO : ∀ (cdv : Value) (A : Around) (outer : List Env) (s : Shared) (H : Hp) (E : XK), PassesOwn (model P w) (cxOf (L2.CX P w) P w L.R.K mg base N x scope (L.R.fa f) cdv A outer s H E).A (cxOf (L2.CX P w) P w L.R.K mg base N x scope (L.R.fa f) cdv A outer s H E).env (cxOf (L2.CX P w) P w L.R.K mg base N x scope (L.R.fa f) cdv A outer s H E).xe := fun cdv A outer s H E =>
    passes_of (X := cxOf (L2.CX P w) P w L.R.K mg base N x scope (L.R.fa f) cdv A outer s H E) (K := fun e s'' => L2.CX P w outer H s E e s'') rfl
  rcases chk with chk | ⟨chk, c, P', hc, TB, hm, hu⟩
  · exact fnD (L := L.bare) (G := PR.gam (Dp.sem PR n)) (k := k + 3) F S hN hps (chkSs_ok DF.body body chk) fun cdv A outer s H E Ac _ hr hT =>
      have xo := (base0 cdv A outer s H E Ac hr hT).bare
      ⟨xo, fun _ => rfl, tkO cdv A outer s H E, rais L.bare cdv A outer s H E Ac hr rfl rfl xo, raisA L.bare cdv A outer s H E Ac hr rfl rfl xo⟩
  · exact fnD (L := L) (G := PR.gam (Dp.sem PR n)) (k := k + 3) F S hN hps (chkSs_ok DF.body body chk) fun cdv A outer s H E Ac hcd hr hT =>
      have x0 := base0 cdv A outer s H E Ac hr hT
      have xo : XOk L (PR.gam (Dp.sem PR n)) N scope true Ac (fun c d _ H' => E c d H') (cxOf (L2.CX P w) P w L.R.K mg base N x scope (L.R.fa f) cdv A outer s H E) :=
        ⟨x0, fun _ N' sc' W' X' sb x1 => told_ok (c := c) (P := P') (k := k) (tl := tl) x1 (by rw [sb.mg]; exact gl) (by rw [sb.prog, sb.w, sb.mg, sb.base]; exact ih) (by rw [sb.A]; exact hr) (by rw [sb.mg, sb.base]; exact TB) (by rw [sb.code, ← hc, hcd]; rfl) (by rw [sb.qual]; exact hm) (by rw [sb.qual]; exact hu) fun g y hy => ⟨(td g y hy).1, (td g y hy).2 _ sb.prog sb.w sb.K sb.mg sb.base⟩⟩
      ⟨xo, fun _ => rfl, tkO cdv A outer s H E, rais L cdv A outer s H E Ac hr rfl rfl xo, raisA L cdv A outer s H E Ac hr rfl rfl xo⟩
theorem fns_succ {n k : Nat} (I : FnI mg base L PR) (xc : XcI P w mg base L PR) (xa : XaI P w mg base L PR) (td : TdI P w mg base L PR tl) (gl : GlobsOk mg L (PR.gam (Dp.sem PR n))) (hk : 2 ≤ k) (ih : FnsAt P w mg base L (Dp.sem PR n) k) : FnsAt P w mg base L (Dp.sem PR (n + 1)) (k + 4) := fun f h => by
  obtain ⟨x, z, N, ps, params, body, scope, fd, DF, F, S, hd, hN, hps, e, b, chk⟩ := I f h
  exact ⟨fd, ps, e, fn_step F S hd hN hps chk xc xa td gl hk ih, b⟩
theorem fns_all (I : FnI mg base L PR) (xc : XcI P w mg base L PR) (xa : XaI P w mg base L PR) (td : TdI P w mg base L PR tl) (gl : GlobsOk mg L (PR.gam (Dp.sem PR 0))) : ∀ n, FnsAt P w mg base L (Dp.sem PR n) (4 * n + 2)
  | 0 => fns_zero I
  | n + 1 => by
    have := fns_succ (n := n) (k := 4 * n + 2) I xc xa td ⟨gl.free, gl.glob, gl.fnm, gl.inj, gl.insts, gl.cnm⟩ (by omega) (fns_all I xc xa td gl n)
    rw [show 4 * n + 2 + 4 = 4 * (n + 1) + 2 by omega] at this
    exact this
/-- all but the tables -/
def noTb (H : Hp) : Hp := fun b => match H b with
  | some (.tbl _) => none
  | o => o
theorem noTb_of {H : Hp} {b : Addr} {o : HO} (h : noTb H b = some o) : H b = some o ∧ ¬ Tb o := by
  unfold noTb at h
  cases z : H b with
  | none => rw [z] at h; cases h
  | some u =>
    rw [z] at h
    cases u <;> first | (cases h; exact ⟨rfl, fun ⟨_, e⟩ => nomatch e⟩) | cases h
theorem noTb_to {H : Hp} {b : Addr} {o : HO} (h : H b = some o) (n : ¬ Tb o) : noTb H b = some o := by
  unfold noTb
  rw [h]
  cases o <;> first | rfl | exact absurd ⟨_, rfl⟩ n
/-- a law's def: the script in, true out -/
theorem law_sp {n f : Nat} {H : Hp} {a : Addr} {ns : List Int} (hT : ∀ p ∈ L.T, H p.1 = some (.tbl #[])) (hS : SqL L.R.K H a (ns.map V.int)) (h : Dp.sem PR n f none [.scr ns] = .ok (.val (.bl true)) none) :
    spD L.R L.T (Dp.sem PR n f) 1 [.ref a] H (fun v _ => v = .bl true) fun _ _ _ => False := by
  refine ⟨rfl, noTb H, fun b o e => (noTb_of e).1, fun b o e => (noTb_of e).2, fun p hp => LamX.TabS.nil (hT p hp), .inl ⟨[.scr ns], ⟨.ref a, [], rfl, ⟨a, rfl, ?_⟩, rfl⟩, ?_⟩⟩
  · rcases hS with (z | ⟨o, z⟩) | z
    · exact .inl (.inl (noTb_to z fun ⟨_, e⟩ => nomatch e))
    · exact .inl (.inr ⟨o, noTb_to z fun ⟨_, e⟩ => nomatch e⟩)
    · exact .inr z
  · rw [h]
    exact fun v H' F' _ rr => rr
end
end DpS
end

section
set_option Elab.async false
set_option linter.all false
set_option maxRecDepth 100000
set_option maxHeartbeats 4000000
set_option autoImplicit false
/-! DpB26: the law's own def that calls what it gets and tells the class of an exception by flags and words. -/
namespace DpS
open PySem PySem.Spec L2

/-- count of flat values in a list -/
def rCntF (K : PySem.W.Frag) : V → List V → Hp → VK → Prop := fun x xs H Q => ∃ (p : Addr) (ys : List V) (y : V), x = .ref p ∧ xs = [y] ∧ SqL K H p ys ∧ flatV y = true ∧ ys.all flatV = true ∧ Q (.int (ys.countP (fun z => eqV z y) : Nat)) H
theorem cnt_eqU {y : V} : ∀ {ys : List V} {us : List Value}, Vals ys us → ys.all flatV = true → us.countP (eqU y) = ys.countP fun z => eqV z y
  | _, _, .nil, _ => rfl
  | _, _, .cons r t, f => by
    rw [List.all_cons, Bool.and_eq_true] at f
    rw [List.countP_cons, List.countP_cons, cnt_eqU t f.2, eqU_of r f.1]
theorem mt_lcountF {X : Cx} : MtR X "list.count" (rCntF X.K) := by
  intro pins s σ H x xs v us Q I rx rxs h
  obtain ⟨p, ys, y, rfl, rfl, hs, fy, fys, q⟩ := h
  cases rx
  obtain ⟨u, rfl, ru⟩ := rxs.one
  obtain ⟨its, rv, ⟨⟨cls, dd, data, sl⟩, n, ho, hc, hdn, hd⟩, hlen⟩ := I.list hs
  simp only at hc hd
  subst hc hd
  refine PySem.call_meets PySem.F.slot_list_count ⟨_, ho, rfl⟩ PySem.F.entry_list_count (PySem.F.args_list_count_2 _ _)
    (SeqAt.list_countAt p its.toArray n dd sl u (eqU y)) ⟨ho, fun z hz => mem_eqAt ru fy rv fys z (by simpa using hz), ?_⟩
  have ec : its.toArray.toList.countP (eqU y) = ys.countP fun z => eqV z y := cnt_eqU rv fys
  refine ⟨.int (ys.countP (fun z => eqV z y) : Nat), H, I.tok _, ⟨s.toks, ?_⟩, q⟩
  show Value.int ((its.toArray.toList.countP (eqU y) : Nat) : Int) s.toks = _
  rw [ec]
/-- what is wished may lean on the slots' number -/
theorem takes_len {X : Cx} {W : WX} (t : Takes X W) : Takes X (fun c d σ H => σ.length = X.N.length → W c d σ H) := fun u s' ⟨a, B, sI, pins, σ, H, cls, d, e, I, nb, up, sky, na, os, ag, w⟩ =>
  t u s' ⟨a, B, sI, pins, σ, H, cls, d, e, I, nb, up, sky, na, os, ag, w I.len⟩

/-! ### the parts of the text -/
def unTry : Stmt → Option (List Stmt × Expr × Str × List Stmt)
  | .Try body [.ExceptHandler (some c) (some n) suite _] [] [] _ => some (body, c, n, suite)
  | _ => none
theorem unTry_ok {s : Stmt} {b : List Stmt} {c : Expr} {n : Str} {su : List Stmt} (h : unTry s = some (b, c, n, su)) : ∃ p1 p2, s = .Try b [.ExceptHandler (some c) (some n) su p1] [] [] p2 := by
  unfold unTry at h
  split at h
  · cases h; exact ⟨_, _, rfl⟩
  · cases h
/-- x = e -/
def asgB (x : Str) (k : Expr → Bool) (s : Stmt) : Bool := match unAsg s with
  | some (t, e) => decide (unName t = some x) && !isComp e && k e
  | none => false
theorem asgB_ok {x : Str} {k : Expr → Bool} {s : Stmt} (h : asgB x k s = true) : ∃ e p1 p2, s = .Assign [.Name x p1] e p2 ∧ isComp e = false ∧ k e = true := by
  unfold asgB at h
  cases h0 : unAsg s with
  | none => rw [h0] at h; cases h
  | some w =>
    obtain ⟨t, e⟩ := w
    rw [h0] at h
    obtain ⟨h, h3⟩ := band h
    obtain ⟨h1, h2⟩ := band h
    obtain ⟨p1, rfl⟩ := unName_ok (dec h1)
    obtain ⟨p2, rfl⟩ := unAsg_ok h0
    exact ⟨e, p1, p2, rfl, bnot h2, h3⟩
/-- isinstance(e, c) for each class -/
def flagsB (en : Str) : List Str → List Expr → Bool
  | [], [] => true
  | c :: cs, e :: es => (match unCallN e with
    | some (y, [a, b]) => decide (y = "isinstance") && decide (unName a = some en) && decide (unName b = some c) && okName c
    | _ => false) && flagsB en cs es
  | _, _ => false
def wordsB : List (List Nat) → List Expr → Bool
  | [], [] => true
  | w :: ws, e :: es => (match unConst e with
    | some (.str z) => decide (z = ⟨w.toArray⟩)
    | _ => false) && wordsB ws es
  | _, _ => false
/-- x.m(True) -/
def methTB (x m : Str) (e : Expr) : Bool := match unMeth e with
  | some (o, n, b) => decide (unName o = some x) && decide (n = m) && decide (unConst b = some (.bool true))
  | none => false
theorem methTB_ok {x m : Str} {e : Expr} (h : methTB x m e = true) : ∃ p1 k p2 ap p, e = .Call (.Attribute (.Name x p1) m ap) [.Constant (.bool true) k p2] [] p ∧ (ap.endLine == p.line) = true := by
  unfold methTB at h
  cases h0 : unMeth e with
  | none => rw [h0] at h; cases h
  | some w =>
    obtain ⟨o, n, b⟩ := w
    rw [h0] at h
    obtain ⟨h, h3⟩ := band h
    obtain ⟨h1, h2⟩ := band h
    have := dec h2
    subst this
    obtain ⟨p1, rfl⟩ := unName_ok (dec h1)
    obtain ⟨k, p2, rfl⟩ := unConst_ok (dec h3)
    obtain ⟨ap, p, e1, e2, _, _⟩ := unMeth_ok h0
    exact ⟨p1, k, p2, ap, p, e1, e2⟩

section
variable {X : Cx} {a D : Addr} {oe : Obj} {pn : List (Addr × Obj)} {en : Str} {d : Option Addr}
/-- isinstance(e, c), e the exception that the suite holds, with a dict or without -/
def rIsED (K : PySem.W.Frag) (D a : Addr) (d : Option Addr) : List V → Hp → VK → Prop := fun xs H Q => ∃ (c : V) (cv : Value) (b : Bool), xs = [.ref a, c] ∧ (∀ u, RelV c u → u = cv) ∧ PySem.W.kitOne K (.ref D) cv = some b ∧ XD d H ∧ Q (.bl b) H
theorem call_isED (C : ExcC X.K D) (hz : Zc (.ref D) d oe) (hf : ∃ vs, oe.data = .fields vs) : CallR (X.suite a ((a, oe) :: pn)) (.builtin "isinstance") (rIsED X.K D a d) := by
  intro pins s σ H xs us Q I r h
  obtain ⟨c, cv, b, rfl, hcv, e, xd, q⟩ := h
  cases r with
  | cons rx rr =>
    cases rr with
    | cons rt rr =>
      cases rr
      cases rx
      have ec := hcv _ rt
      subst ec
      obtain ⟨hget, _⟩ := I.pin (a, oe) (List.mem_append.mpr (.inl List.mem_cons_self))
      obtain ⟨vs, hv⟩ := hf
      have J : ∃ od, PySem.W.InstAt s.heap a oe D od := by
        obtain ⟨oc, od, oda, osl⟩ := oe
        obtain ⟨h1, h2⟩ := hz
        dsimp only at h1 h2 hv
        subst h1 h2 hv
        cases od with
        | none => exact ⟨none, hget, rfl, rfl, trivial⟩
        | some dd =>
          obtain ⟨fs, hd⟩ := xd dd rfl
          obtain ⟨mA, hns, _⟩ := (show ObjOk X.prog X.w H s.heap dd (.xd fs) from I.hok dd _ hd)
          obtain ⟨o, _, _, ho, _⟩ := hns
          exact ⟨some o, hget, rfl, rfl, ho⟩
      obtain ⟨od, J⟩ := J
      have hcl : (PySem.W.clsIn X.K D).isSome = true := by
        obtain ⟨cd, hc, _⟩ := PySem.W.any_some C.hd
        rw [hc]; rfl
      exact PySem.W.kia_one (PySem.W.kitx_exc hcl C.hg C.hk C.hs C.ha C.hn C.ht C.hm) I.kIn J e (fun z => nomatch z) fun tk => ⟨.bl b, H, I.kept (t' := tk) fun _ _ z => z, rfl, q⟩
/-- the flags: each class, whether the exception is of it -/
theorem pa_flags (C : ExcC X.K D) (hz : Zc (.ref D) d oe) (hf : ∃ vs, oe.data = .fields vs) (hen : PE (X.suite a ((a, oe) :: pn)) (.Name en ⟨0, 0, 0, 0⟩) (tVar 2) → True) (hN : X.N[2]? = some en) (hv : Vis X.env.scope en) (hd : (en == ("__debug__" : Str)) = false) (hcd : (en == ("__classdict__" : Str)) = false)
    (hi : Gl X "isinstance") (hmi : X.mg "isinstance" = none) : ∀ (cs : List (Str × Addr × Bool)) (es : List Expr), (∀ c ∈ cs, Gl X c.1 ∧ X.mg c.1 = some (.ref c.2.1) ∧ PySem.W.kitOne X.K (.ref D) (.ref c.2.1) = some c.2.2) → flagsB en (cs.map (·.1)) es = true →
      PA (X.suite a ((a, oe) :: pn)) es (fun σ H Q => σ[2]? = some (some (.ref a)) ∧ XD d H ∧ Q (cs.map fun c => .bl c.2.2) H)
  | [], [], _, _ => ⟨fun pos pins s σ H Q I h => pa_nil.run pos pins s σ H Q I h.2.2⟩
  | [], _ :: _, _, h => by cases h
  | _ :: _, [], _, h => by cases h
  | c :: cs, e :: es, hc, h => by
    obtain ⟨h1, h2⟩ := band h
    cases h0 : unCallN e with
    | none => rw [h0] at h1; cases h1
    | some w =>
      obtain ⟨y, as⟩ := w
      rw [h0] at h1
      obtain ⟨p1, p, rfl⟩ := unCallN_ok h0
      match as, h1 with
      | [u, v], h1 =>
        obtain ⟨h1, g4⟩ := band h1
        obtain ⟨h1, g3⟩ := band h1
        obtain ⟨g1, g2⟩ := band h1
        have := dec g1
        subst this
        obtain ⟨q1, rfl⟩ := unName_ok (dec g2)
        obtain ⟨q2, rfl⟩ := unName_ok (dec g3)
        obtain ⟨k1, k2, k3⟩ := hc c (List.mem_cons_self ..)
        have he : PE (X.suite a ((a, oe) :: pn)) (.Name en q1) (tVar 2) := pe_var (i := 2) hN hv hd hcd
        have hg : PE (X.suite a ((a, oe) :: pn)) (.Name c.1 q2) (tC (.ref c.2.1)) := pe_glob k1 k2 rfl (okName_of g4).1
        have one := pe_callB (p := p1) (pos := p) (call_isED C hz hf) hi hmi (by decide +kernel) (pa_cons he (pa_cons hg pa_nil)) (by decide) (by decide)
        have rest := pa_flags C hz hf (fun _ => trivial) hN hv hd hcd hi hmi cs es (fun x hx => hc x (List.mem_cons_of_mem _ hx)) h2
        refine (pa_cons one rest).imp fun σ H Q ⟨hs, xd, q⟩ => ?_
        exact ⟨.ref a, hs, .ref c.2.1, .ref c.2.1, c.2.2, rfl, fun u r => r, k3, xd, hs, xd, q⟩
      | [], h1 => cases h1
      | [_], h1 => cases h1
      | _ :: _ :: _ :: _, h1 => cases h1
theorem pa_words {Y : Cx} : ∀ (ws : List (List Nat)) (es : List Expr), wordsB ws es = true → PA Y es (fun σ H Q => Q (ws.map fun w => .str ⟨w.toArray⟩) H)
  | [], [], _ => pa_nil
  | [], _ :: _, h => by cases h
  | _ :: _, [], h => by cases h
  | w :: ws, e :: es, h => by
    obtain ⟨h1, h2⟩ := band h
    cases h0 : unConst e with
    | none => rw [h0] at h1; cases h1
    | some c =>
      rw [h0] at h1
      obtain ⟨k, p, rfl⟩ := unConst_ok h0
      cases c with
      | str z =>
        have e1 : z = ⟨w.toArray⟩ := dec h1
        subst e1
        exact (pa_cons pe_str (pa_words ws es h2)).imp fun σ H Q q => q
      | _ => cases h1
end
/-! ### the def -/
/-- the test: one flag alone is set, the exception is a ValueError -/
def testB (en fl : Str) (t : Expr) : Bool := match unBool t with
  | some (.And, [u, v], _) => (match unCmp u with
    | some (l, [.Eq], [r]) => methTB fl "count" l && decide (unConst r = some (.int 1))
    | _ => false) && (match unCallN v with
    | some (y, [o, k]) => decide (y = "isinstance") && decide (unName o = some en) && decide (unName k = some "ValueError")
    | _ => false)
  | _ => false
def pickB (fl na : Str) (e : Expr) : Bool := match unSub e with
  | some (o, i) => decide (unName o = some na) && methTB fl "index" i
  | none => false
def ifB (fo en fl na : Str) (s : Stmt) : Bool := match unIf s with
  | some (t, [y], []) => testB en fl t && asgB fo (pickB fl na) y
  | _ => false
def lstB (k : List Expr → Bool) (e : Expr) : Bool := match unLst e with
  | some es => k es
  | none => false
def suiteB (fo en fl na : Str) (cs : List Str) (ws : List (List Nat)) : List Stmt → Bool
  | [f1, f2, f3] => asgB fl (lstB (flagsB en cs)) f1 && asgB na (lstB (wordsB ws)) f2 && ifB fo en fl na f3
  | _ => false
theorem testB_ok {en fl : Str} {t : Expr} (h : testB en fl t = true) : ∃ l k p1 p2 p3 p4 p5 p6 p, t = .BoolOp .And [.Compare l [.Eq] [.Constant (.int 1) k p1] p2, .Call (.Name "isinstance" p3) [.Name en p4, .Name "ValueError" p5] [] p6] p ∧ methTB fl "count" l = true := by
  unfold testB at h
  split at h
  · rename_i u v p h0
    obtain ⟨h1, h2⟩ := band h
    split at h1
    · rename_i l r hc
      obtain ⟨g1, g2⟩ := band h1
      obtain ⟨k, p1, rfl⟩ := unConst_ok (dec g2)
      obtain ⟨p2, rfl⟩ := unCmp_ok hc
      split at h2
      · rename_i y o z hv
        obtain ⟨h2, g5⟩ := band h2
        obtain ⟨g3, g4⟩ := band h2
        have := dec g3
        subst this
        obtain ⟨p4, rfl⟩ := unName_ok (dec g4)
        obtain ⟨p5, rfl⟩ := unName_ok (dec g5)
        obtain ⟨p3, p6, rfl⟩ := unCallN_ok hv
        exact ⟨l, k, p1, p2, p3, p4, p5, p6, p, unBool_ok h0, g1⟩
      · cases h2
    · cases h1
  · cases h
theorem lstB_ok {k : List Expr → Bool} {e : Expr} (h : lstB k e = true) : ∃ es p, e = .List es p ∧ k es = true := by
  unfold lstB at h
  split at h
  · rename_i es h0
    obtain ⟨p, rfl⟩ := unLst_ok h0
    exact ⟨es, p, rfl, h⟩
  · cases h
theorem pickB_ok {fl na : Str} {e : Expr} (h : pickB fl na e = true) : ∃ p1 i p, e = .Subscript (.Name na p1) i p ∧ methTB fl "index" i = true := by
  unfold pickB at h
  split at h
  · rename_i o i h0
    obtain ⟨g1, g2⟩ := band h
    obtain ⟨p1, rfl⟩ := unName_ok (dec g1)
    obtain ⟨p, rfl⟩ := unSub_ok h0
    exact ⟨p1, i, p, rfl, g2⟩
  · cases h
theorem ifB_ok {fo en fl na : Str} {s : Stmt} (h : ifB fo en fl na s = true) : ∃ t y p, s = .If t [y] [] p ∧ testB en fl t = true ∧ asgB fo (pickB fl na) y = true := by
  unfold ifB at h
  split at h
  · rename_i t y h0
    obtain ⟨g1, g2⟩ := band h
    obtain ⟨p, rfl⟩ := unIf_ok h0
    exact ⟨t, y, p, rfl, g1, g2⟩
  · cases h
/-- one flag alone is set, at p -/
def soleB (bs : List Bool) (p : Nat) : Bool := decide (bs.countP (fun b => b == true) = 1) && decide (bs[p]? = some true)
theorem sole_cnt {bs : List Bool} : (bs.map V.bl).countP (fun z => eqV z (.bl true)) = bs.countP fun b => b == true := by
  rw [List.countP_map]; rfl
theorem flat_bl (bs : List Bool) : (bs.map V.bl).all flatV = true := by
  rw [List.all_map, List.all_eq_true]
  intro b _; rfl
theorem sole_first : ∀ {bs : List Bool} {p : Nat}, bs.countP (fun b => b == true) = 1 → bs[p]? = some true → ∀ m, m < p → bs[m]? = some true → False
  | [], p, _, h, _, _, _ => by cases h
  | b :: bs, 0, _, _, m, hm, _ => absurd hm (Nat.not_lt_zero m)
  | b :: bs, p + 1, hc, h, 0, _, h2 => by
    have e : b = true := Option.some.inj h2
    subst e
    rw [List.countP_cons] at hc
    have : 0 < bs.countP fun b => b == true := List.countP_pos_iff.mpr ⟨true, List.mem_of_getElem? (show bs[p]? = some true from h), rfl⟩
    rw [if_pos (show (true == true) = true from rfl)] at hc
    omega
  | b :: bs, p + 1, hc, h, m + 1, hm, h2 => by
    rw [List.countP_cons] at hc
    have : 0 < bs.countP fun b => b == true := List.countP_pos_iff.mpr ⟨true, List.mem_of_getElem? (show bs[p]? = some true from h), rfl⟩
    exact sole_first (bs := bs) (p := p) (by split at hc <;> omega) h m (Nat.lt_of_succ_lt_succ hm) h2
section
variable {X : Cx} {a D : Addr} {oe : Obj} {pn : List (Addr × Obj)} {fo en fl na : Str} {d : Option Addr}
/-- the suite: the word behind the flag -/
theorem suite_word {cs : List (Str × Addr × Bool)} {ws : List (List Nat)} {w : List Nat} {p : Nat} {body : List Stmt} (C : ExcC X.K D) (hz : Zc (.ref D) d oe) (hf : ∃ vs, oe.data = .fields vs) (nd : X.N.Nodup)
    (n1 : X.N[1]? = some fo) (n2 : X.N[2]? = some en) (n3 : X.N[3]? = some fl) (n4 : X.N[4]? = some na) (l1 : X.env.scope.names.lookup fo = some .local) (l2 : X.env.scope.names.lookup en = some .local) (l3 : X.env.scope.names.lookup fl = some .local) (l4 : X.env.scope.names.lookup na = some .local)
    (o2 : okName en = true) (o3 : okName fl = true) (o4 : okName na = true)
    (hi : Gl X "isinstance") (hmi : X.mg "isinstance" = none) (hv : Gl X "ValueError") (hmv : X.mg "ValueError" = none) (hkv : PySem.W.kitOne X.K (.ref D) (.type "ValueError") = some true)
    (hc : ∀ c ∈ cs, Gl X c.1 ∧ X.mg c.1 = some (.ref c.2.1) ∧ PySem.W.kitOne X.K (.ref D) (.ref c.2.1) = some c.2.2) (hs : soleB (cs.map fun c => c.2.2) p = true) (hw : ws[p]? = some w) (hcl : cs.length ≤ 1000) (hwl : ws.length ≤ 1000)
    (hb : suiteB fo en fl na (cs.map (·.1)) ws body = true) :
    PSs (X.suite a ((a, oe) :: pn)) body (fun E σ H => σ.length = 5 ∧ σ[2]? = some (some (.ref a)) ∧ XD d H ∧ ∀ H'' σ'', (∀ b o, H b = some o → H'' b = some o) → σ''.length = 5 → σ''[1]? = some (some (.str ⟨w.toArray⟩)) → E.nx σ'' H'') := by
  match body, hb with
  | [f1, f2, f3], hb =>
    obtain ⟨hb, b3⟩ := band hb
    obtain ⟨b1, b2⟩ := band hb
    obtain ⟨e1, p1, q1, rfl, c1, d1⟩ := asgB_ok b1
    obtain ⟨e2, p2, q2, rfl, c2, d2⟩ := asgB_ok b2
    obtain ⟨es1, r1, rfl, fl1⟩ := lstB_ok d1
    obtain ⟨es2, r2, rfl, fl2⟩ := lstB_ok d2
    obtain ⟨t, y, q3, rfl, bt, by_⟩ := ifB_ok b3
    obtain ⟨lc, k, u1, u2, u3, u4, u5, u6, u7, rfl, bc⟩ := testB_ok bt
    obtain ⟨e3, p3, q4, rfl, c3, by2⟩ := asgB_ok by_
    obtain ⟨v1, ix, v2, rfl, bi⟩ := pickB_ok by2
    obtain ⟨x1, x2, x3, x4, x5, rfl, xl⟩ := methTB_ok bc
    obtain ⟨z1, z2, z3, z4, z5, rfl, zl⟩ := methTB_ok bi
    have vis : ∀ {x : Str}, X.env.scope.names.lookup x = some .local → Vis X.env.scope x := fun h => .inl h
    have pFl := pa_flags (a := a) (pn := pn) C hz hf (fun _ => trivial) n2 (vis l2) (okName_of o2).1 (okName_of o2).2 hi hmi cs es1 hc fl1
    have pWs := pa_words (Y := X.suite a ((a, oe) :: pn)) ws es2 fl2
    have s1 : PS (X.suite a ((a, oe) :: pn)) (.Assign [.Name fl p1] (.List es1 r1) q1) _ := ps_set (i := 3) nd n3 (.inl l3) (pe_lst pFl) (sw_plain c1 _ _ _) (.inr l3)
    have s2 : PS (X.suite a ((a, oe) :: pn)) (.Assign [.Name na p2] (.List es2 r2) q2) _ := ps_set (i := 4) nd n4 (.inl l4) (pe_lst pWs) (sw_plain c2 _ _ _) (.inr l4)
    have vFl : ∀ q : Pos, PE (X.suite a ((a, oe) :: pn)) (.Name fl q) (tVar 3) := fun q => pe_var (i := 3) n3 (vis l3) (okName_of o3).1 (okName_of o3).2
    have vNa : ∀ q : Pos, PE (X.suite a ((a, oe) :: pn)) (.Name na q) (tVar 4) := fun q => pe_var (i := 4) n4 (vis l4) (okName_of o4).1 (okName_of o4).2
    have vEn : ∀ q : Pos, PE (X.suite a ((a, oe) :: pn)) (.Name en q) (tVar 2) := fun q => pe_var (i := 2) n2 (vis l2) (okName_of o2).1 (okName_of o2).2
    have cnt : PE (X.suite a ((a, oe) :: pn)) (.Call (.Attribute (.Name fl x1) "count" x4) [.Constant (.bool true) x2 x3] [] x5) _ := pe_bm PySem.F.plainAttrs_list PySem.F.slot_list_count PySem.F.type_list_count mt_lcountF (vFl x1) (pa_cons pe_bl pa_nil) rfl rfl xl rfl rfl
    have idx : PE (X.suite a ((a, oe) :: pn)) (.Call (.Attribute (.Name fl z1) "index" z4) [.Constant (.bool true) z2 z3] [] z5) _ := pe_bm PySem.F.plainAttrs_list PySem.F.slot_list_index PySem.F.type_list_index mt_index (vFl z1) (pa_cons pe_bl pa_nil) rfl rfl zl rfl rfl
    have isV : PE (X.suite a ((a, oe) :: pn)) (.Call (.Name "isinstance" u3) [.Name en u4, .Name "ValueError" u5] [] u6) _ := pe_callB (call_isED C hz hf) hi hmi (by decide +kernel) (pa_cons (vEn u4) (pa_cons (pe_bltn (v := .ty "ValueError") hv hmv (by decide +kernel) rfl (by decide) (by decide)) pa_nil)) (by decide) (by decide)
    have test : PT (X.suite a ((a, oe) :: pn)) (.BoolOp .And [.Compare (.Call (.Attribute (.Name fl x1) "count" x4) [.Constant (.bool true) x2 x3] [] x5) [.Eq] [.Constant (.int 1) k u1] u2, .Call (.Name "isinstance" u3) [.Name en u4, .Name "ValueError" u5] [] u6] u7) _ :=
      (pw_and (pt_cmpR op_eq cnt pe_int (mark_no _ rfl)) (pw_and1 (pt_val isV (plain_true rfl _)))).pt
    have s3 : PS (X.suite a ((a, oe) :: pn)) (.Assign [.Name fo p3] (.Subscript (.Name na v1) (.Call (.Attribute (.Name fl z1) "index" z4) [.Constant (.bool true) z2 z3] [] z5) v2) q4) _ := ps_set (i := 1) nd n1 (.inl l1) (pe_ix ix_list (vNa v1) idx (plainIx rfl)) (sw_plain c3 _ _ _) (.inr l1)
    refine (pss_cons s1 (pss_cons s2 (pss_one (ps_if test (pss_one s3) pss_nil)))).imp fun E σ H ⟨hl, h2, xd, kk⟩ => ?_
    obtain ⟨sc, sp⟩ := band hs
    have sc := dec sc
    have sp := dec sp
    have szl : (1000 : Nat) ≤ sizeLine := by rw [← sizeL]; decide
    refine ⟨h2, xd, by rw [List.length_map]; omega, fun b1 hb1 => ?_⟩
    refine ⟨by rw [List.length_map]; omega, fun b2 hb2 => ?_⟩
    have xd2 : XD d (upd (upd H b1 (.lst (cs.map fun c => V.bl c.2.2))) b2 (.lst (ws.map fun w => V.str ⟨w.toArray⟩))) := (xd.move (H' := upd H b1 (.lst (cs.map fun c => V.bl c.2.2))) fun b o hb => by rw [upd_ne (ne_of_none hb hb1)]; exact hb).move fun b o hb => by rw [upd_ne (ne_of_none hb hb2)]; exact hb
    have bne : b1 ≠ b2 := fun z => by rw [← z, upd_same] at hb2; cases hb2
    have eFl : (cs.map fun c => V.bl c.2.2) = (cs.map fun c => c.2.2).map V.bl := by rw [List.map_map]; rfl
    have hFl : SqL X.K (upd (upd H b1 (.lst (cs.map fun c => V.bl c.2.2))) b2 (.lst (ws.map fun w => V.str ⟨w.toArray⟩))) b1 ((cs.map fun c => c.2.2).map V.bl) := SqL.of (by rw [upd_ne bne, upd_same, eFl])
    have hWs : SqL X.K (upd (upd H b1 (.lst (cs.map fun c => V.bl c.2.2))) b2 (.lst (ws.map fun w => V.str ⟨w.toArray⟩))) b2 (ws.map fun w => V.str ⟨w.toArray⟩) := SqL.of upd_same
    have g2 : (((σ.set 3 (some (V.ref b1))).set 4 (some (V.ref b2)))[2]? = some (some (.ref a))) := by rw [List.getElem?_set_ne (by decide), List.getElem?_set_ne (by decide)]; exact h2
    have g3 : (((σ.set 3 (some (V.ref b1))).set 4 (some (V.ref b2)))[3]? = some (some (.ref b1))) := by rw [List.getElem?_set_ne (by decide), List.getElem?_set_self (by omega)]
    have g4 : (((σ.set 3 (some (V.ref b1))).set 4 (some (V.ref b2)))[4]? = some (some (.ref b2))) := by rw [List.getElem?_set_self (by rw [List.length_set]; omega)]
    refine ⟨.ref b1, g3, .inl ⟨rfl, _, hFl⟩, b1, _, .bl true, rfl, rfl, hFl, rfl, flat_bl _, ?_⟩
    refine ⟨rfl, true, ?_, ?_⟩
    · rw [sole_cnt, sc]; rfl
    · refine ⟨.ref a, g2, .ty "ValueError", .type "ValueError", true, rfl, fun u r => r, hkv, xd2, true, rfl, ?_⟩
      refine ⟨.ref b2, g4, .ref b1, g3, .inl ⟨rfl, _, hFl⟩, b1, _, .bl true, p, .bl true, rfl, rfl, hFl, rfl, flat_bl _, by rw [List.getElem?_map, sp]; rfl, rfl, fun m z' hm hz' => ?_, b2, _, (p : Int), .str ⟨w.toArray⟩, rfl, rfl, hWs, atI_nat (by rw [List.getElem?_map, hw]; rfl), ?_⟩
      · rw [List.getElem?_map] at hz'
        obtain ⟨bb, eb, rfl⟩ := Option.map_eq_some_iff.mp hz'
        cases bb with
        | false => rfl
        | true => exact (sole_first sc sp m hm eb).elim
      · refine kk _ _ (fun b o hb => ?_) (by rw [List.length_set, List.length_set, List.length_set]; exact hl) (by rw [List.getElem?_set_self (by rw [List.length_set, List.length_set]; omega)])
        have h1 : b ≠ b1 := ne_of_none hb hb1
        have h2 : b ≠ b2 := fun z => by
          rw [z] at hb
          have : (upd H b1 (.lst (cs.map fun c => V.bl c.2.2))) b2 = some o := by rw [upd_ne (Ne.symm bne)]; exact hb
          rw [hb2] at this; cases this
        rw [upd_ne h2, upd_ne h1]; exact hb
  | [], hb => cases hb
  | [_], hb => cases hb
  | [_, _], hb => cases hb
  | _ :: _ :: _ :: _ :: _, hb => cases hb
end
def isStrB (e : Expr) : Bool := match unConst e with
  | some (.str _) => true
  | _ => false
def callB (ca : Str) (e : Expr) : Bool := match unCallN e with
  | some (y, []) => decide (y = ca)
  | _ => false
def retB (fo : Str) (s : Stmt) : Bool := match unRet s with
  | some (some e) => decide (unName e = some fo)
  | _ => false
def tryB (ca fo en fl na ce : Str) (cs : List Str) (ws : List (List Nat)) (s : Stmt) : Bool := match unTry s with
  | some ([b], c, n, su) => decide (n = en) && decide (unName c = some ce) && asgB fo (callB ca) b && suiteB fo en fl na cs ws su
  | _ => false
def wordB (ca fo en fl na ce : Str) (cs : List Str) (ws : List (List Nat)) : List Stmt → Bool
  | [s1, s2, s3] => asgB fo isStrB s1 && tryB ca fo en fl na ce cs ws s2 && retB fo s3
  | _ => false
theorem tryB_ok {ca fo en fl na ce : Str} {cs : List Str} {ws : List (List Nat)} {s : Stmt} (h : tryB ca fo en fl na ce cs ws s = true) : ∃ p1 p2 p3 p4 p5 p6 p7 su, s = .Try [.Assign [.Name fo p1] (.Call (.Name ca p2) [] [] p3) p4] [.ExceptHandler (some (.Name ce p5)) (some en) su p6] [] [] p7 ∧ suiteB fo en fl na cs ws su = true := by
  unfold tryB at h
  split at h
  · rename_i b c n su h0
    obtain ⟨h, g4⟩ := band h
    obtain ⟨h, g3⟩ := band h
    obtain ⟨g1, g2⟩ := band h
    have := dec g1
    subst this
    obtain ⟨p5, rfl⟩ := unName_ok (dec g2)
    obtain ⟨e, p1, p4, rfl, _, k⟩ := asgB_ok g3
    obtain ⟨p6, p7, rfl⟩ := unTry_ok h0
    unfold callB at k
    split at k
    · rename_i y h1
      have := dec k
      subst this
      obtain ⟨p2, p3, rfl⟩ := unCallN_ok h1
      exact ⟨p1, p2, p3, p4, p5, p6, p7, su, rfl, g4⟩
    · cases k
  · cases h
theorem retB_ok {fo : Str} {s : Stmt} (h : retB fo s = true) : ∃ p1 p2, s = .Return (some (.Name fo p1)) p2 := by
  unfold retB at h
  split at h
  · rename_i e h0
    obtain ⟨p1, rfl⟩ := unName_ok (dec h)
    obtain ⟨p2, rfl⟩ := unRet_ok h0
    exact ⟨p1, p2, rfl⟩
  · cases h
/-- what is known of an exception that such a def tells -/
structure WordX (K : PySem.W.Frag) (mg : Str → Option Value) (sg : Scope) (CE D : Addr) (csn : List Str) (ws : List (List Nat)) (w : List Nat) : Prop where
  C : ExcC K D
  exm : PySem.W.exmOne K (.ref D) (.ref CE) = some true
  ve : PySem.W.kitOne K (.ref D) (.type "ValueError") = some true
  fl : ∃ (cs : List (Str × Addr × Bool)) (p : Nat), cs.map (·.1) = csn ∧ (∀ c ∈ cs, glB sg c.1 = true ∧ mg c.1 = some (.ref c.2.1) ∧ PySem.W.kitOne K (.ref D) (.ref c.2.1) = some c.2.2) ∧ soleB (cs.map fun c => c.2.2) p = true ∧ ws[p]? = some w ∧ cs.length ≤ 1000
theorem word_gives {X : Cx} {R : RC} {t : Tld} {x q ca fo en fl na ce : Str} {sg : Scope} {g CE : Addr} {cdg : Value} {bg : List Stmt} {csn : List Str} {ws : List (List Nat)} (nd : [ca, fo, en, fl, na].Nodup) (hl : locl sg fo = true ∧ locl sg en = true ∧ locl sg fl = true ∧ locl sg na = true)
    (hk : okName fo = true ∧ okName en = true ∧ okName fl = true ∧ okName na = true ∧ okName ce = true) (hi : glB sg "isinstance" = true) (hmi : X.mg "isinstance" = none) (hv : glB sg "ValueError" = true) (hmv : X.mg "ValueError" = none) (hce : glB sg ce = true) (hmc : X.mg ce = some (.ref CE)) (hwl : ws.length ≤ 1000)
    (hok : t.okw = none) (hx : ∀ j w, t.exw j = some w → ∃ z, w = .s z ∧ WordX X.K X.mg sg CE (R.ca j) csn ws z) (hb : wordB ca fo en fl na ce csn ws bg = true) : LamX.GivesTo X [ca, fo, en, fl, na] x sg g cdg bg ca q (TTw R t) := by
  intro f c' s H Q tl act hc h
  match bg, hb with
  | [s1, s2, s3], hb =>
    obtain ⟨hb, b3⟩ := band hb
    obtain ⟨b1, b2⟩ := band hb
    obtain ⟨e1, p1, p2, rfl, c1, k1⟩ := asgB_ok b1
    obtain ⟨r1, r2, r3, r4, r5, r6, r7, su, rfl, hsu⟩ := tryB_ok b2
    obtain ⟨t1, t2, rfl⟩ := retB_ok b3
    obtain ⟨b0, sr, rfl⟩ : ∃ b0 sr, su = b0 :: sr := by
      cases su with
      | nil => cases hsu
      | cons a b => exact ⟨a, b, rfl⟩
    unfold isStrB at k1
    split at k1
    · rename_i w0 hw0
      obtain ⟨kk, p3, rfl⟩ := unConst_ok hw0
      obtain ⟨l1, l2, l3, l4⟩ := hl
      obtain ⟨o1, o2, o3, o4, o5⟩ := hk
      have l1 := dec l1
      have l2 := dec l2
      have l3 := dec l3
      have l4 := dec l4
      refine ⟨_, pss_cons (ps_set (i := 1) nd rfl (.inl l1) pe_str (sw_plain c1 _ _ _) (.inl rfl)) (pss_cons (ps_try_as (X := (cxOf C8.CX0 X.prog X.w X.K X.mg X.base [ca, fo, en, fl, na] x sg g cdg X.A X.stack s H C8.E0).nox) (c := .ref CE) (i := 2)
          (tb := fun W D σ H => ∃ Ech : XK, (∀ cls d σ' H', Ech cls d H' → σ'.length = 5 → W cls d σ' H') ∧ σ[0]? = some (some (.ref f)) ∧ H c' = some (LamX.CodeO c' q) ∧ tl Ech H fun v H1 => D.nx (σ.set 1 (some v)) H1)
          (ts := fun a cls d D σ H => XD d H ∧ ∃ j w, cls = .ref (R.ca j) ∧ t.exw j = some w ∧ σ.length = 5 ∧ σ[2]? = some (some (.ref a)) ∧ ∀ H'' σ'', (∀ b o, H b = some o → H'' b = some o) → σ''.length = 5 → σ''[1]? = some (some (twV w)) → D.nx σ'' H'')
          (Wout := fun _ _ _ _ => False) rfl rfl nd rfl l2 ⟨gl_of hce, (okName_of o5).1, .inl hmc⟩ LamX.takes0 (fun W pn xe tk _ => ?_) (fun a oe cls d pn hz hf => ?_)) (pss_one (ps_ret (pe_var (i := 1) rfl (.inl l1) (okName_of o1).1 (okName_of o1).2)))), ?_⟩
      · refine ⟨fun pins s' σ H' D I ⟨Ech, hW, h1, h2, h3⟩ => ?_⟩
        have hp := act (fun c d σ H => σ.length = 5 → W c d σ H) pn xe Ech r2 r3 (takes_len tk) hW
        exact (pss_one (ps_set (i := 1) (pos := r4) nd rfl (.inl l1) hp (sw_plain rfl _ _ _) (.inl rfl))).run pins s' σ H' D I ⟨h1, h2, h3⟩
      · refine ⟨fun pins s' σ H' D I ⟨ed, j, w, ec, ew, rest⟩ => ?_⟩
        subst ec
        obtain ⟨z, ez, C, _, ve, cs, p, e1, hcs, sb, hw, hcl⟩ := hx j w ew
        subst ez
        refine (suite_word (X := (cxOf C8.CX0 X.prog X.w X.K X.mg X.base [ca, fo, en, fl, na] x sg g cdg X.A X.stack s H C8.E0).nox) (fo := fo) (en := en) (fl := fl) (na := na) (cs := cs) (ws := ws) (w := z) (p := p) C hz hf nd rfl rfl rfl rfl l1 l2 l3 l4 o2 o3 o4 (gl_of hi) hmi (gl_of hv) hmv ve (fun c hc => ⟨gl_of (hcs c hc).1, (hcs c hc).2⟩) sb hw hcl hwl (by rw [e1]; exact hsu)).run pins s' σ H' D I ⟨rest.1, rest.2.1, ed, rest.2.2⟩
      · refine ⟨TwE R t Q, fun cls d σ' H' hE hl' => ?_, rfl, hc, h _ _ (fun _ _ _ z => z) fun v H' hq => ?_⟩
        · obtain ⟨ed, j, w, ec, ew, hq⟩ := hE
          subst ec
          obtain ⟨z, ez, wx⟩ := hx j w ew
          subst ez
          refine ⟨true, wx.exm, fun _ a ha => ⟨ed, j, .s z, rfl, ew, by rw [List.length_set]; exact hl', by rw [List.getElem?_set_self (by omega)], fun H'' σ'' eX hl2 h1 => ?_⟩, fun z => nomatch z⟩
          exact ⟨.str ⟨z.toArray⟩, by rw [List.getElem?_set_ne (by decide)]; exact h1, hq H'' eX⟩
        · have := hq H' fun _ _ z => z
          rw [hok] at this
          exact ⟨v, rfl, this⟩
    · cases k1
  | [], hb => cases hb
  | [_], hb => cases hb
  | [_, _], hb => cases hb
  | _ :: _ :: _ :: _ :: _, hb => cases hb
end DpS
end

section
set_option Elab.async false
set_option linter.all false
set_option maxRecDepth 100000
set_option maxHeartbeats 4000000
set_option autoImplicit false
/-! DpB26t: the law's own def that tells the class of an exception by its place among flags. -/
namespace DpS
open PySem PySem.Spec L2

def cntB (fl : Str) (t : Expr) : Bool := match unCmp t with
  | some (l, [.Eq], [r]) => methTB fl "count" l && decide (unConst r = some (.int 1))
  | _ => false
theorem cntB_ok {fl : Str} {t : Expr} (h : cntB fl t = true) : ∃ l k p1 p2, t = .Compare l [.Eq] [.Constant (.int 1) k p1] p2 ∧ methTB fl "count" l = true := by
  unfold cntB at h
  split at h
  · rename_i l r hc
    obtain ⟨g1, g2⟩ := band h
    obtain ⟨k, p1, rfl⟩ := unConst_ok (dec g2)
    obtain ⟨p2, rfl⟩ := unCmp_ok hc
    exact ⟨l, k, p1, p2, rfl, g1⟩
  · cases h
/-- x = a if t else a text -/
def ifxB (tb bb : Expr → Bool) (e : Expr) : Bool := match unIte e with
  | some (t, a, b) => tb t && bb a && isStrB b
  | none => false
theorem ifxB_ok {tb bb : Expr → Bool} {e : Expr} (h : ifxB tb bb e = true) : ∃ t a z k p1 p2, e = .IfExp t a (.Constant (.str z) k p1) p2 ∧ tb t = true ∧ bb a = true := by
  unfold ifxB at h
  split at h
  · rename_i t a b h0
    obtain ⟨h, h3⟩ := band h
    obtain ⟨h1, h2⟩ := band h
    obtain ⟨p, rfl⟩ := unIte_ok h0
    unfold isStrB at h3
    split at h3
    · rename_i z hz
      obtain ⟨k, p1, rfl⟩ := unConst_ok hz
      exact ⟨t, a, z, k, p1, p, rfl, h1, h2⟩
    · cases h3
  · cases h
/-- the words told: by place -/
def pick2B (fl : Str) : Option (List (List Nat)) → Expr → Bool
  | none, e => methTB fl "index" e
  | some ws, e => match unSub e with
    | some (o, i) => lstB (wordsB ws) o && methTB fl "index" i
    | none => false
def test2B (en fl : Str) (ve : Bool) (t : Expr) : Bool := cond ve (testB en fl t) (cntB fl t)
def suite2B (fo en fl : Str) (cs : List Str) (ve : Bool) (ws : Option (List (List Nat))) : List Stmt → Bool
  | [f1, f2] => asgB fl (lstB (flagsB en cs)) f1 && asgB fo (ifxB (test2B en fl ve) (pick2B fl ws)) f2
  | _ => false
/-- what is told at the place p -/
def pickW (ws : Option (List (List Nat))) (p : Nat) : Option Dp.TW := match ws with
  | none => some (.i p)
  | some ws => (ws[p]?).map .s
section
variable {X : Cx} {a D : Addr} {oe : Obj} {pn : List (Addr × Obj)} {fo en fl : Str} {d : Option Addr}
theorem suite_pick {cs : List (Str × Addr × Bool)} {ve : Bool} {ws : Option (List (List Nat))} {w : Dp.TW} {p : Nat} {body : List Stmt} (C : ExcC X.K D) (hz : Zc (.ref D) d oe) (hf : ∃ vs, oe.data = .fields vs) (nd : X.N.Nodup)
    (n1 : X.N[1]? = some fo) (n2 : X.N[2]? = some en) (n3 : X.N[3]? = some fl) (l1 : X.env.scope.names.lookup fo = some .local) (l2 : X.env.scope.names.lookup en = some .local) (l3 : X.env.scope.names.lookup fl = some .local)
    (o2 : okName en = true) (o3 : okName fl = true)
    (hi : Gl X "isinstance") (hmi : X.mg "isinstance" = none) (hv : ve = true → Gl X "ValueError" ∧ X.mg "ValueError" = none ∧ PySem.W.kitOne X.K (.ref D) (.type "ValueError") = some true)
    (hc : ∀ c ∈ cs, Gl X c.1 ∧ X.mg c.1 = some (.ref c.2.1) ∧ PySem.W.kitOne X.K (.ref D) (.ref c.2.1) = some c.2.2) (hs : soleB (cs.map fun c => c.2.2) p = true) (hw : pickW ws p = some w) (hcl : cs.length ≤ 1000) (hwl : ∀ zs, ws = some zs → zs.length ≤ 1000)
    (hb : suite2B fo en fl (cs.map (·.1)) ve ws body = true) :
    PSs (X.suite a ((a, oe) :: pn)) body (fun E σ H => σ.length = 4 ∧ σ[2]? = some (some (.ref a)) ∧ XD d H ∧ ∀ H'' σ'', (∀ b o, H b = some o → H'' b = some o) → σ''.length = 4 → σ''[1]? = some (some (twV w)) → E.nx σ'' H'') := by
  match body, hb with
  | [f1, f2], hb =>
    obtain ⟨b1, b2⟩ := band hb
    obtain ⟨e1, p1, q1, rfl, c1, d1⟩ := asgB_ok b1
    obtain ⟨e2, p2, q2, rfl, c2, d2⟩ := asgB_ok b2
    obtain ⟨es1, r1, rfl, fl1⟩ := lstB_ok d1
    obtain ⟨t, y, z0, k0, r2, r3, rfl, bt, by_⟩ := ifxB_ok d2
    have vis : ∀ {x : Str}, X.env.scope.names.lookup x = some .local → Vis X.env.scope x := fun h => .inl h
    have pFl := pa_flags (a := a) (pn := pn) C hz hf (fun _ => trivial) n2 (vis l2) (okName_of o2).1 (okName_of o2).2 hi hmi cs es1 hc fl1
    have s1 : PS (X.suite a ((a, oe) :: pn)) (.Assign [.Name fl p1] (.List es1 r1) q1) _ := ps_set (i := 3) nd n3 (.inl l3) (pe_lst pFl) (sw_plain c1 _ _ _) (.inr l3)
    have vFl : ∀ q : Pos, PE (X.suite a ((a, oe) :: pn)) (.Name fl q) (tVar 3) := fun q => pe_var (i := 3) n3 (vis l3) (okName_of o3).1 (okName_of o3).2
    have vEn : ∀ q : Pos, PE (X.suite a ((a, oe) :: pn)) (.Name en q) (tVar 2) := fun q => pe_var (i := 2) n2 (vis l2) (okName_of o2).1 (okName_of o2).2
    have cnt : ∀ l, methTB fl "count" l = true → PE (X.suite a ((a, oe) :: pn)) l _ := fun l hl => by
      obtain ⟨x1, x2, x3, x4, x5, rfl, xl⟩ := methTB_ok hl
      exact pe_bm PySem.F.plainAttrs_list PySem.F.slot_list_count PySem.F.type_list_count mt_lcountF (vFl x1) (pa_cons pe_bl pa_nil) rfl rfl xl rfl rfl
    have idx : ∀ i, methTB fl "index" i = true → PE (X.suite a ((a, oe) :: pn)) i _ := fun i hi => by
      obtain ⟨z1, z2, z3, z4, z5, rfl, zl⟩ := methTB_ok hi
      exact pe_bm PySem.F.plainAttrs_list PySem.F.slot_list_index PySem.F.type_list_index mt_index (vFl z1) (pa_cons pe_bl pa_nil) rfl rfl zl rfl rfl
    obtain ⟨sc, sp⟩ := band hs
    have sc := dec sc
    have sp := dec sp
    have szl : (1000 : Nat) ≤ sizeLine := by rw [← sizeL]; decide
    -- the flags at b1
    have eFl : (cs.map fun c => V.bl c.2.2) = (cs.map fun c => c.2.2).map V.bl := by rw [List.map_map]; rfl
    have test : PT (X.suite a ((a, oe) :: pn)) t (fun σ H Q => ∃ b1, σ[3]? = some (some (.ref b1)) ∧ σ[2]? = some (some (.ref a)) ∧ XD d H ∧ SqL X.K H b1 ((cs.map fun c => c.2.2).map V.bl) ∧ Q true H) := by
      have one : ∀ {l k p1 p2}, methTB fl "count" l = true → PT (X.suite a ((a, oe) :: pn)) (.Compare l [.Eq] [.Constant (.int 1) k p1] p2) (fun σ H Q => ∃ b1, σ[3]? = some (some (.ref b1)) ∧ SqL X.K H b1 ((cs.map fun c => c.2.2).map V.bl) ∧ Q true H) := fun {l k p1 p2} hl =>
        (pt_cmpR op_eq (cnt l hl) pe_int (mark_no _ rfl)).imp fun σ H Q ⟨b1, g3, hFl, q⟩ => by
          refine ⟨.ref b1, g3, .inl ⟨rfl, _, hFl⟩, b1, _, .bl true, rfl, rfl, hFl, rfl, flat_bl _, ?_⟩
          refine ⟨rfl, true, ?_, q⟩
          rw [sole_cnt, sc]; rfl
      cases ve with
      | false =>
        obtain ⟨l, k, u1, u2, rfl, bc⟩ := cntB_ok (show cntB fl t = true from bt)
        exact (one bc).imp fun σ H Q ⟨b1, g3, g2, xd, hFl, q⟩ => ⟨b1, g3, hFl, q⟩
      | true =>
        obtain ⟨l, k, u1, u2, u3, u4, u5, u6, u7, rfl, bc⟩ := testB_ok (show testB en fl t = true from bt)
        obtain ⟨hgv, hmv, hkv⟩ := hv rfl
        have isV : PE (X.suite a ((a, oe) :: pn)) (.Call (.Name "isinstance" u3) [.Name en u4, .Name "ValueError" u5] [] u6) _ := pe_callB (call_isED C hz hf) hi hmi (by decide +kernel) (pa_cons (vEn u4) (pa_cons (pe_bltn (v := .ty "ValueError") hgv hmv (by decide +kernel) rfl (by decide) (by decide)) pa_nil)) (by decide) (by decide)
        refine (pw_and (one bc) (pw_and1 (pt_val isV (plain_true rfl _)))).pt.imp fun σ H Q ⟨b1, g3, g2, xd, hFl, q⟩ => ⟨b1, g3, hFl, ?_⟩
        exact ⟨.ref a, g2, .ty "ValueError", .type "ValueError", true, rfl, fun u r => r, hkv, xd, true, rfl, q⟩
    have pick : PE (X.suite a ((a, oe) :: pn)) y (fun σ H Q => ∃ b1, σ[3]? = some (some (.ref b1)) ∧ SqL X.K H b1 ((cs.map fun c => c.2.2).map V.bl) ∧ ∀ H'', (∀ b o, H b = some o → H'' b = some o) → Q (twV w) H'') := by
      have first : ∀ m z', m < p → ((cs.map fun c => c.2.2).map V.bl)[m]? = some z' → eqV z' (.bl true) = false := fun m z' hm hz' => by
        rw [List.getElem?_map] at hz'
        obtain ⟨bb, eb, rfl⟩ := Option.map_eq_some_iff.mp hz'
        cases bb with
        | false => rfl
        | true => exact (sole_first sc sp m hm eb).elim
      cases ws with
      | none =>
        cases hw
        refine (idx y by_).imp fun σ H Q ⟨b1, g3, hFl, q⟩ => ?_
        exact ⟨.ref b1, g3, .inl ⟨rfl, _, hFl⟩, b1, _, .bl true, p, .bl true, rfl, rfl, hFl, rfl, flat_bl _, by rw [List.getElem?_map, sp]; rfl, rfl, first, q H fun _ _ z => z⟩
      | some zs =>
        obtain ⟨ww, hww, rfl⟩ := Option.map_eq_some_iff.mp (show (zs[p]?).map Dp.TW.s = some w from hw)
        have by_ : (match unSub y with | some (o, i) => lstB (wordsB zs) o && methTB fl "index" i | none => false) = true := by_
        cases h0 : unSub y with
        | none => rw [h0] at by_; cases by_
        | some oi =>
          obtain ⟨o, i⟩ := oi
          rw [h0] at by_
          obtain ⟨g1, g2⟩ := band by_
          obtain ⟨u, rfl⟩ := unSub_ok h0
          obtain ⟨es2, r4, rfl, wb⟩ := lstB_ok g1
          refine (pe_ix ix_list (pe_lst (pa_words zs es2 wb)) (idx i g2) (plainIx (by obtain ⟨z1, z2, z3, z4, z5, rfl, zl⟩ := methTB_ok g2; rfl))).imp fun σ H Q ⟨b1, g3, hFl, q⟩ => ?_
          refine ⟨by rw [List.length_map]; have := hwl zs rfl; omega, fun b2 hb2 => ?_⟩
          have bx : ∀ b o, H b = some o → upd H b2 (.lst (zs.map fun w => V.str ⟨w.toArray⟩)) b = some o := fun b o hb => by
            rw [upd_ne (ne_of_none hb hb2)]; exact hb
          have hFl2 : SqL X.K (upd H b2 (.lst (zs.map fun w => V.str ⟨w.toArray⟩))) b1 ((cs.map fun c => c.2.2).map V.bl) := by
            rcases hFl with (z | ⟨o', z⟩) | z
            · exact .inl (.inl (bx _ _ z))
            · exact .inl (.inr ⟨o', bx _ _ z⟩)
            · exact .inr z
          have hWs : SqL X.K (upd H b2 (.lst (zs.map fun w => V.str ⟨w.toArray⟩))) b2 (zs.map fun w => V.str ⟨w.toArray⟩) := SqL.of upd_same
          exact ⟨.ref b1, g3, .inl ⟨rfl, _, hFl2⟩, b1, _, .bl true, p, .bl true, rfl, rfl, hFl2, rfl, flat_bl _, by rw [List.getElem?_map, sp]; rfl, rfl, first, b2, _, (p : Int), .str ⟨ww.toArray⟩, rfl, rfl, hWs, atI_nat (by rw [List.getElem?_map, hww]; rfl), q _ bx⟩
    have s2 : PS (X.suite a ((a, oe) :: pn)) (.Assign [.Name fo p2] (.IfExp t y (.Constant (.str z0) k0 r2) r3) q2) _ := ps_set (i := 1) nd n1 (.inl l1) (pe_ifExp test pick pe_str) (sw_plain c2 _ _ _) (.inr l1)
    refine (pss_cons s1 (pss_one s2)).imp fun E σ H ⟨hl, h2, xd, kk⟩ => ?_
    refine ⟨h2, xd, by rw [List.length_map]; omega, fun b1 hb1 => ?_⟩
    have g2 : (σ.set 3 (some (V.ref b1)))[2]? = some (some (.ref a)) := by rw [List.getElem?_set_ne (by decide)]; exact h2
    have g3 : (σ.set 3 (some (V.ref b1)))[3]? = some (some (.ref b1)) := by rw [List.getElem?_set_self (by omega)]
    have hFl : SqL X.K (upd H b1 (.lst (cs.map fun c => V.bl c.2.2))) b1 ((cs.map fun c => c.2.2).map V.bl) := SqL.of (by rw [upd_same, eFl])
    refine ⟨b1, g3, g2, xd.move (fun b o hb => by rw [upd_ne (ne_of_none hb hb1)]; exact hb), hFl, b1, g3, hFl, fun H'' eX => ?_⟩
    refine kk _ _ (fun b o hb => eX b o (by rw [upd_ne (ne_of_none hb hb1)]; exact hb)) (by rw [List.length_set, List.length_set]; exact hl) (by rw [List.getElem?_set_self (by rw [List.length_set]; omega)])
  | [], hb => cases hb
  | [_], hb => cases hb
  | _ :: _ :: _ :: _, hb => cases hb
end
def strIs (w : List Nat) (e : Expr) : Bool := match unConst e with
  | some (.str z) => decide (z = ⟨w.toArray⟩)
  | _ => false
def callS (ca : Str) (s : Stmt) : Bool := match s with
  | .Expr e _ => callB ca e
  | _ => false
def try2B (ca fo en fl ce : Str) (cs : List Str) (ve : Bool) (ws : Option (List (List Nat))) (s : Stmt) : Bool := match unTry s with
  | some ([b], c, n, su) => decide (n = en) && decide (unName c = some ce) && callS ca b && suite2B fo en fl cs ve ws su
  | _ => false
def pickDefB (ca fo en fl ce : Str) (w0 : List Nat) (cs : List Str) (ve : Bool) (ws : Option (List (List Nat))) : List Stmt → Bool
  | [s1, s2, s3] => asgB fo (strIs w0) s1 && try2B ca fo en fl ce cs ve ws s2 && retB fo s3
  | _ => false
theorem try2B_ok {ca fo en fl ce : Str} {cs : List Str} {ve : Bool} {ws : Option (List (List Nat))} {s : Stmt} (h : try2B ca fo en fl ce cs ve ws s = true) : ∃ p2 p3 p4 p5 p6 p7 su, s = .Try [.Expr (.Call (.Name ca p2) [] [] p3) p4] [.ExceptHandler (some (.Name ce p5)) (some en) su p6] [] [] p7 ∧ suite2B fo en fl cs ve ws su = true := by
  unfold try2B at h
  split at h
  · rename_i b c n su h0
    obtain ⟨h, g4⟩ := band h
    obtain ⟨h, g3⟩ := band h
    obtain ⟨g1, g2⟩ := band h
    have := dec g1
    subst this
    obtain ⟨p5, rfl⟩ := unName_ok (dec g2)
    obtain ⟨p6, p7, rfl⟩ := unTry_ok h0
    cases b with
    | Expr e p4 =>
      have g3 : callB ca e = true := g3
      unfold callB at g3
      split at g3
      · rename_i y h1
        have := dec g3
        subst this
        obtain ⟨p2, p3, rfl⟩ := unCallN_ok h1
        exact ⟨p2, p3, p4, p5, p6, p7, su, rfl, g4⟩
      · cases g3
    | _ => cases g3
  · cases h
/-- what is known of an exception that such a def tells -/
structure PickX (K : PySem.W.Frag) (mg : Str → Option Value) (sg : Scope) (CE D : Addr) (csn : List Str) (ws : Option (List (List Nat))) (w : Dp.TW) : Prop where
  C : ExcC K D
  exm : PySem.W.exmOne K (.ref D) (.ref CE) = some true
  ve : PySem.W.kitOne K (.ref D) (.type "ValueError") = some true
  fl : ∃ (cs : List (Str × Addr × Bool)) (p : Nat), cs.map (·.1) = csn ∧ (∀ c ∈ cs, glB sg c.1 = true ∧ mg c.1 = some (.ref c.2.1) ∧ PySem.W.kitOne K (.ref D) (.ref c.2.1) = some c.2.2) ∧ soleB (cs.map fun c => c.2.2) p = true ∧ pickW ws p = some w ∧ cs.length ≤ 1000
theorem pick_gives {X : Cx} {R : RC} {t : Tld} {x q ca fo en fl ce : Str} {sg : Scope} {g CE : Addr} {cdg : Value} {bg : List Stmt} {csn : List Str} {ve : Bool} {ws : Option (List (List Nat))} {w0 : List Nat} (nd : [ca, fo, en, fl].Nodup) (hl : locl sg fo = true ∧ locl sg en = true ∧ locl sg fl = true)
    (hk : okName fo = true ∧ okName en = true ∧ okName fl = true ∧ okName ce = true) (hi : glB sg "isinstance" = true) (hmi : X.mg "isinstance" = none) (hv : ve = true → glB sg "ValueError" = true ∧ X.mg "ValueError" = none) (hce : glB sg ce = true) (hmc : X.mg ce = some (.ref CE)) (hwl : ∀ zs, ws = some zs → zs.length ≤ 1000)
    (hok : t.okw = some w0) (hx : ∀ j w, t.exw j = some w → PickX X.K X.mg sg CE (R.ca j) csn ws w) (hb : pickDefB ca fo en fl ce w0 csn ve ws bg = true) : LamX.GivesTo X [ca, fo, en, fl] x sg g cdg bg ca q (TTw R t) := by
  intro f c' s H Q tl act hc h
  match bg, hb with
  | [s1, s2, s3], hb =>
    obtain ⟨hb, b3⟩ := band hb
    obtain ⟨b1, b2⟩ := band hb
    obtain ⟨e1, p1, p2, rfl, c1, k1⟩ := asgB_ok b1
    obtain ⟨r2, r3, r4, r5, r6, r7, su, rfl, hsu⟩ := try2B_ok b2
    obtain ⟨t1, t2, rfl⟩ := retB_ok b3
    obtain ⟨b0, sr, rfl⟩ : ∃ b0 sr, su = b0 :: sr := by
      cases su with
      | nil => cases hsu
      | cons a b => exact ⟨a, b, rfl⟩
    unfold strIs at k1
    split at k1
    · rename_i z0 hw0
      have ez := dec k1
      subst ez
      obtain ⟨kk, p3, rfl⟩ := unConst_ok hw0
      obtain ⟨l1, l2, l3⟩ := hl
      obtain ⟨o1, o2, o3, o5⟩ := hk
      have l1 := dec l1
      have l2 := dec l2
      have l3 := dec l3
      refine ⟨_, pss_cons (ps_set (i := 1) nd rfl (.inl l1) pe_str (sw_plain c1 _ _ _) (.inl rfl)) (pss_cons (ps_try_as (X := (cxOf C8.CX0 X.prog X.w X.K X.mg X.base [ca, fo, en, fl] x sg g cdg X.A X.stack s H C8.E0).nox) (c := .ref CE) (i := 2)
          (tb := fun W D σ H => ∃ Ech : XK, (∀ cls d σ' H', Ech cls d H' → σ'.length = 4 → W cls d σ' H') ∧ σ[0]? = some (some (.ref f)) ∧ H c' = some (LamX.CodeO c' q) ∧ tl Ech H fun v H1 => D.nx σ H1)
          (ts := fun a cls d D σ H => XD d H ∧ ∃ j w, cls = .ref (R.ca j) ∧ t.exw j = some w ∧ σ.length = 4 ∧ σ[2]? = some (some (.ref a)) ∧ ∀ H'' σ'', (∀ b o, H b = some o → H'' b = some o) → σ''.length = 4 → σ''[1]? = some (some (twV w)) → D.nx σ'' H'')
          (Wout := fun _ _ _ _ => False) rfl rfl nd rfl l2 ⟨gl_of hce, (okName_of o5).1, .inl hmc⟩ LamX.takes0 (fun W pn xe tk _ => ?_) (fun a oe cls d pn hz hf => ?_)) (pss_one (ps_ret (pe_var (i := 1) rfl (.inl l1) (okName_of o1).1 (okName_of o1).2)))), ?_⟩
      · refine ⟨fun pins s' σ H' D I ⟨Ech, hW, h1, h2, h3⟩ => ?_⟩
        have hp := act (fun c d σ H => σ.length = 4 → W c d σ H) pn xe Ech r2 r3 (takes_len tk) hW
        exact (pss_one (ps_expr (pos := r4) hp (sw_plain rfl _ _ _))).run pins s' σ H' D I ⟨h1, h2, h3⟩
      · refine ⟨fun pins s' σ H' D I ⟨ed, j, w, ec, ew, rest⟩ => ?_⟩
        subst ec
        obtain ⟨C, _, vx, cs, p, e1, hcs, sb, hw, hcl⟩ := hx j w ew
        refine (suite_pick (X := (cxOf C8.CX0 X.prog X.w X.K X.mg X.base [ca, fo, en, fl] x sg g cdg X.A X.stack s H C8.E0).nox) (fo := fo) (en := en) (fl := fl) (cs := cs) (ve := ve) (ws := ws) (w := w) (p := p) C hz hf nd rfl rfl rfl l1 l2 l3 o2 o3 (gl_of hi) hmi (fun z => ⟨gl_of (hv z).1, (hv z).2, vx⟩) (fun c hc => ⟨gl_of (hcs c hc).1, (hcs c hc).2⟩) sb hw hcl hwl (by rw [e1]; exact hsu)).run pins s' σ H' D I ⟨rest.1, rest.2.1, ed, rest.2.2⟩
      · refine ⟨TwE R t Q, fun cls d σ' H' hE hl' => ?_, rfl, hc, h _ _ (fun _ _ _ z => z) fun v H' hq => ?_⟩
        · obtain ⟨ed, j, w, ec, ew, hq⟩ := hE
          subst ec
          refine ⟨true, (hx j w ew).exm, fun _ a ha => ⟨ed, j, w, rfl, ew, by rw [List.length_set]; exact hl', by rw [List.getElem?_set_self (by omega)], fun H'' σ'' eX hl2 h1 => ?_⟩, fun z => nomatch z⟩
          exact ⟨twV w, by rw [List.getElem?_set_ne (by decide)]; exact h1, hq H'' eX⟩
        · have := hq H' fun _ _ z => z
          rw [hok] at this
          exact ⟨_, rfl, this⟩
    · cases k1
  | [], hb => cases hb
  | [_], hb => cases hb
  | [_, _], hb => cases hb
  | _ :: _ :: _ :: _ :: _, hb => cases hb
end DpS
end

section
set_option Elab.async false
set_option linter.all false
set_option maxRecDepth 100000
set_option maxHeartbeats 4000000
set_option autoImplicit false
/-! DpB27: a law put together from the head's facts. -/
namespace DpS
open PySem PySem.Spec L2 He
def fnScB (N P : List Str) (sc : Scope) : Bool := decide (sc.kind = .function) && !sc.isCoroutine && !sc.isGenerator && decide N.Nodup && decide (N.take P.length = P) && (P.all fun x => decide (sc.names.lookup x = some .local) || decide (sc.names.lookup x = some .cell)) && sc.names.all fun y => decide (y.2 ≠ .free)
theorem fnScB_ok {N P : List Str} {sc : Scope} (h : fnScB N P sc = true) : FnScope N P sc := by
  unfold fnScB at h
  simp only [Bool.and_eq_true, Bool.or_eq_true, Bool.not_eq_true', decide_eq_true_eq, List.all_eq_true] at h
  obtain ⟨⟨⟨⟨⟨⟨h1, h2⟩, h3⟩, h4⟩, h5⟩, h6⟩, h7⟩ := h
  exact ⟨h1, h2, h3, h4, h5, h6, h7⟩
def excCB (K : PySem.W.Frag) (D : Addr) : Bool := decide (PySem.W.findIn K (.ref D) "__getattribute__" = some (some (.builtin "BaseException.__getattribute__"))) && decide (PySem.W.findIn K (.ref D) "__getattr__" = some none) && decide (PySem.W.subIn K (.ref D) (.type "BaseException") = some true) && PySem.W.hasDictIn K D &&
  decide (PySem.W.findIn K (.ref D) "__class__" = some (some (.builtin "object.__class__"))) && decide (PySem.W.specialIn K (.builtin "object.__class__") "__get__" = some (some (.builtin "getset_descriptor.__get__"))) && decide (PySem.W.takesIn K (.builtin "object.__class__") = some true) && decide (PySem.W.mroIn K D (.type "object") = some true)
theorem excCB_ok {K : PySem.W.Frag} {D : Addr} (h : excCB K D = true) : ExcC K D := by
  unfold excCB at h
  simp only [Bool.and_eq_true, decide_eq_true_eq] at h
  obtain ⟨⟨⟨⟨⟨⟨⟨h1, h2⟩, h3⟩, h4⟩, h5⟩, h6⟩, h7⟩, h8⟩ := h
  exact ⟨h1, h2, h3, h4, h5, h6, h7, h8⟩
/-- a law's names in K -/
structure LN where
  cls : List Str
  fns : List (Option Str)
  mts : List (Option (Str × Str))
  nps : List Nat
  gls : List Str
  tns : List (Option Str)
  xns : List (Option Str)
  xas : List (Option Str)
  cns : List (Option Str)
  cps : List Nat
  ats : List Str
  tf : List Defn
/-- the fields' names, none twice -/
def anOf (ats : List Str) (i : Nat) : Str := (ats[i]?).getD ⟨Array.replicate (i + 1000) 0⟩
theorem anOf_inj {ats : List Str} (h : (ats.all fun x => decide (x.cps.size < 1000)) = true) (nd : ats.Nodup) (i j : Nat) (e : anOf ats i = anOf ats j) : i = j := by
  have hl := List.all_eq_true.mp h
  unfold anOf at e
  cases hi : ats[i]? with
  | none => cases hj : ats[j]? with
    | none =>
      rw [hi, hj] at e
      have := congrArg (fun s : Str => s.cps.size) e
      simp at this
      exact this
    | some y =>
      rw [hi, hj] at e
      have := congrArg (fun s : Str => s.cps.size) e
      have hy := of_decide_eq_true (hl y (List.mem_of_getElem? hj))
      simp at this
      omega
  | some x => cases hj : ats[j]? with
    | none =>
      rw [hi, hj] at e
      have := congrArg (fun s : Str => s.cps.size) e
      have hx := of_decide_eq_true (hl x (List.mem_of_getElem? hi))
      simp at this
      omega
    | some y =>
      rw [hi, hj] at e
      have e : x = y := e
      subst e
      obtain ⟨h1, e1⟩ := List.getElem?_eq_some_iff.mp hi
      obtain ⟨h2, e2⟩ := List.getElem?_eq_some_iff.mp hj
      exact (List.getElem_inj nd).mp (e1.trans e2.symm)
def LN.L (n : LN) (K : PySem.W.Frag) : LX where
  R := ⟨K, fun j => ga K (n.cls.getD j ""), anOf n.ats, fun f => match (n.mts[f]?).join with
    | some p => ma K (ga K p.1) p.2
    | none => ga K (((n.fns[f]?).join).getD "")⟩
  T := n.tf.map fun p => ((cT K p).2, p.1 ++ ".<locals>." ++ "<lambda>")
  fnm := fun f => (n.fns[f]?).join
  fnp := fun f => n.nps.getD f 0
  gnm := fun i => n.gls[i]?
  tnm := fun f => (n.tns[f]?).join
  xnm := fun c => (n.xns[c]?).join
  dfn := fun f => ((n.fns[f]?).join).isSome || ((n.mts[f]?).join).isSome
  xam := fun c => (n.xas[c]?).join
  cnm := fun c => (n.cns[c]?).join
  cnp := fun c => n.cps.getD c 0
  anm := fun i => n.ats[i]?
section
variable {K : PySem.W.Frag} {n : LN} {fa : List Fa} {fn : List DefD} {ts : List Tab} {ex : PySem.W.Frag → Bool} {w : World} {h base : Heap} {mg : Str → Option Value}
/-- a def of the module -/
def dmod (x : Str) (st : Stmt) : DefD := ⟨(x, none), x, x, defArgs st, defBody st, defScope st, [], []⟩
theorem funD_of (c : SaysX fa fn ts n.tf ex w h K) {x : Str} {st : Stmt} (hm : dmod x st ∈ fn) : ∃ fd, FunD K x x (defArgs st) (defBody st) (defScope st) [] [] (ga K x) fd := SaysD.defs (d := dmod x st) (SaysT.d c.t) hm
/-- the tables of the defs with lambdas are not one another's -/
def uniqB (tf : List Defn) (K : PySem.W.Frag) : Bool := decide ((tf.map fun p => (cT K p).2).Nodup)
theorem uniq_of {α β : Type} {l : List α} {g : α → β} (h : (l.map g).Nodup) {a b : α} (ha : a ∈ l) (hb : b ∈ l) (e : g a = g b) : a = b := by
  induction l with
  | nil => cases ha
  | cons x xs ih =>
    rw [List.map_cons, List.nodup_cons] at h
    have ha2 := List.mem_cons.mp ha
    have hb2 := List.mem_cons.mp hb
    clear ha hb
    rcases ha2 with e1 | h1
    · rcases hb2 with e2 | h2
      · rw [e1, e2]
      · exact absurd (List.mem_map.mpr ⟨b, h2, by rw [← e, e1]⟩) h.1
    · rcases hb2 with e2 | h2
      · exact absurd (List.mem_map.mpr ⟨a, h1, by rw [e, e2]⟩) h.1
      · exact ih h.2 h1 h2
theorem lam_at {x : Str} {params : Arguments} {body : List Stmt} {scope : Scope} {fd : FuncData} (F : FunD K x x params body scope [] [] (ga K x) fd) (hx : (x, none) ∈ n.tf) (hu : uniqB n.tf K = true) (hT : ∀ p ∈ n.tf, LamX.TabB base mg (cT K p).1 (cT K p).2) :
    ∃ c P', fd.code = .ref c ∧ LamX.TabB base mg c P' ∧ (P', x ++ ".<locals>." ++ "<lambda>") ∈ (n.L K).T ∧ ∀ p ∈ (n.L K).T, p.1 = P' → p.2 = x ++ ".<locals>." ++ "<lambda>" := by
  obtain ⟨oc, od, dV, kV, doc, pm, an, cdv, ct, osl, rfl, lk, hcd, _, _⟩ := F.ex
  obtain ⟨c, rfl⟩ := codeIn_ref hcd
  have e1 : codeOf K (x, none) = c := codeOf_eq (p := (x, none)) lk rfl
  have e2 : (cT K (x, none)).1 = c := e1
  refine ⟨c, (cT K (x, none)).2, rfl, by rw [← e2]; exact hT _ hx, List.mem_map.mpr ⟨_, hx, rfl⟩, fun p hp e => ?_⟩
  obtain ⟨q, hq, rfl⟩ := List.mem_map.mp hp
  have := uniq_of (of_decide_eq_true hu) hq hx e
  rw [this]
theorem fa_of {f : Nat} {x : Str} (hx : (n.fns[f]?).join = some x) (hq : (n.mts[f]?).join = none) : (n.L K).R.fa f = ga K x := by
  show (match (n.mts[f]?).join with | some p => ma K (ga K p.1) p.2 | none => ga K (((n.fns[f]?).join).getD "")) = _
  rw [hq, hx]; rfl
theorem fa_met {f : Nat} {p : Str × Str} (hq : (n.mts[f]?).join = some p) : (n.L K).R.fa f = ma K (ga K p.1) p.2 := by
  show (match (n.mts[f]?).join with | some p => ma K (ga K p.1) p.2 | none => ga K (((n.fns[f]?).join).getD "")) = _
  rw [hq]
/-- what FnI asks of a def -/
theorem elt {PR : Dp.Prog} {f : Nat} {x : Str} {st : Stmt} {N ps : List Str} {DF : Dp.FDef} (c : SaysX fa fn ts n.tf ex w h K) (KX : K.In h) (G : h.Ns mainGlobals mg) (hT : ∀ p ∈ n.tf, LamX.TabB base mg (cT K p).1 (cT K p).2) (hm : dmod x st ∈ fn) (hg : Fa.glo x ∈ fa) (hx : (n.fns[f]?).join = some x) (hq : (n.mts[f]?).join = none)
    (hS : fnScB N ps (defScope st) = true) (hd : PR.defs[f]? = some DF) (hN : N.length = DF.ns) (hps : ps.length = DF.np) (hnp : n.nps.getD f 0 = ps.length)
    (hb : ∀ (kV doc pm : Value) (an : Option Addr) (cdv ct : Value) (us : List Value), us.length = ps.length → bindArgs (PySem.W.fnOf x x (defArgs st) (defBody st) (defScope st) .none kV doc pm an cdv ct) ⟨us, []⟩ = pure (ps.zip us))
    (chk : chkSs (n.L K).bare N (defScope st) DF.body (defBody st) = true ∨ (chkSs (n.L K) N (defScope st) DF.body (defBody st) = true ∧ (x, none) ∈ n.tf ∧ uniqB n.tf K = true)) :
    FnE mg base (n.L K) PR f ∧ mg x = some (.ref ((n.L K).R.fa f)) ∧ PySem.W.keepIn K (.ref ((n.L K).R.fa f)) = true := by
  obtain ⟨fd, F⟩ := funD_of c hm
  have ef : (n.L K).R.fa f = ga K x := fa_of hx hq
  refine ⟨⟨x, x, N, ps, defArgs st, defBody st, defScope st, fd, DF, by rw [ef]; exact F, fnScB_ok hS, hd, hN, hps, hnp.symm, F.bindsN hb, ?_⟩, by rw [ef]; exact glo_ok KX G ((SaysT.d c.t).facts hg), by rw [ef]; exact F.kp⟩
  rcases chk with z | ⟨z, h1, h2⟩
  · exact .inl z
  · exact .inr ⟨z, lam_at F h1 h2 hT⟩
/-- .. of a method -/
theorem eltM {PR : Dp.Prog} {f : Nat} {C m q : Str} {st : Stmt} {N ps : List Str} {DF : Dp.FDef} (c : SaysX fa fn ts n.tf ex w h K) (hm : (⟨(C, some m), m, q, defArgs st, defBody st, defScope st, [], []⟩ : DefD) ∈ fn) (hq : (n.mts[f]?).join = some (C, m))
    (hS : fnScB N ps (defScope st) = true) (hd : PR.defs[f]? = some DF) (hN : N.length = DF.ns) (hps : ps.length = DF.np) (hnp : n.nps.getD f 0 = ps.length)
    (hb : ∀ (kV doc pm : Value) (an : Option Addr) (cdv ct : Value) (us : List Value), us.length = ps.length → bindArgs (PySem.W.fnOf m q (defArgs st) (defBody st) (defScope st) .none kV doc pm an cdv ct) ⟨us, []⟩ = pure (ps.zip us))
    (chk : chkSs (n.L K).bare N (defScope st) DF.body (defBody st) = true) : FnE mg base (n.L K) PR f := by
  obtain ⟨fd, F⟩ : ∃ fd, FunD K m q (defArgs st) (defBody st) (defScope st) [] [] (ma K (ga K C) m) fd := SaysD.defs (SaysT.d c.t) hm
  exact ⟨q, m, N, ps, defArgs st, defBody st, defScope st, fd, DF, by rw [fa_met hq]; exact F, fnScB_ok hS, hd, hN, hps, hnp.symm, F.bindsN hb, .inl chk⟩
/-- the defs of the module, the methods: all -/
theorem fnI_of {PR : Dp.Prog} (h1 : ∀ f x, (n.fns[f]?).join = some x → FnE mg base (n.L K) PR f) (h2 : ∀ f p, (n.mts[f]?).join = some p → FnE mg base (n.L K) PR f) : FnI mg base (n.L K) PR := fun f hf => by
  have hf : (((n.fns[f]?).join).isSome || ((n.mts[f]?).join).isSome) = true := hf
  cases e1 : (n.fns[f]?).join with
  | some x => exact h1 f x e1
  | none =>
    cases e2 : (n.mts[f]?).join with
    | some p => exact h2 f p e2
    | none => rw [e1, e2] at hf; cases hf
end
end DpS
namespace DpS
open PySem PySem.Spec L2 He
theorem anOf_at {ats : List Str} {i : Nat} {y : Str} (h : ats[i]? = some y) : anOf ats i = y := by unfold anOf; rw [h]; rfl
theorem dfn_of {K : PySem.W.Frag} {n : LN} {f : Nat} {x : Str} (h : (n.fns[f]?).join = some x) : (n.L K).dfn f = true := by
  show (((n.fns[f]?).join).isSome || ((n.mts[f]?).join).isSome) = true
  rw [h]; rfl
theorem dfn_met {K : PySem.W.Frag} {n : LN} {f : Nat} {p : Str × Str} (h : (n.mts[f]?).join = some p) : (n.L K).dfn f = true := by
  show (((n.fns[f]?).join).isSome || ((n.mts[f]?).join).isSome) = true
  rw [h]; cases (n.fns[f]?).join <;> rfl
theorem mem_of_lookup {α : Type} : ∀ {l : List (Nat × α)} {c : Nat} {f : α}, l.lookup c = some f → (c, f) ∈ l
  | [], c, f, h => by cases h
  | (k, v) :: l, c, f, h => by
    by_cases e : c = k
    · subst e
      have : List.lookup c ((c, v) :: l) = some v := by simp [List.lookup]
      rw [this] at h
      cases h
      exact List.mem_cons_self ..
    · have kb : (c == k) = false := by simpa using e
      rw [List.lookup, kb] at h
      exact List.mem_cons_of_mem _ (mem_of_lookup h)
end DpS
/-! ### a hook that sees the statics, too -/
namespace He
open PySem PySem.Spec
/-- what is looked at -/
def asY (g : Addr → Option Obj) : List Addr := asD g 6 ++ [cStatics]
def obsY (fa : List Fa) (fn : List DefD) (tf : List Defn) (ex : PySem.W.Frag → Bool) (g : Addr → Option Obj) : AlX :=
  let K := frT g (asY g)
  (obsT fa fn [] K, ex K && tabsB g tf K)
theorem saysY {fa : List Fa} {fn : List DefD} {tf : List Defn} {ex : PySem.W.Frag → Bool} {w : World} {h : Heap} (e : obsY fa fn tf ex h.get? = valX fn [] w) : SaysX fa fn [] tf ex w h (frT h.get? (asY h.get?)) := by
  have e1 := congrArg Prod.fst e
  obtain ⟨h1, h2⟩ := ba (show (_ && _) = true from congrArg Prod.snd e)
  have all_ : ∀ d ∈ tf, _ := fun d hd => ba (List.all_eq_true.mp h2 d hd)
  have at_ : ∀ d ∈ tf, ∃ o, h.get? (cT (frT h.get? (asY h.get?)) d).2 = some o ∧ emptyTab o = true := fun d hd => by
    have q := (all_ d hd).2
    split at q
    · rename_i o eo
      exact ⟨o, eo, q⟩
    · exact absurd q Bool.false_ne_true
  constructor
  · exact e1
  · exact h1
  · exact fun d hd => (all_ d hd).1
  · intro d hd
    obtain ⟨o, a, b⟩ := at_ d hd
    exact frT_none a b
  · intro d hd
    obtain ⟨o, a, b⟩ := at_ d hd
    rw [a, emptyTab_eq b]
def hookY (fa : List Fa) (fn : List DefD) (tf : List Defn) (ex : PySem.W.Frag → Bool) : PySem.W.Hook where
  α := AlX
  obs := fun s => obsY fa fn tf ex s.heap.get?
  val := fun w => valX fn [] w
  says := fun w h => ∃ K : PySem.W.Frag, K.In h ∧ SaysX fa fn [] tf ex w h K
  of := fun _ _ e => ⟨_, frT_in, saysY e⟩
  keeps := fun _ _ _ ⟨K, hK, c⟩ k => ⟨K, PySem.W.Frag.In.keeps hK k, { t := c.t, more := c.more, hd := c.hd, out := c.out, empty := fun p hp => k _ _ (c.empty p hp) }⟩
theorem obsY_eq {fa : List Fa} {fn : List DefD} {tf : List Defn} {ex : PySem.W.Frag → Bool} {g : Addr → Option Obj} {s : Shared} (h : ∀ a, g a = s.heap.get? a) : obsY fa fn tf ex g = (hookY fa fn tf ex).obs s := by
  obtain rfl : g = s.heap.get? := funext h
  rfl
end He
end

section
set_option Elab.async false
set_option linter.all false
set_option maxRecDepth 100000
set_option maxHeartbeats 4000000
set_option autoImplicit false
/-! DpB28: a law's end. -/
namespace DpS
open PySem PySem.Spec L2 He
section
variable {K : PySem.W.Frag} {n : LN} {fa : List Fa} {fn : List DefD} {ts : List Tab} {ex : PySem.W.Frag → Bool} {w : World} {h base : Heap} {mg : Str → Option Value}
/-- the law's def: what its row asks -/
theorem law_at {l : PySem.W.OpenLaw} {PR : Dp.Prog} {tl : Nat → Tld} {f m : Nat} {x arg : Str} {st : Stmt} {N : List Str} {DF : Dp.FDef} {g : Addr} (c : SaysX fa fn ts n.tf ex w h K) (KX : K.In h) (G : h.Ns mainGlobals mg) (hm : dmod x st ∈ fn) (hg : Fa.glo x ∈ fa) (hx : (n.fns[f]?).join = some x) (hq : (n.mts[f]?).join = none) (hgm : mg x = some (.ref g))
    (hS : fnScB N [arg] (defScope st) = true) (hd : PR.defs[f]? = some DF) (hN : N.length = DF.ns) (hps : DF.np = 1)
    (hb : ∀ (kV doc pm : Value) (an : Option Addr) (cdv ct : Value) (us : List Value), us.length = [arg].length → bindArgs (PySem.W.fnOf x x (defArgs st) (defBody st) (defScope st) .none kV doc pm an cdv ct) ⟨us, []⟩ = pure ([arg].zip us))
    (chk : chkSs (n.L K).bare N (defScope st) DF.body (defBody st) = true ∨ (chkSs (n.L K) N (defScope st) DF.body (defBody st) = true ∧ (x, none) ∈ n.tf ∧ uniqB n.tf K = true))
    (all : ∀ base : Heap, K.In base → base.Ns mainGlobals mg → (∀ p ∈ n.tf, LamX.TabB base mg (cT K p).1 (cT K p).2) → FnI mg base (n.L K) PR ∧ XcI l.prog w mg base (n.L K) PR ∧ XaI l.prog w mg base (n.L K) PR ∧ TdI l.prog w mg base (n.L K) PR tl ∧ GlobsOk mg (n.L K) (PR.gam (Dp.sem PR 0)))
    (true_ : ∀ ns : List Int, ns.length ≤ 63 → (∀ z ∈ ns, Builtin.Int.intBits z ≤ 1048576) → Dp.sem PR (m + 1) f none [.scr ns] = .ok (.val (.bl true)) none) :
    LamX.LawAtS l w K (L2.CX l.prog w) (4 * m + 2 + 4) 63 arg mg g h := by
  obtain ⟨fd, F⟩ := funD_of c hm
  have eg : g = ga K x := by
    have := hgm.symm.trans (glo_ok KX G ((SaysT.d c.t).facts hg))
    exact Value.ref.inj (Option.some.inj this)
  subst eg
  have ef : (n.L K).R.fa f = ga K x := fa_of hx hq
  refine ⟨fd, n.tf.map (cT K), spD (n.L K).R (n.L K).T (Dp.sem PR (m + 1) f) 1, fun p hp => ?_, fun p hp => ?_, fun p hp => ?_, fun s u => F.bindsA (ps := [arg]) hb s [u] rfl, fun H a ns hl hbits hH hSq => ?_, fun base KB GB TB => ?_⟩
  · obtain ⟨q, hq, rfl⟩ := List.mem_map.mp hp
    exact c.empty q hq
  · obtain ⟨q, hq, rfl⟩ := List.mem_map.mp hp
    exact c.out q hq
  · obtain ⟨q, hq, rfl⟩ := List.mem_map.mp hp
    exact PySem.W.codeHd_of_K KX (c.hd q hq)
  · refine law_sp (L := n.L K) (fun p hp => ?_) hSq (true_ ns hl hbits)
    obtain ⟨q, hq, rfl⟩ := List.mem_map.mp hp
    exact hH _ (List.mem_map.mpr ⟨q, hq, rfl⟩)
  · obtain ⟨I, xc, xa, td, gl⟩ := all base KB GB fun p hp => TB _ (List.mem_map.mpr ⟨p, hp, rfl⟩)
    have := fn_step (L := n.L K) (PR := PR) (tl := tl) (n := m) (k := 4 * m + 2) (f := f) (x := x) (z := x) (N := N) (ps := [arg]) (fd := fd) (DF := DF) (by rw [ef]; exact F) (fnScB_ok hS) hd hN (by rw [hps]; rfl) (chk.elim .inl fun ⟨z, h1, h2⟩ => .inr ⟨z, by rw [ef] at *; exact lam_at (n := n) F h1 h2 fun p hp => TB _ (List.mem_map.mpr ⟨p, hp, rfl⟩)⟩) xc xa td ⟨gl.free, gl.glob, gl.fnm, gl.inj, gl.insts, gl.cnm⟩ (by omega) (fns_all I xc xa td gl m)
    rw [ef] at this
    exact this
/-- a class that is raised with one argument: its own __init__, the field no attribute -/
def clsAB (K : PySem.W.Frag) (x f : Str) : Bool := oexB K (ga K x) && decide (PySem.W.findIn K (.ref (ga K x)) "__init__" = some (some (.ref (ma K (ga K x) "__init__")))) && decide (PySem.W.typeIn K (.ref (ma K (ga K x) "__init__")) = some (.type "function")) && decide (PySem.W.findIn K (.ref (ga K x)) f = some none)
/-- the class CheckError read for its __init__ -/
def ceB (K : PySem.W.Frag) (x : Str) : Bool := PySem.W.readsIn K (ga K x) (.type "type") && decide (PySem.W.specialIn K (.ref (ga K x)) "__getattribute__" = some (some (.builtin "type.__getattribute__"))) && (match PySem.W.findCls K (.ref (ga K x)) (.type "type") "__init__" with
  | some (.val (.ref f)) => decide (f = ma K (ga K x) "__init__")
  | _ => false) && PySem.W.keepIn K (.ref (ma K (ga K x) "__init__"))
theorem ceB_ok {x : Str} (h : ceB K x = true) : ClX.CRead K (ga K x) (.type "type") ∧ ClX.CVal K (ga K x) (.type "type") "__init__" (.ref (ma K (ga K x) "__init__")) (.ref (ma K (ga K x) "__init__")) ∧ PySem.W.keepIn K (.ref (ma K (ga K x) "__init__")) = true := by
  unfold ceB at h
  obtain ⟨h, h4⟩ := band h
  obtain ⟨h, h3⟩ := band h
  obtain ⟨h1, h2⟩ := band h
  refine ⟨⟨h1, dec h2⟩, ⟨?_, rfl⟩, h4⟩
  split at h3
  · rename_i f e
    rw [e, dec h3]
  · cases h3
/-- a class that is raised, by the head's facts -/
def clsB (K : PySem.W.Frag) (x b : Str) : Bool := oexB K (ga K x) && decide (PySem.W.findIn K (.ref (ga K x)) "__init__" = some (some (.ref (ma K (ga K b) "__init__")))) && decide (PySem.W.typeIn K (.ref (ma K (ga K b) "__init__")) = some (.type "function"))
def veB (K : PySem.W.Frag) : Bool := match PySem.W.findCls K (.type "ValueError") (.type "type") "__init__" with
  | some (.val (.builtin i)) => decide (i = "ValueError.__init__")
  | _ => false
theorem veB_ok (h : veB K = true) : PySem.W.findCls K (.type "ValueError") (.type "type") "__init__" = some (.val (.builtin "ValueError.__init__")) := by
  unfold veB at h
  split at h
  · rename_i i e
    rw [e, dec h]
  · cases h
end
end DpS
end

section
set_option Elab.async false
set_option linter.all false
set_option maxRecDepth 100000
set_option maxHeartbeats 0
set_option autoImplicit false
/-! the law k80: its checks (printed by lawgen.py) -/
namespace DpK
open PySem PySem.Spec PyProof.Rows L2 He DpS
abbrev RR : PySem.W.OpenRow := PySem.W.OpenLaw.row PySem.Challenge.rw_checksigns_k80_whole_sheets_with_sums
def top (i : Nat) : Stmt := PySem.Challenge.pw_checksigns_k80_whole_sheets_with_sums.main.body.getD i (.Pass ⟨0, 0, 0, 0⟩)
def clsTop (i j : Nat) : Stmt := match top i with
  | .ClassDef _ _ _ body _ _ _ _ _ _ _ => body.getD j (.Pass ⟨0, 0, 0, 0⟩)
  | _ => .Pass ⟨0, 0, 0, 0⟩
abbrev sO (x : Str) : Option Str := some x
abbrev nO : Option Str := none
def nn : LN where
  cls := ["CheckError", "NoNumber", "TooMany", "NoSheet"]
  fns := [nO, nO, sO "is_integer", sO "is_within", sO "is_tuple", sO "is_sized", sO "check_number", sO "is_sheet", sO "raw_is_sheet", sO "check_sheet", sO "with_sums", sO "left", sO "raw_left", sO "is_good", sO "fewest_unseen", sO "good_many", sO "turned", sO "_law_draw", sO "_law_some", sO "_law_mixed", sO "_law_is", sO "_law_hand", sO "_law_deep", sO "_law_none", sO "_law_sheet", sO "_law_rests", sO "_law_fits", sO "_law_with", sO "_law_summed", sO "_law_spoiled", sO "_law_base", sO "_law_no_sheet", sO "_law_no_base", nO, sO "_law_all_sheets", sO "_law_are_refused", sO "law"]
  mts := [none, none, none, none, none, none, none, none, none, none, none, none, none, none, none, none, none, none, none, none, none, none, none, none, none, none, none, none, none, none, none, none, none, none, none, none, none]
  nps := [1, 2, 1, 3, 2, 3, 3, 2, 2, 2, 2, 2, 2, 2, 1, 3, 2, 2, 2, 2, 2, 1, 1, 1, 4, 2, 2, 4, 2, 4, 1, 2, 1, 1, 3, 2, 1]
  gls := ["MOST_SIDE"]
  tns := [nO, nO, nO, nO, nO, nO, nO, nO, nO, nO, nO, nO, nO, nO, nO, nO, nO, nO, nO, nO, nO, nO, nO, nO, nO, nO, nO, nO, nO, nO, nO, nO, nO, sO "_law_word", nO, nO, nO]
  xns := [nO, sO "NoNumber", nO, sO "NoSheet"]
  xas := [nO, nO, sO "TooMany", nO]
  cns := [nO, nO, nO, nO]
  cps := [0, 0, 0, 0]
  ats := ["most"]
  tf := [("_law_are_refused", none)]
def N2 : List Str := ["thing"]
def P2 : List Str := ["thing"]
theorem c2 (K : PySem.W.Frag) : chkSs (nn.L K).bare N2 (defScope (top 6)) d2.body (defBody (top 6)) = true := by kernel_rfl
theorem s2 : fnScB N2 P2 (defScope (top 6)) = true := by kernel_rfl
theorem b2_ (kV doc pm : Value) (an : Option Addr) (cdv ct : Value) (us : List Value) (hl : us.length = P2.length) : bindArgs (PySem.W.fnOf "is_integer" "is_integer" (defArgs (top 6)) (defBody (top 6)) (defScope (top 6)) .none kV doc pm an cdv ct) ⟨us, []⟩ = pure (P2.zip us) :=
  match us, hl with | [_], _ => rfl
def N3 : List Str := ["thing", "least", "most"]
def P3 : List Str := ["thing", "least", "most"]
theorem c3 (K : PySem.W.Frag) : chkSs (nn.L K).bare N3 (defScope (top 7)) d3.body (defBody (top 7)) = true := by kernel_rfl
theorem s3 : fnScB N3 P3 (defScope (top 7)) = true := by kernel_rfl
theorem b3_ (kV doc pm : Value) (an : Option Addr) (cdv ct : Value) (us : List Value) (hl : us.length = P3.length) : bindArgs (PySem.W.fnOf "is_within" "is_within" (defArgs (top 7)) (defBody (top 7)) (defScope (top 7)) .none kV doc pm an cdv ct) ⟨us, []⟩ = pure (P3.zip us) :=
  match us, hl with | [_, _, _], _ => rfl
def N4 : List Str := ["thing", "size"]
def P4 : List Str := ["thing", "size"]
theorem c4 (K : PySem.W.Frag) : chkSs (nn.L K).bare N4 (defScope (top 8)) d4.body (defBody (top 8)) = true := by kernel_rfl
theorem s4 : fnScB N4 P4 (defScope (top 8)) = true := by kernel_rfl
theorem b4_ (kV doc pm : Value) (an : Option Addr) (cdv ct : Value) (us : List Value) (hl : us.length = P4.length) : bindArgs (PySem.W.fnOf "is_tuple" "is_tuple" (defArgs (top 8)) (defBody (top 8)) (defScope (top 8)) .none kV doc pm an cdv ct) ⟨us, []⟩ = pure (P4.zip us) :=
  match us, hl with | [_, _], _ => rfl
def N5 : List Str := ["thing", "least", "most"]
def P5 : List Str := ["thing", "least", "most"]
theorem c5 (K : PySem.W.Frag) : chkSs (nn.L K).bare N5 (defScope (top 9)) d5.body (defBody (top 9)) = true := by kernel_rfl
theorem s5 : fnScB N5 P5 (defScope (top 9)) = true := by kernel_rfl
theorem b5_ (kV doc pm : Value) (an : Option Addr) (cdv ct : Value) (us : List Value) (hl : us.length = P5.length) : bindArgs (PySem.W.fnOf "is_sized" "is_sized" (defArgs (top 9)) (defBody (top 9)) (defScope (top 9)) .none kV doc pm an cdv ct) ⟨us, []⟩ = pure (P5.zip us) :=
  match us, hl with | [_, _, _], _ => rfl
def N6 : List Str := ["thing", "least", "most"]
def P6 : List Str := ["thing", "least", "most"]
theorem c6 (K : PySem.W.Frag) : chkSs (nn.L K).bare N6 (defScope (top 10)) d6.body (defBody (top 10)) = true := by kernel_rfl
theorem s6 : fnScB N6 P6 (defScope (top 10)) = true := by kernel_rfl
theorem b6_ (kV doc pm : Value) (an : Option Addr) (cdv ct : Value) (us : List Value) (hl : us.length = P6.length) : bindArgs (PySem.W.fnOf "check_number" "check_number" (defArgs (top 10)) (defBody (top 10)) (defScope (top 10)) .none kV doc pm an cdv ct) ⟨us, []⟩ = pure (P6.zip us) :=
  match us, hl with | [_, _, _], _ => rfl
def N7 : List Str := ["signs", "thing"]
def P7 : List Str := ["signs", "thing"]
theorem c7 (K : PySem.W.Frag) : chkSs (nn.L K).bare N7 (defScope (top 13)) d7.body (defBody (top 13)) = true := by kernel_rfl
theorem s7 : fnScB N7 P7 (defScope (top 13)) = true := by kernel_rfl
theorem b7_ (kV doc pm : Value) (an : Option Addr) (cdv ct : Value) (us : List Value) (hl : us.length = P7.length) : bindArgs (PySem.W.fnOf "is_sheet" "is_sheet" (defArgs (top 13)) (defBody (top 13)) (defScope (top 13)) .none kV doc pm an cdv ct) ⟨us, []⟩ = pure (P7.zip us) :=
  match us, hl with | [_, _], _ => rfl
def N8 : List Str := ["signs", "thing", "row", "one"]
def P8 : List Str := ["signs", "thing"]
theorem c8 (K : PySem.W.Frag) : chkSs (nn.L K).bare N8 (defScope (top 14)) d8.body (defBody (top 14)) = true := by kernel_rfl
theorem s8 : fnScB N8 P8 (defScope (top 14)) = true := by kernel_rfl
theorem b8_ (kV doc pm : Value) (an : Option Addr) (cdv ct : Value) (us : List Value) (hl : us.length = P8.length) : bindArgs (PySem.W.fnOf "raw_is_sheet" "raw_is_sheet" (defArgs (top 14)) (defBody (top 14)) (defScope (top 14)) .none kV doc pm an cdv ct) ⟨us, []⟩ = pure (P8.zip us) :=
  match us, hl with | [_, _], _ => rfl
def N9 : List Str := ["signs", "thing"]
def P9 : List Str := ["signs", "thing"]
theorem c9 (K : PySem.W.Frag) : chkSs (nn.L K).bare N9 (defScope (top 15)) d9.body (defBody (top 15)) = true := by kernel_rfl
theorem s9 : fnScB N9 P9 (defScope (top 15)) = true := by kernel_rfl
theorem b9_ (kV doc pm : Value) (an : Option Addr) (cdv ct : Value) (us : List Value) (hl : us.length = P9.length) : bindArgs (PySem.W.fnOf "check_sheet" "check_sheet" (defArgs (top 15)) (defBody (top 15)) (defScope (top 15)) .none kV doc pm an cdv ct) ⟨us, []⟩ = pure (P9.zip us) :=
  match us, hl with | [_, _], _ => rfl
def N10 : List Str := ["signs", "sheet", "rows", "row", "last", "at"]
def P10 : List Str := ["signs", "sheet"]
theorem c10 (K : PySem.W.Frag) : chkSs (nn.L K).bare N10 (defScope (top 16)) d10.body (defBody (top 16)) = true := by kernel_rfl
theorem s10 : fnScB N10 P10 (defScope (top 16)) = true := by kernel_rfl
theorem b10_ (kV doc pm : Value) (an : Option Addr) (cdv ct : Value) (us : List Value) (hl : us.length = P10.length) : bindArgs (PySem.W.fnOf "with_sums" "with_sums" (defArgs (top 16)) (defBody (top 16)) (defScope (top 16)) .none kV doc pm an cdv ct) ⟨us, []⟩ = pure (P10.zip us) :=
  match us, hl with | [_, _], _ => rfl
def N11 : List Str := ["signs", "sheet"]
def P11 : List Str := ["signs", "sheet"]
theorem c11 (K : PySem.W.Frag) : chkSs (nn.L K).bare N11 (defScope (top 17)) d11.body (defBody (top 17)) = true := by kernel_rfl
theorem s11 : fnScB N11 P11 (defScope (top 17)) = true := by kernel_rfl
theorem b11_ (kV doc pm : Value) (an : Option Addr) (cdv ct : Value) (us : List Value) (hl : us.length = P11.length) : bindArgs (PySem.W.fnOf "left" "left" (defArgs (top 17)) (defBody (top 17)) (defScope (top 17)) .none kV doc pm an cdv ct) ⟨us, []⟩ = pure (P11.zip us) :=
  match us, hl with | [_, _], _ => rfl
def N12 : List Str := ["signs", "sheet", "rows", "row", "at"]
def P12 : List Str := ["signs", "sheet"]
theorem c12 (K : PySem.W.Frag) : chkSs (nn.L K).bare N12 (defScope (top 18)) d12.body (defBody (top 18)) = true := by kernel_rfl
theorem s12 : fnScB N12 P12 (defScope (top 18)) = true := by kernel_rfl
theorem b12_ (kV doc pm : Value) (an : Option Addr) (cdv ct : Value) (us : List Value) (hl : us.length = P12.length) : bindArgs (PySem.W.fnOf "raw_left" "raw_left" (defArgs (top 18)) (defBody (top 18)) (defScope (top 18)) .none kV doc pm an cdv ct) ⟨us, []⟩ = pure (P12.zip us) :=
  match us, hl with | [_, _], _ => rfl
def N13 : List Str := ["signs", "thing", "rows", "columns"]
def P13 : List Str := ["signs", "thing"]
theorem c13 (K : PySem.W.Frag) : chkSs (nn.L K).bare N13 (defScope (top 19)) d13.body (defBody (top 19)) = true := by kernel_rfl
theorem s13 : fnScB N13 P13 (defScope (top 19)) = true := by kernel_rfl
theorem b13_ (kV doc pm : Value) (an : Option Addr) (cdv ct : Value) (us : List Value) (hl : us.length = P13.length) : bindArgs (PySem.W.fnOf "is_good" "is_good" (defArgs (top 19)) (defBody (top 19)) (defScope (top 19)) .none kV doc pm an cdv ct) ⟨us, []⟩ = pure (P13.zip us) :=
  match us, hl with | [_, _], _ => rfl
def N14 : List Str := ["signs"]
def P14 : List Str := ["signs"]
theorem c14 (K : PySem.W.Frag) : chkSs (nn.L K).bare N14 (defScope (top 20)) d14.body (defBody (top 20)) = true := by kernel_rfl
theorem s14 : fnScB N14 P14 (defScope (top 20)) = true := by kernel_rfl
theorem b14_ (kV doc pm : Value) (an : Option Addr) (cdv ct : Value) (us : List Value) (hl : us.length = P14.length) : bindArgs (PySem.W.fnOf "fewest_unseen" "fewest_unseen" (defArgs (top 20)) (defBody (top 20)) (defScope (top 20)) .none kV doc pm an cdv ct) ⟨us, []⟩ = pure (P14.zip us) :=
  match us, hl with | [_], _ => rfl
def N15 : List Str := ["signs", "high", "wide", "found", "turn"]
def P15 : List Str := ["signs", "high", "wide"]
theorem c15 (K : PySem.W.Frag) : chkSs (nn.L K).bare N15 (defScope (top 21)) d15.body (defBody (top 21)) = true := by kernel_rfl
theorem s15 : fnScB N15 P15 (defScope (top 21)) = true := by kernel_rfl
theorem b15_ (kV doc pm : Value) (an : Option Addr) (cdv ct : Value) (us : List Value) (hl : us.length = P15.length) : bindArgs (PySem.W.fnOf "good_many" "good_many" (defArgs (top 21)) (defBody (top 21)) (defScope (top 21)) .none kV doc pm an cdv ct) ⟨us, []⟩ = pure (P15.zip us) :=
  match us, hl with | [_, _, _], _ => rfl
def N16 : List Str := ["signs", "sheet", "row", "at"]
def P16 : List Str := ["signs", "sheet"]
theorem c16 (K : PySem.W.Frag) : chkSs (nn.L K).bare N16 (defScope (top 22)) d16.body (defBody (top 22)) = true := by kernel_rfl
theorem s16 : fnScB N16 P16 (defScope (top 22)) = true := by kernel_rfl
theorem b16_ (kV doc pm : Value) (an : Option Addr) (cdv ct : Value) (us : List Value) (hl : us.length = P16.length) : bindArgs (PySem.W.fnOf "turned" "turned" (defArgs (top 22)) (defBody (top 22)) (defScope (top 22)) .none kV doc pm an cdv ct) ⟨us, []⟩ = pure (P16.zip us) :=
  match us, hl with | [_, _], _ => rfl
def N17 : List Str := ["hand", "span", "cell", "digit", "number"]
def P17 : List Str := ["hand", "span"]
theorem c17 (K : PySem.W.Frag) : chkSs (nn.L K).bare N17 (defScope (top 24)) d17.body (defBody (top 24)) = true := by kernel_rfl
theorem s17 : fnScB N17 P17 (defScope (top 24)) = true := by kernel_rfl
theorem b17_ (kV doc pm : Value) (an : Option Addr) (cdv ct : Value) (us : List Value) (hl : us.length = P17.length) : bindArgs (PySem.W.fnOf "_law_draw" "_law_draw" (defArgs (top 24)) (defBody (top 24)) (defScope (top 24)) .none kV doc pm an cdv ct) ⟨us, []⟩ = pure (P17.zip us) :=
  match us, hl with | [_, _], _ => rfl
def N18 : List Str := ["hand", "things"]
def P18 : List Str := ["hand", "things"]
theorem c18 (K : PySem.W.Frag) : chkSs (nn.L K).bare N18 (defScope (top 25)) d18.body (defBody (top 25)) = true := by kernel_rfl
theorem s18 : fnScB N18 P18 (defScope (top 25)) = true := by kernel_rfl
theorem b18_ (kV doc pm : Value) (an : Option Addr) (cdv ct : Value) (us : List Value) (hl : us.length = P18.length) : bindArgs (PySem.W.fnOf "_law_some" "_law_some" (defArgs (top 25)) (defBody (top 25)) (defScope (top 25)) .none kV doc pm an cdv ct) ⟨us, []⟩ = pure (P18.zip us) :=
  match us, hl with | [_, _], _ => rfl
def N19 : List Str := ["hand", "things", "rest_now", "found"]
def P19 : List Str := ["hand", "things"]
theorem c19 (K : PySem.W.Frag) : chkSs (nn.L K).bare N19 (defScope (top 26)) d19.body (defBody (top 26)) = true := by kernel_rfl
theorem s19 : fnScB N19 P19 (defScope (top 26)) = true := by kernel_rfl
theorem b19_ (kV doc pm : Value) (an : Option Addr) (cdv ct : Value) (us : List Value) (hl : us.length = P19.length) : bindArgs (PySem.W.fnOf "_law_mixed" "_law_mixed" (defArgs (top 26)) (defBody (top 26)) (defScope (top 26)) .none kV doc pm an cdv ct) ⟨us, []⟩ = pure (P19.zip us) :=
  match us, hl with | [_, _], _ => rfl
def N20 : List Str := ["thing", "due", "one", "other"]
def P20 : List Str := ["thing", "due"]
theorem c20 (K : PySem.W.Frag) : chkSs (nn.L K).bare N20 (defScope (top 27)) d20.body (defBody (top 27)) = true := by kernel_rfl
theorem s20 : fnScB N20 P20 (defScope (top 27)) = true := by kernel_rfl
theorem b20_ (kV doc pm : Value) (an : Option Addr) (cdv ct : Value) (us : List Value) (hl : us.length = P20.length) : bindArgs (PySem.W.fnOf "_law_is" "_law_is" (defArgs (top 27)) (defBody (top 27)) (defScope (top 27)) .none kV doc pm an cdv ct) ⟨us, []⟩ = pure (P20.zip us) :=
  match us, hl with | [_, _], _ => rfl
def N21 : List Str := ["script", "cells", "cell"]
def P21 : List Str := ["script"]
theorem c21 (K : PySem.W.Frag) : chkSs (nn.L K).bare N21 (defScope (top 28)) d21.body (defBody (top 28)) = true := by kernel_rfl
theorem s21 : fnScB N21 P21 (defScope (top 28)) = true := by kernel_rfl
theorem b21_ (kV doc pm : Value) (an : Option Addr) (cdv ct : Value) (us : List Value) (hl : us.length = P21.length) : bindArgs (PySem.W.fnOf "_law_hand" "_law_hand" (defArgs (top 28)) (defBody (top 28)) (defScope (top 28)) .none kV doc pm an cdv ct) ⟨us, []⟩ = pure (P21.zip us) :=
  match us, hl with | [_], _ => rfl
def N22 : List Str := ["hand", "thing", "lap"]
def P22 : List Str := ["hand"]
theorem c22 (K : PySem.W.Frag) : chkSs (nn.L K).bare N22 (defScope (top 29)) d22.body (defBody (top 29)) = true := by kernel_rfl
theorem s22 : fnScB N22 P22 (defScope (top 29)) = true := by kernel_rfl
theorem b22_ (kV doc pm : Value) (an : Option Addr) (cdv ct : Value) (us : List Value) (hl : us.length = P22.length) : bindArgs (PySem.W.fnOf "_law_deep" "_law_deep" (defArgs (top 29)) (defBody (top 29)) (defScope (top 29)) .none kV doc pm an cdv ct) ⟨us, []⟩ = pure (P22.zip us) :=
  match us, hl with | [_], _ => rfl
def N23 : List Str := ["hand"]
def P23 : List Str := ["hand"]
theorem c23 (K : PySem.W.Frag) : chkSs (nn.L K).bare N23 (defScope (top 30)) d23.body (defBody (top 30)) = true := by kernel_rfl
theorem s23 : fnScB N23 P23 (defScope (top 30)) = true := by kernel_rfl
theorem b23_ (kV doc pm : Value) (an : Option Addr) (cdv ct : Value) (us : List Value) (hl : us.length = P23.length) : bindArgs (PySem.W.fnOf "_law_none" "_law_none" (defArgs (top 30)) (defBody (top 30)) (defScope (top 30)) .none kV doc pm an cdv ct) ⟨us, []⟩ = pure (P23.zip us) :=
  match us, hl with | [_], _ => rfl
def N24 : List Str := ["hand", "base_now", "high", "wide", "column", "line"]
def P24 : List Str := ["hand", "base_now", "high", "wide"]
theorem c24 (K : PySem.W.Frag) : chkSs (nn.L K).bare N24 (defScope (top 31)) d24.body (defBody (top 31)) = true := by kernel_rfl
theorem s24 : fnScB N24 P24 (defScope (top 31)) = true := by kernel_rfl
theorem b24_ (kV doc pm : Value) (an : Option Addr) (cdv ct : Value) (us : List Value) (hl : us.length = P24.length) : bindArgs (PySem.W.fnOf "_law_sheet" "_law_sheet" (defArgs (top 31)) (defBody (top 31)) (defScope (top 31)) .none kV doc pm an cdv ct) ⟨us, []⟩ = pure (P24.zip us) :=
  match us, hl with | [_, _, _, _], _ => rfl
def N25 : List Str := ["base_now", "board", "lines", "line", "at"]
def P25 : List Str := ["base_now", "board"]
theorem c25 (K : PySem.W.Frag) : chkSs (nn.L K).bare N25 (defScope (top 32)) d25.body (defBody (top 32)) = true := by kernel_rfl
theorem s25 : fnScB N25 P25 (defScope (top 32)) = true := by kernel_rfl
theorem b25_ (kV doc pm : Value) (an : Option Addr) (cdv ct : Value) (us : List Value) (hl : us.length = P25.length) : bindArgs (PySem.W.fnOf "_law_rests" "_law_rests" (defArgs (top 32)) (defBody (top 32)) (defScope (top 32)) .none kV doc pm an cdv ct) ⟨us, []⟩ = pure (P25.zip us) :=
  match us, hl with | [_, _], _ => rfl
def N26 : List Str := ["base_now", "board", "lines", "columns"]
def P26 : List Str := ["base_now", "board"]
theorem c26 (K : PySem.W.Frag) : chkSs (nn.L K).bare N26 (defScope (top 33)) d26.body (defBody (top 33)) = true := by kernel_rfl
theorem s26 : fnScB N26 P26 (defScope (top 33)) = true := by kernel_rfl
theorem b26_ (kV doc pm : Value) (an : Option Addr) (cdv ct : Value) (us : List Value) (hl : us.length = P26.length) : bindArgs (PySem.W.fnOf "_law_fits" "_law_fits" (defArgs (top 33)) (defBody (top 33)) (defScope (top 33)) .none kV doc pm an cdv ct) ⟨us, []⟩ = pure (P26.zip us) :=
  match us, hl with | [_, _], _ => rfl
def N27 : List Str := ["board", "at", "to", "sign", "line"]
def P27 : List Str := ["board", "at", "to", "sign"]
theorem c27 (K : PySem.W.Frag) : chkSs (nn.L K).bare N27 (defScope (top 34)) d27.body (defBody (top 34)) = true := by kernel_rfl
theorem s27 : fnScB N27 P27 (defScope (top 34)) = true := by kernel_rfl
theorem b27_ (kV doc pm : Value) (an : Option Addr) (cdv ct : Value) (us : List Value) (hl : us.length = P27.length) : bindArgs (PySem.W.fnOf "_law_with" "_law_with" (defArgs (top 34)) (defBody (top 34)) (defScope (top 34)) .none kV doc pm an cdv ct) ⟨us, []⟩ = pure (P27.zip us) :=
  match us, hl with | [_, _, _, _], _ => rfl
def N28 : List Str := ["base_now", "board", "found", "line", "below", "at"]
def P28 : List Str := ["base_now", "board"]
theorem c28 (K : PySem.W.Frag) : chkSs (nn.L K).bare N28 (defScope (top 35)) d28.body (defBody (top 35)) = true := by kernel_rfl
theorem s28 : fnScB N28 P28 (defScope (top 35)) = true := by kernel_rfl
theorem b28_ (kV doc pm : Value) (an : Option Addr) (cdv ct : Value) (us : List Value) (hl : us.length = P28.length) : bindArgs (PySem.W.fnOf "_law_summed" "_law_summed" (defArgs (top 35)) (defBody (top 35)) (defScope (top 35)) .none kV doc pm an cdv ct) ⟨us, []⟩ = pure (P28.zip us) :=
  match us, hl with | [_, _], _ => rfl
def N29 : List Str := ["hand", "base_now", "board", "many", "cells", "at", "to"]
def P29 : List Str := ["hand", "base_now", "board", "many"]
theorem c29 (K : PySem.W.Frag) : chkSs (nn.L K).bare N29 (defScope (top 36)) d29.body (defBody (top 36)) = true := by kernel_rfl
theorem s29 : fnScB N29 P29 (defScope (top 36)) = true := by kernel_rfl
theorem b29_ (kV doc pm : Value) (an : Option Addr) (cdv ct : Value) (us : List Value) (hl : us.length = P29.length) : bindArgs (PySem.W.fnOf "_law_spoiled" "_law_spoiled" (defArgs (top 36)) (defBody (top 36)) (defScope (top 36)) .none kV doc pm an cdv ct) ⟨us, []⟩ = pure (P29.zip us) :=
  match us, hl with | [_, _, _, _], _ => rfl
def N30 : List Str := ["hand"]
def P30 : List Str := ["hand"]
theorem c30 (K : PySem.W.Frag) : chkSs (nn.L K).bare N30 (defScope (top 37)) d30.body (defBody (top 37)) = true := by kernel_rfl
theorem s30 : fnScB N30 P30 (defScope (top 37)) = true := by kernel_rfl
theorem b30_ (kV doc pm : Value) (an : Option Addr) (cdv ct : Value) (us : List Value) (hl : us.length = P30.length) : bindArgs (PySem.W.fnOf "_law_base" "_law_base" (defArgs (top 37)) (defBody (top 37)) (defScope (top 37)) .none kV doc pm an cdv ct) ⟨us, []⟩ = pure (P30.zip us) :=
  match us, hl with | [_], _ => rfl
def N31 : List Str := ["hand", "base_now", "some"]
def P31 : List Str := ["hand", "base_now"]
theorem c31 (K : PySem.W.Frag) : chkSs (nn.L K).bare N31 (defScope (top 38)) d31.body (defBody (top 38)) = true := by kernel_rfl
theorem s31 : fnScB N31 P31 (defScope (top 38)) = true := by kernel_rfl
theorem b31_ (kV doc pm : Value) (an : Option Addr) (cdv ct : Value) (us : List Value) (hl : us.length = P31.length) : bindArgs (PySem.W.fnOf "_law_no_sheet" "_law_no_sheet" (defArgs (top 38)) (defBody (top 38)) (defScope (top 38)) .none kV doc pm an cdv ct) ⟨us, []⟩ = pure (P31.zip us) :=
  match us, hl with | [_, _], _ => rfl
def N32 : List Str := ["hand"]
def P32 : List Str := ["hand"]
theorem c32 (K : PySem.W.Frag) : chkSs (nn.L K).bare N32 (defScope (top 39)) d32.body (defBody (top 39)) = true := by kernel_rfl
theorem s32 : fnScB N32 P32 (defScope (top 39)) = true := by kernel_rfl
theorem b32_ (kV doc pm : Value) (an : Option Addr) (cdv ct : Value) (us : List Value) (hl : us.length = P32.length) : bindArgs (PySem.W.fnOf "_law_no_base" "_law_no_base" (defArgs (top 39)) (defBody (top 39)) (defScope (top 39)) .none kV doc pm an cdv ct) ⟨us, []⟩ = pure (P32.zip us) :=
  match us, hl with | [_], _ => rfl
def N34 : List Str := ["base_now", "high", "wide", "rows", "cell", "longer", "row", "one", "at"]
def P34 : List Str := ["base_now", "high", "wide"]
theorem c34 (K : PySem.W.Frag) : chkSs (nn.L K).bare N34 (defScope (top 41)) d34.body (defBody (top 41)) = true := by kernel_rfl
theorem s34 : fnScB N34 P34 (defScope (top 41)) = true := by kernel_rfl
theorem b34_ (kV doc pm : Value) (an : Option Addr) (cdv ct : Value) (us : List Value) (hl : us.length = P34.length) : bindArgs (PySem.W.fnOf "_law_all_sheets" "_law_all_sheets" (defArgs (top 41)) (defBody (top 41)) (defScope (top 41)) .none kV doc pm an cdv ct) ⟨us, []⟩ = pure (P34.zip us) :=
  match us, hl with | [_, _, _], _ => rfl
def N35 : List Str := ["hand", "base_now", "bad", "none", "named", "asked", "one", "great"]
def P35 : List Str := ["hand", "base_now"]
theorem c35 (K : PySem.W.Frag) : chkSs (nn.L K) N35 (defScope (top 42)) d35.body (defBody (top 42)) = true := by kernel_rfl
theorem s35 : fnScB N35 P35 (defScope (top 42)) = true := by kernel_rfl
theorem b35_ (kV doc pm : Value) (an : Option Addr) (cdv ct : Value) (us : List Value) (hl : us.length = P35.length) : bindArgs (PySem.W.fnOf "_law_are_refused" "_law_are_refused" (defArgs (top 42)) (defBody (top 42)) (defScope (top 42)) .none kV doc pm an cdv ct) ⟨us, []⟩ = pure (P35.zip us) :=
  match us, hl with | [_, _], _ => rfl
def N36 : List Str := ["script", "hand", "known", "step", "base_now", "board", "good", "one", "around", "line", "at", "high", "wide", "some"]
def P36 : List Str := ["script"]
theorem c36 (K : PySem.W.Frag) : chkSs (nn.L K).bare N36 (defScope (top 43)) d36.body (defBody (top 43)) = true := by kernel_rfl
theorem s36 : fnScB N36 P36 (defScope (top 43)) = true := by kernel_rfl
theorem b36_ (kV doc pm : Value) (an : Option Addr) (cdv ct : Value) (us : List Value) (hl : us.length = P36.length) : bindArgs (PySem.W.fnOf "law" "law" (defArgs (top 43)) (defBody (top 43)) (defScope (top 43)) .none kV doc pm an cdv ct) ⟨us, []⟩ = pure (P36.zip us) :=
  match us, hl with | [_], _ => rfl
end DpK
end

section
set_option Elab.async false
set_option linter.all false
set_option maxRecDepth 100000
set_option maxHeartbeats 0
set_option autoImplicit false
namespace DpK
open PySem PySem.Spec PyProof.Rows L2 He DpS
/-! the head's facts (printed by lawgen.py) -/
def dInit : DefD := ⟨("CheckError", some "__init__"), "__init__", "CheckError.__init__", defArgs (clsTop 1 0), defBody (clsTop 1 0), defScope (clsTop 1 0), [], []⟩
def dMet (C : Str) (q : Str) (i j : Nat) : DefD := ⟨(C, some "__init__"), "__init__", q, defArgs (clsTop i j), defBody (clsTop i j), defScope (clsTop i j), [], []⟩
def fnL : List DefD := [dmod "is_integer" (top 6), dmod "is_within" (top 7), dmod "is_tuple" (top 8), dmod "is_sized" (top 9), dmod "check_number" (top 10), dmod "is_sheet" (top 13), dmod "raw_is_sheet" (top 14), dmod "check_sheet" (top 15), dmod "with_sums" (top 16), dmod "left" (top 17), dmod "raw_left" (top 18), dmod "is_good" (top 19), dmod "fewest_unseen" (top 20), dmod "good_many" (top 21), dmod "turned" (top 22), dmod "_law_draw" (top 24), dmod "_law_some" (top 25), dmod "_law_mixed" (top 26), dmod "_law_is" (top 27), dmod "_law_hand" (top 28), dmod "_law_deep" (top 29), dmod "_law_none" (top 30), dmod "_law_sheet" (top 31), dmod "_law_rests" (top 32), dmod "_law_fits" (top 33), dmod "_law_with" (top 34), dmod "_law_summed" (top 35), dmod "_law_spoiled" (top 36), dmod "_law_base" (top 37), dmod "_law_no_sheet" (top 38), dmod "_law_no_base" (top 39), dmod "_law_word" (top 40), dmod "_law_all_sheets" (top 41), dmod "_law_are_refused" (top 42), dmod "law" (top 43), dInit, dMet "TooMany" "TooMany.__init__" 3 0]
def faL : List Fa := [.int "MOST_SIDE" 8, .glo "CheckError", .glo "NoNumber", .glo "NoSheet", .glo "TooMany"] ++ bnames.map .free ++ [.free "ValueError"] ++ (fnL.filterMap fun d => match d.at_ with | (x, none) => some (.glo x) | _ => none)
def exOne (K : PySem.W.Frag) (x : Str) : Bool := clsB K x "CheckError" && excCB K (ga K x) && decide (PySem.W.exmOne K (.ref (ga K x)) (.ref (ga K "CheckError")) = some true) && decide (PySem.W.kitOne K (.ref (ga K x)) (.type "ValueError") = some true)
def exTwo (K : PySem.W.Frag) (x y : Str) (b : Bool) : Bool := decide (PySem.W.kitOne K (.ref (ga K x)) (.ref (ga K y)) = some b)
def exOneA (K : PySem.W.Frag) (q : Str × Str) : Bool := clsAB K q.1 q.2 && excCB K (ga K q.1) && decide (PySem.W.exmOne K (.ref (ga K q.1)) (.ref (ga K "CheckError")) = some true) && decide (PySem.W.kitOne K (.ref (ga K q.1)) (.type "ValueError") = some true)
def xNames : List Str := ["NoNumber", "NoSheet"]
def aNames : List (Str × Str) := [("TooMany", "most")]
def zNames : List Str := xNames ++ aNames.map (·.1)
def exL (K : PySem.W.Frag) : Bool := veB K && uniqB nn.tf K && xNames.all (exOne K) && (zNames.all fun x => zNames.all fun y => exTwo K x y (x == y)) && aNames.all (exOneA K) && (aNames.isEmpty || ceB K "CheckError")
abbrev hk : PySem.W.Hook := hookY faL fnL nn.tf exL
def ob (s : PySem.W.SharedT) : AlX := obsY faL fnL nn.tf exL (HandSHeadRun.getT s)
theorem ob_eq (s : PySem.W.SharedT) : ob s = hk.obs s.abs := obsY_eq (HandSHeadRun.getT_eq s)
def loose : List Str := [("CheckError" : PySem.Str), ("NoNumber" : PySem.Str), ("TooMany" : PySem.Str), ("NoSheet" : PySem.Str), ("is_integer" : PySem.Str), ("is_within" : PySem.Str), ("is_tuple" : PySem.Str), ("is_sized" : PySem.Str), ("check_number" : PySem.Str), ("MOST_SIDE" : PySem.Str), ("is_sheet" : PySem.Str), ("raw_is_sheet" : PySem.Str), ("check_sheet" : PySem.Str), ("with_sums" : PySem.Str), ("left" : PySem.Str), ("raw_left" : PySem.Str), ("is_good" : PySem.Str), ("fewest_unseen" : PySem.Str), ("good_many" : PySem.Str), ("turned" : PySem.Str), ("_law_draw" : PySem.Str), ("_law_some" : PySem.Str), ("_law_mixed" : PySem.Str), ("_law_is" : PySem.Str), ("_law_hand" : PySem.Str), ("_law_deep" : PySem.Str), ("_law_none" : PySem.Str), ("_law_sheet" : PySem.Str), ("_law_rests" : PySem.Str), ("_law_fits" : PySem.Str), ("_law_with" : PySem.Str), ("_law_summed" : PySem.Str), ("_law_spoiled" : PySem.Str), ("_law_base" : PySem.Str), ("_law_no_sheet" : PySem.Str), ("_law_no_base" : PySem.Str), ("_law_word" : PySem.Str), ("_law_all_sheets" : PySem.Str), ("_law_are_refused" : PySem.Str)]
theorem run (w : World) : HandSHeadRun.RunEq RR (PySem.W.view RR.prog [43]) hk ob 20000 [("CheckError" : PySem.Str), ("NoNumber" : PySem.Str), ("TooMany" : PySem.Str), ("NoSheet" : PySem.Str), ("is_integer" : PySem.Str), ("is_within" : PySem.Str), ("is_tuple" : PySem.Str), ("is_sized" : PySem.Str), ("check_number" : PySem.Str), ("MOST_SIDE" : PySem.Str), ("is_sheet" : PySem.Str), ("raw_is_sheet" : PySem.Str), ("check_sheet" : PySem.Str), ("with_sums" : PySem.Str), ("left" : PySem.Str), ("raw_left" : PySem.Str), ("is_good" : PySem.Str), ("fewest_unseen" : PySem.Str), ("good_many" : PySem.Str), ("turned" : PySem.Str), ("_law_draw" : PySem.Str), ("_law_some" : PySem.Str), ("_law_mixed" : PySem.Str), ("_law_is" : PySem.Str), ("_law_hand" : PySem.Str), ("_law_deep" : PySem.Str), ("_law_none" : PySem.Str), ("_law_sheet" : PySem.Str), ("_law_rests" : PySem.Str), ("_law_fits" : PySem.Str), ("_law_with" : PySem.Str), ("_law_summed" : PySem.Str), ("_law_spoiled" : PySem.Str), ("_law_base" : PySem.Str), ("_law_no_sheet" : PySem.Str), ("_law_no_base" : PySem.Str), ("_law_word" : PySem.Str), ("_law_all_sheets" : PySem.Str), ("_law_are_refused" : PySem.Str)] w := by
  intro os
  kernel_rfl
section
variable {P : Program} {K : PySem.W.Frag} {w : World} {h base : Heap} {mg : Str → Option Value} {fuel : Nat}
theorem fact (c : SaysX faL fnL [] nn.tf exL w h K) {f : Fa} (hf : f ∈ faL) : f.ok K = true := (SaysT.d c.t).facts hf
theorem mem_fa {f : Fa} (i : Nat) (e : faL[i]? = some f) : f ∈ faL := List.mem_of_getElem? e
theorem free_at (c : SaysX faL fnL [] nn.tf exL w h K) (KX : K.In h) (G : h.Ns mainGlobals mg) {x : Str} (hx : x ∈ bnames) : mg x = none :=
  free_ok KX G (fact c (f := .free x) (List.mem_append_left _ (List.mem_append_left _ (List.mem_append_right _ (List.mem_map.mpr ⟨x, hx, rfl⟩)))))
theorem freeVE (c : SaysX faL fnL [] nn.tf exL w h K) (KX : K.In h) (G : h.Ns mainGlobals mg) : mg "ValueError" = none :=
  free_ok KX G (fact c (f := .free "ValueError") (List.mem_append_left _ (List.mem_append_right _ (List.mem_singleton.mpr rfl))))
theorem glob_at (c : SaysX faL fnL [] nn.tf exL w h K) (KX : K.In h) (G : h.Ns mainGlobals mg) {x : Str} (hx : Fa.glo x ∈ faL) : mg x = some (.ref (ga K x)) := glo_ok KX G (fact c hx)
theorem glo_ix (i : Nat) {x : Str} (e : faL[i]? = some (.glo x)) : Fa.glo x ∈ faL := List.mem_of_getElem? e
theorem exs_ (c : SaysX faL fnL [] nn.tf exL w h K) : veB K = true ∧ uniqB nn.tf K = true ∧ (∀ x ∈ xNames, exOne K x = true) ∧ (∀ x ∈ zNames, ∀ y ∈ zNames, exTwo K x y (x == y) = true) ∧ (∀ q ∈ aNames, exOneA K q = true) ∧ (aNames.isEmpty || ceB K "CheckError") = true := by
  have e := c.more
  unfold exL at e
  obtain ⟨e, e6⟩ := band e
  obtain ⟨e, e5⟩ := band e
  obtain ⟨e, e4⟩ := band e
  obtain ⟨e, e3⟩ := band e
  obtain ⟨e1, e2⟩ := band e
  exact ⟨e1, e2, fun x hx => List.all_eq_true.mp e3 x hx, fun x hx y hy => List.all_eq_true.mp (List.all_eq_true.mp e4 x hx) y hy, fun q hq => List.all_eq_true.mp e5 q hq, e6⟩
theorem exone (c : SaysX faL fnL [] nn.tf exL w h K) {x : Str} (hx : x ∈ xNames) : clsB K x "CheckError" = true ∧ excCB K (ga K x) = true ∧ PySem.W.exmOne K (.ref (ga K x)) (.ref (ga K "CheckError")) = some true ∧ PySem.W.kitOne K (.ref (ga K x)) (.type "ValueError") = some true := by
  have e := (exs_ c).2.2.1 x hx
  unfold exOne at e
  obtain ⟨e, e4⟩ := band e
  obtain ⟨e, e3⟩ := band e
  obtain ⟨e1, e2⟩ := band e
  exact ⟨e1, e2, dec e3, dec e4⟩
theorem exoneA (c : SaysX faL fnL [] nn.tf exL w h K) {q : Str × Str} (hq : q ∈ aNames) : clsAB K q.1 q.2 = true ∧ excCB K (ga K q.1) = true ∧ PySem.W.exmOne K (.ref (ga K q.1)) (.ref (ga K "CheckError")) = some true ∧ PySem.W.kitOne K (.ref (ga K q.1)) (.type "ValueError") = some true := by
  have e := (exs_ c).2.2.2.2.1 q hq
  unfold exOneA at e
  obtain ⟨e, e4⟩ := band e
  obtain ⟨e, e3⟩ := band e
  obtain ⟨e1, e2⟩ := band e
  exact ⟨e1, e2, dec e3, dec e4⟩
theorem extwo (c : SaysX faL fnL [] nn.tf exL w h K) {x y : Str} (hx : x ∈ zNames) (hy : y ∈ zNames) : PySem.W.kitOne K (.ref (ga K x)) (.ref (ga K y)) = some (x == y) := dec ((exs_ c).2.2.2.1 x hx y hy)
theorem gCE : Fa.glo "CheckError" ∈ faL := mem_fa 1 rfl
theorem gNoNumber : Fa.glo "NoNumber" ∈ faL := mem_fa 2 rfl
theorem gNoSheet : Fa.glo "NoSheet" ∈ faL := mem_fa 3 rfl
theorem gTooMany : Fa.glo "TooMany" ∈ faL := mem_fa 4 rfl
theorem xci (c : SaysX faL fnL [] nn.tf exL w h K) (KX : K.In h) (G : h.Ns mainGlobals mg) : XcI P w mg base (nn.L K) (PR fuel) := fun j x hx => by
  match j, hx with
  | 0, hx => cases hx
  | 1, hx => 
    cases hx
    obtain ⟨e1, _⟩ := exone c (x := "NoNumber") (by decide)
    obtain ⟨e1, z3⟩ := band e1
    obtain ⟨z1, z2⟩ := band e1
    obtain ⟨fd, F⟩ : ∃ fd, FunD K "__init__" "CheckError.__init__" (defArgs (clsTop 1 0)) (defBody (clsTop 1 0)) (defScope (clsTop 1 0)) [] [] (ma K (ga K "CheckError") "__init__") fd := (SaysT.d c.t).defs (d := dInit) (List.mem_of_getElem? (i := 35) rfl)
    refine ⟨rfl, ma K (ga K "CheckError") "__init__", fd, ["self"], ⟨oexB_ok z1, dec z2, dec z3, glob_at c KX G gNoNumber⟩, ?_, ?_⟩
    · exact init_ok F (fnScB_ok (by kernel_rfl)) (by kernel_rfl) (by kernel_rfl) (by kernel_rfl) (freeVE c KX G) (veB_ok (exs_ c).1)
    · exact F.bindsN fun kV doc pm an cdv ct us hl => match us, hl with | [_], _ => rfl
  | 2, hx => cases hx
  | 3, hx => 
    cases hx
    obtain ⟨e1, _⟩ := exone c (x := "NoSheet") (by decide)
    obtain ⟨e1, z3⟩ := band e1
    obtain ⟨z1, z2⟩ := band e1
    obtain ⟨fd, F⟩ : ∃ fd, FunD K "__init__" "CheckError.__init__" (defArgs (clsTop 1 0)) (defBody (clsTop 1 0)) (defScope (clsTop 1 0)) [] [] (ma K (ga K "CheckError") "__init__") fd := (SaysT.d c.t).defs (d := dInit) (List.mem_of_getElem? (i := 35) rfl)
    refine ⟨rfl, ma K (ga K "CheckError") "__init__", fd, ["self"], ⟨oexB_ok z1, dec z2, dec z3, glob_at c KX G gNoSheet⟩, ?_, ?_⟩
    · exact init_ok F (fnScB_ok (by kernel_rfl)) (by kernel_rfl) (by kernel_rfl) (by kernel_rfl) (freeVE c KX G) (veB_ok (exs_ c).1)
    · exact F.bindsN fun kV doc pm an cdv ct us hl => match us, hl with | [_], _ => rfl
  | n + 4, hx => cases hx
theorem xai (c : SaysX faL fnL [] nn.tf exL w h K) (KX : K.In h) (G : h.Ns mainGlobals mg) : XaI P w mg base (nn.L K) (PR fuel) := fun j x hx => by
  match j, hx with
  | 0, hx => cases hx
  | 1, hx => cases hx
  | 2, hx => 
    cases hx
    obtain ⟨e1, _⟩ := exoneA c (q := ("TooMany", "most")) (by decide)
    obtain ⟨e1, z4⟩ := band e1
    obtain ⟨e1, z3⟩ := band e1
    obtain ⟨z1, z2⟩ := band e1
    obtain ⟨y1, y2, y3⟩ := ceB_ok (x := "CheckError") (exs_ c).2.2.2.2.2
    obtain ⟨fd, F⟩ : ∃ fd, FunD K "__init__" "CheckError.__init__" (defArgs (clsTop 1 0)) (defBody (clsTop 1 0)) (defScope (clsTop 1 0)) [] [] (ma K (ga K "CheckError") "__init__") fd := (SaysT.d c.t).defs (d := dInit) (List.mem_of_getElem? (i := 35) rfl)
    obtain ⟨fdA, FA⟩ : ∃ fd, FunD K "__init__" "TooMany.__init__" (defArgs (clsTop 3 0)) (defBody (clsTop 3 0)) (defScope (clsTop 3 0)) [] [] (ma K (ga K "TooMany") "__init__") fd := (SaysT.d c.t).defs (d := dMet "TooMany" "TooMany.__init__" 3 0) (List.mem_of_getElem? (i := 36) rfl)
    refine ⟨0, "most", rfl, ma K (ga K "TooMany") "__init__", fdA, ["self", "most"], ⟨oexB_ok z1, dec z2, dec z3, glob_at c KX G gTooMany⟩, dec z4, ?_, ?_⟩
    · exact initF_ok (ce := "CheckError") (mc := .type "type") (C0 := ga K "CheckError") FA (fnScB_ok (by kernel_rfl)) (by kernel_rfl) (by kernel_rfl) (by decide) (by kernel_rfl) (by kernel_rfl) (by decide) (glob_at c KX G gCE) y1 y2 y3
        (init_ok F (fnScB_ok (by kernel_rfl)) (by kernel_rfl) (by kernel_rfl) (by kernel_rfl) (freeVE c KX G) (veB_ok (exs_ c).1)) (F.bindsN fun kV doc pm an cdv ct us hl => match us, hl with | [_], _ => rfl)
    · exact FA.bindsN fun kV doc pm an cdv ct us hl => match us, hl with | [_, _], _ => rfl
  | 3, hx => cases hx
  | n + 4, hx => cases hx
theorem fni0 (c : SaysX faL fnL [] nn.tf exL w h K) (KX : K.In h) (G : h.Ns mainGlobals mg) (hT : ∀ p ∈ nn.tf, LamX.TabB base mg (cT K p).1 (cT K p).2) : ∀ f x, (nn.fns[f]?).join = some x → FnE mg base (nn.L K) (PR fuel) f ∧ mg x = some (.ref ((nn.L K).R.fa f)) ∧ PySem.W.keepIn K (.ref ((nn.L K).R.fa f)) = true := fun f x hx => by
  match f, hx with
  | 0, hx => cases hx
  | 1, hx => cases hx
  | 2, hx => cases hx; exact elt c KX G hT (st := top 6) (N := N2) (ps := P2) (List.mem_of_getElem? (i := 0) rfl) (glo_ix 26 (by kernel_rfl)) rfl rfl s2 rfl rfl rfl rfl b2_ (.inl (c2 K))
  | 3, hx => cases hx; exact elt c KX G hT (st := top 7) (N := N3) (ps := P3) (List.mem_of_getElem? (i := 1) rfl) (glo_ix 27 (by kernel_rfl)) rfl rfl s3 rfl rfl rfl rfl b3_ (.inl (c3 K))
  | 4, hx => cases hx; exact elt c KX G hT (st := top 8) (N := N4) (ps := P4) (List.mem_of_getElem? (i := 2) rfl) (glo_ix 28 (by kernel_rfl)) rfl rfl s4 rfl rfl rfl rfl b4_ (.inl (c4 K))
  | 5, hx => cases hx; exact elt c KX G hT (st := top 9) (N := N5) (ps := P5) (List.mem_of_getElem? (i := 3) rfl) (glo_ix 29 (by kernel_rfl)) rfl rfl s5 rfl rfl rfl rfl b5_ (.inl (c5 K))
  | 6, hx => cases hx; exact elt c KX G hT (st := top 10) (N := N6) (ps := P6) (List.mem_of_getElem? (i := 4) rfl) (glo_ix 30 (by kernel_rfl)) rfl rfl s6 rfl rfl rfl rfl b6_ (.inl (c6 K))
  | 7, hx => cases hx; exact elt c KX G hT (st := top 13) (N := N7) (ps := P7) (List.mem_of_getElem? (i := 5) rfl) (glo_ix 31 (by kernel_rfl)) rfl rfl s7 rfl rfl rfl rfl b7_ (.inl (c7 K))
  | 8, hx => cases hx; exact elt c KX G hT (st := top 14) (N := N8) (ps := P8) (List.mem_of_getElem? (i := 6) rfl) (glo_ix 32 (by kernel_rfl)) rfl rfl s8 rfl rfl rfl rfl b8_ (.inl (c8 K))
  | 9, hx => cases hx; exact elt c KX G hT (st := top 15) (N := N9) (ps := P9) (List.mem_of_getElem? (i := 7) rfl) (glo_ix 33 (by kernel_rfl)) rfl rfl s9 rfl rfl rfl rfl b9_ (.inl (c9 K))
  | 10, hx => cases hx; exact elt c KX G hT (st := top 16) (N := N10) (ps := P10) (List.mem_of_getElem? (i := 8) rfl) (glo_ix 34 (by kernel_rfl)) rfl rfl s10 rfl rfl rfl rfl b10_ (.inl (c10 K))
  | 11, hx => cases hx; exact elt c KX G hT (st := top 17) (N := N11) (ps := P11) (List.mem_of_getElem? (i := 9) rfl) (glo_ix 35 (by kernel_rfl)) rfl rfl s11 rfl rfl rfl rfl b11_ (.inl (c11 K))
  | 12, hx => cases hx; exact elt c KX G hT (st := top 18) (N := N12) (ps := P12) (List.mem_of_getElem? (i := 10) rfl) (glo_ix 36 (by kernel_rfl)) rfl rfl s12 rfl rfl rfl rfl b12_ (.inl (c12 K))
  | 13, hx => cases hx; exact elt c KX G hT (st := top 19) (N := N13) (ps := P13) (List.mem_of_getElem? (i := 11) rfl) (glo_ix 37 (by kernel_rfl)) rfl rfl s13 rfl rfl rfl rfl b13_ (.inl (c13 K))
  | 14, hx => cases hx; exact elt c KX G hT (st := top 20) (N := N14) (ps := P14) (List.mem_of_getElem? (i := 12) rfl) (glo_ix 38 (by kernel_rfl)) rfl rfl s14 rfl rfl rfl rfl b14_ (.inl (c14 K))
  | 15, hx => cases hx; exact elt c KX G hT (st := top 21) (N := N15) (ps := P15) (List.mem_of_getElem? (i := 13) rfl) (glo_ix 39 (by kernel_rfl)) rfl rfl s15 rfl rfl rfl rfl b15_ (.inl (c15 K))
  | 16, hx => cases hx; exact elt c KX G hT (st := top 22) (N := N16) (ps := P16) (List.mem_of_getElem? (i := 14) rfl) (glo_ix 40 (by kernel_rfl)) rfl rfl s16 rfl rfl rfl rfl b16_ (.inl (c16 K))
  | 17, hx => cases hx; exact elt c KX G hT (st := top 24) (N := N17) (ps := P17) (List.mem_of_getElem? (i := 15) rfl) (glo_ix 41 (by kernel_rfl)) rfl rfl s17 rfl rfl rfl rfl b17_ (.inl (c17 K))
  | 18, hx => cases hx; exact elt c KX G hT (st := top 25) (N := N18) (ps := P18) (List.mem_of_getElem? (i := 16) rfl) (glo_ix 42 (by kernel_rfl)) rfl rfl s18 rfl rfl rfl rfl b18_ (.inl (c18 K))
  | 19, hx => cases hx; exact elt c KX G hT (st := top 26) (N := N19) (ps := P19) (List.mem_of_getElem? (i := 17) rfl) (glo_ix 43 (by kernel_rfl)) rfl rfl s19 rfl rfl rfl rfl b19_ (.inl (c19 K))
  | 20, hx => cases hx; exact elt c KX G hT (st := top 27) (N := N20) (ps := P20) (List.mem_of_getElem? (i := 18) rfl) (glo_ix 44 (by kernel_rfl)) rfl rfl s20 rfl rfl rfl rfl b20_ (.inl (c20 K))
  | 21, hx => cases hx; exact elt c KX G hT (st := top 28) (N := N21) (ps := P21) (List.mem_of_getElem? (i := 19) rfl) (glo_ix 45 (by kernel_rfl)) rfl rfl s21 rfl rfl rfl rfl b21_ (.inl (c21 K))
  | 22, hx => cases hx; exact elt c KX G hT (st := top 29) (N := N22) (ps := P22) (List.mem_of_getElem? (i := 20) rfl) (glo_ix 46 (by kernel_rfl)) rfl rfl s22 rfl rfl rfl rfl b22_ (.inl (c22 K))
  | 23, hx => cases hx; exact elt c KX G hT (st := top 30) (N := N23) (ps := P23) (List.mem_of_getElem? (i := 21) rfl) (glo_ix 47 (by kernel_rfl)) rfl rfl s23 rfl rfl rfl rfl b23_ (.inl (c23 K))
  | 24, hx => cases hx; exact elt c KX G hT (st := top 31) (N := N24) (ps := P24) (List.mem_of_getElem? (i := 22) rfl) (glo_ix 48 (by kernel_rfl)) rfl rfl s24 rfl rfl rfl rfl b24_ (.inl (c24 K))
  | 25, hx => cases hx; exact elt c KX G hT (st := top 32) (N := N25) (ps := P25) (List.mem_of_getElem? (i := 23) rfl) (glo_ix 49 (by kernel_rfl)) rfl rfl s25 rfl rfl rfl rfl b25_ (.inl (c25 K))
  | 26, hx => cases hx; exact elt c KX G hT (st := top 33) (N := N26) (ps := P26) (List.mem_of_getElem? (i := 24) rfl) (glo_ix 50 (by kernel_rfl)) rfl rfl s26 rfl rfl rfl rfl b26_ (.inl (c26 K))
  | 27, hx => cases hx; exact elt c KX G hT (st := top 34) (N := N27) (ps := P27) (List.mem_of_getElem? (i := 25) rfl) (glo_ix 51 (by kernel_rfl)) rfl rfl s27 rfl rfl rfl rfl b27_ (.inl (c27 K))
  | 28, hx => cases hx; exact elt c KX G hT (st := top 35) (N := N28) (ps := P28) (List.mem_of_getElem? (i := 26) rfl) (glo_ix 52 (by kernel_rfl)) rfl rfl s28 rfl rfl rfl rfl b28_ (.inl (c28 K))
  | 29, hx => cases hx; exact elt c KX G hT (st := top 36) (N := N29) (ps := P29) (List.mem_of_getElem? (i := 27) rfl) (glo_ix 53 (by kernel_rfl)) rfl rfl s29 rfl rfl rfl rfl b29_ (.inl (c29 K))
  | 30, hx => cases hx; exact elt c KX G hT (st := top 37) (N := N30) (ps := P30) (List.mem_of_getElem? (i := 28) rfl) (glo_ix 54 (by kernel_rfl)) rfl rfl s30 rfl rfl rfl rfl b30_ (.inl (c30 K))
  | 31, hx => cases hx; exact elt c KX G hT (st := top 38) (N := N31) (ps := P31) (List.mem_of_getElem? (i := 29) rfl) (glo_ix 55 (by kernel_rfl)) rfl rfl s31 rfl rfl rfl rfl b31_ (.inl (c31 K))
  | 32, hx => cases hx; exact elt c KX G hT (st := top 39) (N := N32) (ps := P32) (List.mem_of_getElem? (i := 30) rfl) (glo_ix 56 (by kernel_rfl)) rfl rfl s32 rfl rfl rfl rfl b32_ (.inl (c32 K))
  | 33, hx => cases hx
  | 34, hx => cases hx; exact elt c KX G hT (st := top 41) (N := N34) (ps := P34) (List.mem_of_getElem? (i := 32) rfl) (glo_ix 58 (by kernel_rfl)) rfl rfl s34 rfl rfl rfl rfl b34_ (.inl (c34 K))
  | 35, hx => cases hx; exact elt c KX G hT (st := top 42) (N := N35) (ps := P35) (List.mem_of_getElem? (i := 33) rfl) (glo_ix 59 (by kernel_rfl)) rfl rfl s35 rfl rfl rfl rfl b35_ (.inr ⟨c35 K, by decide, (exs_ c).2.1⟩)
  | 36, hx => cases hx; exact elt c KX G hT (st := top 43) (N := N36) (ps := P36) (List.mem_of_getElem? (i := 34) rfl) (glo_ix 60 (by kernel_rfl)) rfl rfl s36 rfl rfl rfl rfl b36_ (.inl (c36 K))
  | n + 37, hx => cases hx
theorem mti0 (c : SaysX faL fnL [] nn.tf exL w h K) : ∀ f q, (nn.mts[f]?).join = some q → FnE mg base (nn.L K) (PR fuel) f := fun f q hx => by
  match f, hx with
  | 0, hx => cases hx
  | 1, hx => cases hx
  | 2, hx => cases hx
  | 3, hx => cases hx
  | 4, hx => cases hx
  | 5, hx => cases hx
  | 6, hx => cases hx
  | 7, hx => cases hx
  | 8, hx => cases hx
  | 9, hx => cases hx
  | 10, hx => cases hx
  | 11, hx => cases hx
  | 12, hx => cases hx
  | 13, hx => cases hx
  | 14, hx => cases hx
  | 15, hx => cases hx
  | 16, hx => cases hx
  | 17, hx => cases hx
  | 18, hx => cases hx
  | 19, hx => cases hx
  | 20, hx => cases hx
  | 21, hx => cases hx
  | 22, hx => cases hx
  | 23, hx => cases hx
  | 24, hx => cases hx
  | 25, hx => cases hx
  | 26, hx => cases hx
  | 27, hx => cases hx
  | 28, hx => cases hx
  | 29, hx => cases hx
  | 30, hx => cases hx
  | 31, hx => cases hx
  | 32, hx => cases hx
  | 33, hx => cases hx
  | 34, hx => cases hx
  | 35, hx => cases hx
  | 36, hx => cases hx
  | n + 37, hx => cases hx
theorem fni (c : SaysX faL fnL [] nn.tf exL w h K) (KX : K.In h) (G : h.Ns mainGlobals mg) (hT : ∀ p ∈ nn.tf, LamX.TabB base mg (cT K p).1 (cT K p).2) : FnI mg base (nn.L K) (PR fuel) := fnI_of (fun f x hx => (fni0 c KX G hT f x hx).1) (mti0 c)
theorem insts_ (c : SaysX faL fnL [] nn.tf exL w h K) (k : Nat) (hc : (((PR fuel).gam (Dp.sem (PR fuel) 0)).initOf k).isSome = true) : Cls K ((nn.L K).R.ca k) ∧ ∀ i y, (nn.L K).anm i = some y → (nn.L K).R.an i = y ∧ NoAttr K ((nn.L K).R.ca k) y := by cases hc
theorem globs (c : SaysX faL fnL [] nn.tf exL w h K) (KX : K.In h) (G : h.Ns mainGlobals mg) (hT : ∀ p ∈ nn.tf, LamX.TabB base mg (cT K p).1 (cT K p).2) : GlobsOk mg (nn.L K) ((PR fuel).gam (Dp.sem (PR fuel) 0)) where
  free := fun x hx => free_at c KX G hx
  glob := fun i d hx => by
    match i, hx with
    | 0, hx => 
      cases hx
      obtain ⟨t, e⟩ := int_ok KX G (fact c (f := .int "MOST_SIDE" 8) (mem_fa 0 rfl))
      exact ⟨"MOST_SIDE", .int 8, _, rfl, e, ⟨t, rfl⟩, rfl⟩
    | n + 1, hx => cases hx
  fnm := fun f x hx => ⟨dfn_of hx, (fni0 (fuel := fuel) c KX G hT f x hx).2⟩
  inj := fun i j e => anOf_inj (ats := nn.ats) (by decide) (by decide) i j e
  insts := insts_ c
  cnm := fun j x hx => by
    match j, hx with
    | 0, hx => cases hx
    | 1, hx => cases hx
    | 2, hx => cases hx
    | 3, hx => cases hx
    | n + 4, hx => cases hx
theorem wordOk33 : pickDefB "asked" "word" "e" "some" "CheckError" [108, 101, 116] ["NoNumber", "NoSheet", "TooMany"] true none (defBody (top 40)) = true := by kernel_rfl
theorem tdi (c : SaysX faL fnL [] nn.tf exL w h K) (KX : K.In h) (G : h.Ns mainGlobals mg) : TdI P w mg base (nn.L K) (PR fuel) tl := fun f x hx => by
  match f, hx with
  | 0, hx => cases hx
  | 1, hx => cases hx
  | 2, hx => cases hx
  | 3, hx => cases hx
  | 4, hx => cases hx
  | 5, hx => cases hx
  | 6, hx => cases hx
  | 7, hx => cases hx
  | 8, hx => cases hx
  | 9, hx => cases hx
  | 10, hx => cases hx
  | 11, hx => cases hx
  | 12, hx => cases hx
  | 13, hx => cases hx
  | 14, hx => cases hx
  | 15, hx => cases hx
  | 16, hx => cases hx
  | 17, hx => cases hx
  | 18, hx => cases hx
  | 19, hx => cases hx
  | 20, hx => cases hx
  | 21, hx => cases hx
  | 22, hx => cases hx
  | 23, hx => cases hx
  | 24, hx => cases hx
  | 25, hx => cases hx
  | 26, hx => cases hx
  | 27, hx => cases hx
  | 28, hx => cases hx
  | 29, hx => cases hx
  | 30, hx => cases hx
  | 31, hx => cases hx
  | 32, hx => cases hx
  | 33, hx => 
    cases hx
    refine ⟨rfl, fun X e1 e2 e3 e4 e5 => ?_⟩
    obtain ⟨fd, F⟩ := funD_of c (x := "_law_word") (st := top 40) (List.mem_of_getElem? (i := 31) rfl)
    have b := F.bindsN (ps := ["asked"]) fun kV doc pm an cdv ct us hl => match us, hl with | [_], _ => rfl
    obtain ⟨oc, od, dV, kV, doc, pm, an, cdv, ct, osl, rfl, lk, hcd, _, _⟩ := F.ex
    have gW : Fa.glo "_law_word" ∈ faL := glo_ix 57 (by kernel_rfl)
    refine ⟨ga K "_law_word", _, _, _, dV, kV, doc, pm, cdv, ct, oc, an, od, osl, ["asked", "word", "e", "some"], "asked", by rw [e4]; exact glob_at c KX G gW, by rw [e3]; exact F.kp, by rw [e3]; exact lk, by rw [e3]; exact hcd, by rw [e3]; exact b, fnScB_ok (by kernel_rfl), rfl, .inl (by kernel_rfl), by decide, by decide, ?_⟩
    refine pick_gives (CE := ga K "CheckError") (ws := none) (ve := true) (csn := ["NoNumber", "NoSheet", "TooMany"]) (by decide) ⟨by kernel_rfl, by kernel_rfl, by kernel_rfl⟩ ⟨by decide, by decide, by decide, by decide⟩ (by kernel_rfl) (by rw [e4]; exact free_at c KX G (by decide)) (fun _ => ⟨by kernel_rfl, by rw [e4]; exact freeVE c KX G⟩) (by kernel_rfl) (by rw [e4]; exact glob_at c KX G gCE) (fun zs hz => by cases hz <;> decide) rfl (fun j s hj => ?_) wordOk33
    match j, hj with
    | 0, hj => cases hj
    | 1, hj => 
      cases hj
      rw [e3, e4]
      obtain ⟨_, z4, z5, z6⟩ := exone ‹_› (x := "NoNumber") (by decide)
      exact ⟨excCB_ok z4, z5, z6, [("NoNumber", ga K "NoNumber", true), ("NoSheet", ga K "NoSheet", false), ("TooMany", ga K "TooMany", false)], 0, rfl, fun c hc => by
        simp only [List.mem_cons, List.not_mem_nil, or_false] at hc
        rcases hc with rfl | rfl | rfl
        all_goals exact ⟨by kernel_rfl, glob_at ‹_› KX G (by first | exact gNoNumber | exact gNoSheet | exact gTooMany), extwo ‹_› (by decide) (by decide)⟩, rfl, rfl, by show 3 ≤ 1000; decide⟩
    | 2, hj => 
      cases hj
      rw [e3, e4]
      obtain ⟨_, z4, z5, z6⟩ := exoneA ‹_› (q := ("TooMany", "most")) (by decide)
      exact ⟨excCB_ok z4, z5, z6, [("NoNumber", ga K "NoNumber", false), ("NoSheet", ga K "NoSheet", false), ("TooMany", ga K "TooMany", true)], 2, rfl, fun c hc => by
        simp only [List.mem_cons, List.not_mem_nil, or_false] at hc
        rcases hc with rfl | rfl | rfl
        all_goals exact ⟨by kernel_rfl, glob_at ‹_› KX G (by first | exact gNoNumber | exact gNoSheet | exact gTooMany), extwo ‹_› (by decide) (by decide)⟩, rfl, rfl, by show 3 ≤ 1000; decide⟩
    | 3, hj => 
      cases hj
      rw [e3, e4]
      obtain ⟨_, z4, z5, z6⟩ := exone ‹_› (x := "NoSheet") (by decide)
      exact ⟨excCB_ok z4, z5, z6, [("NoNumber", ga K "NoNumber", false), ("NoSheet", ga K "NoSheet", true), ("TooMany", ga K "TooMany", false)], 1, rfl, fun c hc => by
        simp only [List.mem_cons, List.not_mem_nil, or_false] at hc
        rcases hc with rfl | rfl | rfl
        all_goals exact ⟨by kernel_rfl, glob_at ‹_› KX G (by first | exact gNoNumber | exact gNoSheet | exact gTooMany), extwo ‹_› (by decide) (by decide)⟩, rfl, rfl, by show 3 ≤ 1000; decide⟩
    | n + 4, hj => cases hj
  | 34, hx => cases hx
  | 35, hx => cases hx
  | 36, hx => cases hx
  | n + 37, hx => cases hx
end
/-- the law by its term -/
def Plain (fuel m : Nat) : Prop := ∀ ns : List Int, ns.length ≤ 63 → (∀ z ∈ ns, Builtin.Int.intBits z ≤ 1048576) → Dp.sem (PR fuel) (m + 1) 36 none [.scr ns] = .ok (.val (.bl true)) none
theorem law_end {fuel m : Nat} (pl : Plain fuel m) {w : World} {K : PySem.W.Frag} {h : Heap} {mg : Str → Option Value} {g : Addr} (c : SaysX faL fnL [] nn.tf exL w h K) (KX : K.In h) (G : h.Ns mainGlobals mg) (hg : mg "law" = some (.ref g)) :
    LamX.LawAtS PySem.Challenge.rw_checksigns_k80_whole_sheets_with_sums w K (L2.CX (PySem.Challenge.rw_checksigns_k80_whole_sheets_with_sums).prog w) (4 * m + 2 + 4) 63 "script" mg g h :=
  law_at (PR := PR fuel) (tl := tl) (f := 36) (m := m) (x := "law") (arg := "script") (st := top 43) (N := N36) (DF := d36) c KX G (List.mem_of_getElem? (i := 34) rfl) (glo_ix 60 (by kernel_rfl)) rfl rfl hg s36 rfl rfl rfl b36_ (.inl (c36 K))
    (fun base KB GB TB => ⟨fni c KX G TB, xci c KX G, xai c KX G, tdi c KX G, globs c KX G TB⟩) pl
end DpK
open PySem PySem.W PySem.Calls PyProof.Rows
theorem k80_of {fuel m : Nat} (hm : 4 * m + 2 + 4 ≤ 100) (pl : DpK.Plain fuel m) : PySem.Challenge.rw_checksigns_k80_whole_sheets_with_sums.Holds := by
  w_on; o_law
  refine HandSHeadRun.head_any (r := OpenLaw.row PySem.Challenge.rw_checksigns_k80_whole_sheets_with_sums) (q := view (OpenLaw.row PySem.Challenge.rw_checksigns_k80_whole_sheets_with_sums).prog [43]) (H := DpK.hk) (ob := DpK.ob) (M := 20000) (loose := [("CheckError" : PySem.Str), ("NoNumber" : PySem.Str), ("TooMany" : PySem.Str), ("NoSheet" : PySem.Str), ("is_integer" : PySem.Str), ("is_within" : PySem.Str), ("is_tuple" : PySem.Str), ("is_sized" : PySem.Str), ("check_number" : PySem.Str), ("MOST_SIDE" : PySem.Str), ("is_sheet" : PySem.Str), ("raw_is_sheet" : PySem.Str), ("check_sheet" : PySem.Str), ("with_sums" : PySem.Str), ("left" : PySem.Str), ("raw_left" : PySem.Str), ("is_good" : PySem.Str), ("fewest_unseen" : PySem.Str), ("good_many" : PySem.Str), ("turned" : PySem.Str), ("_law_draw" : PySem.Str), ("_law_some" : PySem.Str), ("_law_mixed" : PySem.Str), ("_law_is" : PySem.Str), ("_law_hand" : PySem.Str), ("_law_deep" : PySem.Str), ("_law_none" : PySem.Str), ("_law_sheet" : PySem.Str), ("_law_rests" : PySem.Str), ("_law_fits" : PySem.Str), ("_law_with" : PySem.Str), ("_law_summed" : PySem.Str), ("_law_spoiled" : PySem.Str), ("_law_base" : PySem.Str), ("_law_no_sheet" : PySem.Str), ("_law_no_base" : PySem.Str), ("_law_word" : PySem.Str), ("_law_all_sheets" : PySem.Str), ("_law_are_refused" : PySem.Str)]) (d := HandSHeadRun.topDef (OpenLaw.row PySem.Challenge.rw_checksigns_k80_whole_sheets_with_sums).prog 43) (kwd := []) DpK.ob_eq
    (by kernel_rfl) (fun s => by kernel_rfl) DpK.run (by kernel_rfl) (by kernel_rfl) (by kernel_rfl) (by rfl) (by first | assumption | decide +kernel) (by decide +kernel) ⟨rfl, rfl, rfl, rfl, rfl, by decide +kernel⟩ ?hw ?hc
  case hw => w_witness2
  case hc =>
    refine LamX.walk_ofTsE (l := PySem.Challenge.rw_checksigns_k80_whole_sheets_with_sums) (n := 63) (k := 4 * m + 2 + 4) (x := "script") (CX := fun w => L2.CX (PySem.Challenge.rw_checksigns_k80_whole_sheets_with_sums).prog w) rfl (by decide) (by kernel_rfl) ((show L2.Room 100 callerA from ⟨rfl, by decide, by decide⟩).mono hm) ?F (fun w H s e s' z => by
      obtain ⟨_, _, _, _, _, _, _, _, _, _, _, _, f⟩ := z
      exact f.elim)
    intro w mg fa h Y G hmg0
    obtain ⟨K, KX, c⟩ := Y
    have hmg : mg ("law" : PySem.Str) = some (.ref fa) := by
      have e : (HandSHeadRun.topDef (OpenLaw.row PySem.Challenge.rw_checksigns_k80_whole_sheets_with_sums).prog 43).name = ("law" : PySem.Str) := by kernel_rfl
      rw [← e]
      exact hmg0
    exact ⟨K, KX, DpK.law_end pl c KX G hmg⟩
end

section
set_option linter.all false
set_option autoImplicit false
set_option maxRecDepth 100000
open Dp
local macro_rules | `(tactic| array_get_dec) => `(tactic| first   | with_reducible apply W_cons   | with_reducible apply W_nil   | with_reducible apply W_set   | with_reducible apply W_ret   | with_reducible apply W_ife   | with_reducible apply W_for   | with_reducible apply W_ex   | ((with_reducible apply W_mm); exact rfl)   | with_reducible apply W_seti   | with_reducible apply W_unp   | with_reducible apply W_par   | ((with_reducible apply W_aug); exact rfl)   | with_reducible apply W_pass   | with_reducible apply W_brk   | with_reducible apply W_cont   | with_reducible apply W_retn   | ((with_reducible apply W_rais); exact rfl)   | with_reducible apply W_k   | ((with_reducible refine BT_of ?_ ?_); (first | exact rfl | decide | (simp only [List.length_cons, List.length_nil, sizeLine]; omega)))   | ((with_reducible apply W_v); exact rfl)   | ((with_reducible apply W_vo); exact rfl)   | ((with_reducible apply W_vb); exact rfl)   | ((with_reducible apply W_glb); exact rfl)   | with_reducible apply W_bin   | with_reducible apply W_cmp   | with_reducible apply W_sub   | with_reducible apply W_and   | with_reducible apply W_or   | with_reducible apply W_nt   | with_reducible apply W_neg   | with_reducible apply W_chn   | with_reducible apply W_isn   | with_reducible apply W_isb   | with_reducible apply W_ite   | with_reducible apply W_tup   | with_reducible apply W_lst   | with_reducible apply W_slc   | with_reducible apply W_rev   | with_reducible apply W_rlT   | with_reducible apply W_rlF   | with_reducible apply W_isi   | with_reducible apply W_b1   | with_reducible apply W_b2   | with_reducible apply W_m1   | with_reducible apply W_call   | ((with_reducible apply W_callm); exact rfl)   | ((with_reducible apply W_mp); exact rfl)   | ((with_reducible apply MP_val); exact rfl)   | ((with_reducible apply W_callv); exact rfl; exact rfl)   | ((with_reducible apply W_tld); exact rfl)   | with_reducible apply W_lc   | with_reducible apply W_att   | ((with_reducible apply LF_att); exact rfl; exact rfl)   | ((with_reducible apply W_mk); exact rfl)   | with_reducible apply W_setf   | with_reducible apply W_lc2   | with_reducible apply W_esnil   | with_reducible apply W_escons   | with_reducible apply W_ernil   | with_reducible apply W_ercons   | with_reducible apply W_seq   | with_reducible apply W_rng   | with_reducible apply W_enum   | with_reducible apply W_zip2   | with_reducible apply W_om   | with_reducible apply P1_val   | with_reducible apply P1_frl   | with_reducible apply P1_frd   | with_reducible apply P1_fri   | ((with_reducible apply P1_borl); exact rfl)   | ((with_reducible apply P1_bobl); exact rfl)   | ((with_reducible apply P1_bor); exact rfl)   | ((with_reducible apply P1_bob); exact rfl)   | ((with_reducible apply P1_bosh); exact rfl)   | with_reducible apply U_val   | with_reducible apply UK_val   | with_reducible apply UK_fr   | with_reducible apply UK_bor   | with_reducible apply U_frl   | with_reducible apply U_fr   | ((with_reducible apply U_bor); exact rfl; dsimp only [frz, List.set])   | ((with_reducible apply U_bosh); exact rfl)   | with_reducible apply K_nx   | with_reducible apply K_rt   | with_reducible apply K_bk   | with_reducible apply K_ct   | with_reducible apply CN_val   | with_reducible apply CN_fr   | with_reducible apply CNX_of   | with_reducible apply CM_val0   | with_reducible apply CM_val0o   | with_reducible apply CM_val1o   | with_reducible apply CM_fr0   | with_reducible apply CM_fr0o   | with_reducible apply CM_fr1o   | with_reducible apply CMX_of   | with_reducible apply FN_nx   | with_reducible apply FN_val   | with_reducible apply FN_fr   | ((with_reducible apply FN_bor); exact rfl)   | ((with_reducible apply FN_bosh); exact rfl)   | with_reducible apply FM_nx   | with_reducible apply FM_val   | with_reducible apply FM_fr   | ((with_reducible apply FM_bor); exact rfl)   | with_reducible apply FNX_of   | with_reducible apply FMX_of   | with_reducible apply LQ_nx   | with_reducible apply LQ_rt   | with_reducible apply LQ_bk   | with_reducible apply LQ_ct   | ((with_reducible apply PT_om); exact rfl)   | ((with_reducible apply PT_int); exact rfl)   | with_reducible apply T_true   | with_reducible apply T_false   | with_reducible apply T_not   | with_reducible apply LF_some   | with_reducible apply LF_add   | with_reducible apply LF_sub   | ((with_reducible apply LF_mul); (first | exact Or.inr (Or.inl (small_of (by omega))) | exact Or.inl (small_of (by omega)) | exact Or.inl (small_mod _ _ (by decide) (by decide))))   | ((with_reducible apply LF_pow); decide)   | ((with_reducible apply LF_adds); (first | (simp only [List.length_cons, List.length_nil, List.length_append, sizeLine]; omega)))   | ((with_reducible apply LF_lens); (first | assumption))   | ((with_reducible apply LF_slcs); (first | assumption))   | ((with_reducible apply LF_subs); assumption; (first | assumption | omega); assumption)   | ((with_reducible apply LF_subl); (first | assumption | omega); assumption)   | ((with_reducible apply LF_subt); (first | assumption | omega); assumption)   | ((with_reducible apply LF_sindex); assumption)   | with_reducible apply LF_eqi   | with_reducible apply LF_nei   | with_reducible apply LF_lti   | with_reducible apply LF_lei   | with_reducible apply LF_gti   | with_reducible apply LF_gei   | with_reducible apply LF_eqb   | with_reducible apply LF_neb   | with_reducible apply LF_instr   | with_reducible apply LF_ninstr   | with_reducible apply LF_asgn   | with_reducible apply LF_asgnil   | with_reducible apply LF_asgcons   | with_reducible apply LF_dsnil   | with_reducible apply LF_dscons   | ((with_reducible apply LF_store); exact rfl; (first | exact Fre.sh | exact Fre.un | exact Fre.ow | assumption); dsimp only [List.set])   | ((with_reducible apply LF_storeO); exact rfl; (first | exact Fre.sh | exact Fre.un | exact Fre.ow | assumption); dsimp only [List.set])   | ((with_reducible apply LF_stored); exact rfl; exact rfl; (first | exact Fre.sh | exact Fre.un | exact Fre.ow | assumption); dsimp only [List.set, frz])   | ((with_reducible apply LF_setob); exact rfl; dsimp only [putOb, List.getElem?_cons_zero, List.getElem?_cons_succ, List.set, Int.reduceToNat])   | ((with_reducible refine LF_append ?_ ?_); rotate_left; dsimp only [putOb, List.getElem?_cons_zero, List.getElem?_cons_succ, List.set, List.nil_append, List.cons_append])   | ((with_reducible refine LF_extend ?_ ?_); rotate_left; dsimp only [putOb, List.getElem?_cons_zero, List.getElem?_cons_succ, List.set, List.nil_append, List.cons_append])   | ((with_reducible apply LF_mod); (first | decide | assumption | omega))   | ((with_reducible apply LF_fdiv); (first | decide | assumption | omega); (first | decide | assumption))   | with_reducible apply LF_rng   | with_reducible apply WF_fn   | ((with_reducible apply T_is (c := true)); decide)   | ((with_reducible apply T_is (c := false)); decide)   | (((with_reducible apply T_dec) <;> intro) <;> (try (exfalso; omega)))   | (((with_reducible apply TB_dec) <;> intro) <;> (try (exfalso; omega)))   | ((with_reducible apply T_is (c := true)); exact rfl)   | ((with_reducible apply T_is (c := false)); exact rfl)   | ((with_reducible apply LF_eq); exact rfl))
namespace DpK
theorem is_integer_int (fuel n : Nat) (i : Int) : sem (PR fuel) (n + 1) 2 none [.int i] = .ok (.val (.bl true)) none := rfl
theorem is_within_int (fuel n : Nat) (i a b : Int) : sem (PR fuel) (n + 2) 3 none [.int i, .int a, .int b] = .ok (.val (.bl (decide (a ≤ i ∧ i ≤ b)))) none := by
  refine WF_of (w3 ?_)
  repeat' array_get_dec
  refine WF_eq (is_integer_int _ _ _) ?_
  repeat' array_get_dec
  all_goals first | (simp_all; done) | (simp_all; omega)
theorem check_ok (fuel n : Nat) (i a b : Int) (h : a ≤ i) (h2 : i ≤ b) : sem (PR fuel) (n + 3) 6 none [.int i, .int a, .int b] = .ok (.val .non) none := by
  refine WF_of (w6 ?_)
  repeat' array_get_dec
  refine WF_eq (is_within_int _ _ _ _ _) ?_
  simp only [h, h2, and_self, decide_true]
  repeat' array_get_dec
  exact ⟨rfl, rfl⟩
theorem is_sized_tup (fuel n : Nat) (xs : List D) (a b : Int) : sem (PR fuel) (n + 1) 5 none [.tup xs, .int a, .int b] = .ok (.val (.bl (decide (a ≤ xs.length ∧ (xs.length : Int) ≤ b)))) none := by
  refine WF_of (w5 ?_)
  repeat' array_get_dec
  all_goals first | (simp_all; done) | (simp_all; omega)
theorem is_tuple_tup (fuel n : Nat) (xs : List D) (a : Int) : sem (PR fuel) (n + 1) 4 none [.tup xs, .int a] = .ok (.val (.bl (decide ((xs.length : Int) = a)))) none := by
  refine WF_of (w4 ?_)
  repeat' array_get_dec
  all_goals first | (simp_all; done) | (simp_all; omega)
theorem draw_s (fuel n : Nat) (o : Ob) (h : Hand o) (m : Int) (hm : 0 < m) (hl : m.natAbs.log2 < 9000) : WF (sem (PR fuel) (n + 1) 17 (some o) [.int m]) (fun r q => ∃ d o', r = .val (.int d) ∧ q = some o' ∧ Hand o' ∧ 0 ≤ d ∧ d < m) noF := by
  obtain ⟨cs, i, r, s, k, rfl, hc, hi, hr⟩ := h
  refine w17 ?_
  repeat' array_get_dec
  · obtain ⟨c, ec⟩ : ∃ c, cs[i.toNat]? = some c := ⟨_, List.getElem?_eq_getElem (by simp at *; omega)⟩
    have hc0 : 0 ≤ c := hc c (List.mem_of_getElem? ec)
    refine LF_subl (d := .int c) hi (by rw [List.getElem?_map, ec]; rfl) ?_
    repeat' array_get_dec
    all_goals exact ⟨_, _, rfl, rfl, hand_of hc (by omega) (by first | omega | exact Int.ediv_nonneg (by omega) (by omega)), (emod_ok _ m hm).1, (emod_ok _ m hm).2⟩
  all_goals exact ⟨_, _, rfl, rfl, hand_of hc (by omega) (by first | omega | exact Int.ediv_nonneg (by omega) (by omega)), (emod_ok _ m hm).1, (emod_ok _ m hm).2⟩
theorem any_s (fuel n : Nat) (o : Ob) (h : Hand o) (xs : List D) (hx : 0 < xs.length) (hl : xs.length < 2 ^ 64) : WF (sem (PR fuel) (n + 2) 18 (some o) [.lst xs]) (fun r q => ∃ d o', r = .val d ∧ q = some o' ∧ Hand o' ∧ d ∈ xs) noF := by
  refine w18 ?_
  repeat' array_get_dec
  refine WF_mono0 (draw_s fuel n o h _ (by omega) ?_) ?_
  · have := log_le (a := xs.length) (b := 64) hl (by omega)
    simp; omega
  · rintro _ _ ⟨d, o', rfl, rfl, ho, h0, h1⟩
    repeat' array_get_dec
    have hi2 : d.toNat < xs.length := by omega
    refine LF_subl h0 (List.getElem?_eq_getElem hi2) ?_
    repeat' array_get_dec
    exact ⟨_, _, rfl, rfl, ho, List.getElem_mem hi2⟩
theorem C_draw {fuel n : Nat} {o : Ob} {m : Int} {Q : FQ} {X : FX} (h : Hand o) (hm : 0 < m) (hl : m < 2 ^ 64) (q : ∀ d o', Hand o' → 0 ≤ d → d < m → Q (.val (.int d)) (some o')) : WF (sem (PR fuel) (n + 1) 17 (some o) [.int m]) Q X :=
  WF_mono0 (draw_s fuel n o h m hm (by have := log_le (a := m.natAbs) (b := 64) (by omega) (by omega); omega)) fun _ _ ⟨d, o', e1, e2, ho, h0, h1⟩ => e1 ▸ e2 ▸ q d o' ho h0 h1
theorem C_any {fuel n : Nat} {o : Ob} {xs : List D} {Q : FQ} {X : FX} (h : Hand o) (hx : 0 < xs.length) (hl : xs.length < 2 ^ 64) (q : ∀ d o', Hand o' → d ∈ xs → Q (.val d) (some o')) : WF (sem (PR fuel) (n + 2) 18 (some o) [.lst xs]) Q X :=
  WF_mono0 (any_s fuel n o h xs hx hl) fun _ _ ⟨d, o', e1, e2, ho, hd⟩ => e1 ▸ e2 ▸ q d o' ho hd
theorem is_leaf (fuel n : Nat) (d : D) (h : okD 0 d = true) : WF (sem (PR fuel) (n + 1) 20 none [d, d]) (fun r m => r = .val (.bl true) ∧ m = none) noF := by
  cases d
  case non =>
    refine w20 ?_
    repeat' array_get_dec
    exact ⟨rfl, rfl⟩
  case bl b =>
    refine w20 ?_
    repeat' array_get_dec
    exact ⟨by simp, rfl⟩
  case int i =>
    refine w20 ?_
    repeat' array_get_dec
    exact ⟨by simp, rfl⟩
  case str s =>
    refine w20 ?_
    repeat' array_get_dec
    refine LF_eqd h h ?_
    repeat' array_get_dec
    exact ⟨by simp [eqb], rfl⟩
  all_goals exact absurd h (by simp [okD])
theorem is_s (fuel n : Nat) : ∀ (k : Nat) (d : D), okD k d = true → WF (sem (PR fuel) (n + k + 1) 20 none [d, d]) (fun r m => r = .val (.bl true) ∧ m = none) noF := by
  intro k
  induction k with
  | zero => exact fun d h => is_leaf fuel n d h
  | succ k ih =>
    intro d h
    cases d
    case tup xs =>
      have h : xs.length < sizeLine ∧ ∀ x ∈ xs, okD k x = true := by simpa [okD] using h
      refine w20 ?_
      repeat' array_get_dec
      refine W_lcI (fun j ds σ => ds = List.replicate j (.bl true) ∧ ∃ s t, Fre s ∧ Fre t ∧ σ = [.sh (.tup xs), .sh (.tup xs), s, t]) ⟨rfl, .un, .un, .un, .un, rfl⟩ ?_ ?_
      · rintro j x pre σ hx ⟨rfl, s, t, fs, ft, rfl⟩
        obtain ⟨a, b, rfl, ha, hb⟩ := zipD_at hx
        obtain rfl : a = b := Option.some.inj (ha.symm.trans hb)
        dsimp only [wipeD, List.set]
        repeat' array_get_dec
        refine WF_mono0 (ih a (h.2 a (List.mem_of_getElem? ha))) ?_
        rintro _ _ ⟨rfl, rfl⟩
        repeat' array_get_dec
        exact ⟨by rw [← List.replicate_succ'], .sh a, .sh a, .sh, .sh, rfl⟩
      · rintro ds σ ⟨rfl, s, t, fs, ft, rfl⟩
        rw [zipD_len, Nat.min_self]
        refine BT_of (by rw [List.length_replicate]; exact h.1) ?_
        dsimp only [backD, List.getElem?_cons_zero, List.getElem?_cons_succ, List.set]
        repeat' array_get_dec
        refine LF_alltrue ?_
        repeat' array_get_dec
        exact ⟨rfl, rfl⟩
    case lst xs =>
      have h : xs.length < sizeLine ∧ ∀ x ∈ xs, okD k x = true := by simpa [okD] using h
      refine w20 ?_
      repeat' array_get_dec
      refine W_lcI (fun j ds σ => ds = List.replicate j (.bl true) ∧ ∃ s t, Fre s ∧ Fre t ∧ σ = [.sh (.lst xs), .sh (.lst xs), s, t]) ⟨rfl, .un, .un, .un, .un, rfl⟩ ?_ ?_
      · rintro j x pre σ hx ⟨rfl, s, t, fs, ft, rfl⟩
        obtain ⟨a, b, rfl, ha, hb⟩ := zipD_at hx
        obtain rfl : a = b := Option.some.inj (ha.symm.trans hb)
        dsimp only [wipeD, List.set]
        repeat' array_get_dec
        refine WF_mono0 (ih a (h.2 a (List.mem_of_getElem? ha))) ?_
        rintro _ _ ⟨rfl, rfl⟩
        repeat' array_get_dec
        exact ⟨by rw [← List.replicate_succ'], .sh a, .sh a, .sh, .sh, rfl⟩
      · rintro ds σ ⟨rfl, s, t, fs, ft, rfl⟩
        rw [zipD_len, Nat.min_self]
        refine BT_of (by rw [List.length_replicate]; exact h.1) ?_
        dsimp only [backD, List.getElem?_cons_zero, List.getElem?_cons_succ, List.set]
        repeat' array_get_dec
        refine LF_alltrue ?_
        repeat' array_get_dec
        exact ⟨rfl, rfl⟩
    all_goals exact is_leaf fuel (n + (k + 1)) _ h
theorem C_is {fuel n : Nat} {d : D} {Q : FQ} {X : FX} (k : Nat) (h : okD k d = true) (q : Q (.val (.bl true)) none) : WF (sem (PR fuel) (n + k + 1) 20 none [d, d]) Q X :=
  WF_mono0 (is_s fuel n k d h) fun _ _ ⟨e1, e2⟩ => e1 ▸ e2 ▸ q
theorem hand_s (fuel n : Nat) (ns : List Int) (hl : ns.length ≤ 63) : WF (sem (PR fuel) (n + 1) 21 none [.scr ns]) (fun r m => ∃ o, r = .fr o ∧ m = none ∧ Hand o) noF := by
  refine w21 ?_
  repeat' array_get_dec
  refine W_lcI (fun j ds σ => ds = (((cutL ns none (some 63)).take j).map fun z => .int (if z < 0 then -z else z)) ∧ ∃ s, Fre s ∧ σ = [.sh (.scr ns), .un, s]) ⟨rfl, .un, .un, rfl⟩ ?_ ?_
  · rintro j x pre σ hx ⟨rfl, s, fs, rfl⟩
    rw [List.getElem?_map] at hx
    obtain ⟨z, hz, rfl⟩ := Option.map_eq_some_iff.mp hx
    dsimp only [wipeD, List.set]
    repeat' array_get_dec
    refine ⟨?_, _, .sh, rfl⟩
    rw [List.take_add_one, hz, List.map_append]; rfl
  · rintro ds σ ⟨rfl, s, fs, rfl⟩
    have := cut_len ns none (some 63)
    simp only [List.length_map, List.take_length]
    refine BT_of (by simp only [sizeLine]; omega) ?_
    dsimp only [backD, List.getElem?_cons_zero, List.getElem?_cons_succ, List.set]
    repeat' array_get_dec
    rw [show ((cutL ns none (some 63)).map fun z => D.int (if z < 0 then -z else z)) = ((cutL ns none (some 63)).map fun z => if z < 0 then -z else z).map .int by rw [List.map_map]; rfl]
    refine ⟨_, rfl, rfl, hand_of (fun c hc => ?_) (by omega) (by omega)⟩
    obtain ⟨z, _, rfl⟩ := List.mem_map.mp hc
    split <;> omega
end DpK
end

section
set_option linter.all false
set_option autoImplicit false
/-! DpH1: sheets of signs, their sums (plain) -/
namespace Sh
abbrev Bd := List (List Int)
/-- the sign at a cell -/
def g (b : Bd) (i j : Nat) : Int := (b.getD i []).getD j 0
def R (b : Bd) (i : Nat) : Int := (b.getD i []).sum
def col (b : Bd) (j : Nat) : List Int := b.map fun r => r.getD j 0
def C (b : Bd) (j : Nat) : Int := (col b j).sum
def st (b : Bd) (i j : Nat) (x : Int) : Bd := b.set i ((b.getD i []).set j x)
/-- a sheet of h rows, w columns, signs below s -/
structure Sheet (s : Int) (h w : Nat) (b : Bd) : Prop where
  rows : b.length = h
  cols : ∀ r ∈ b, r.length = w
  sign : ∀ r ∈ b, ∀ x ∈ r, 0 ≤ x ∧ x < s
def Fits (s : Int) (h w : Nat) (b : Bd) : Prop := (∀ i < h, R b i % s = 0) ∧ ∀ j < w, C b j % s = 0
instance (s : Int) (h w : Nat) (b : Bd) : Decidable (Fits s h w b) := by unfold Fits; infer_instance
theorem sum_set : ∀ {l : List Int} {i : Nat} {x : Int}, i < l.length → (l.set i x).sum = l.sum - l.getD i 0 + x
  | a :: l, 0, x, _ => by simp [List.set]; omega
  | a :: l, i + 1, x, h => by
    have := sum_set (l := l) (i := i) (x := x) (by simpa using h)
    simp only [List.set, List.sum_cons, List.getD_cons_succ]
    omega
theorem getD_set {α : Type} {l : List α} {i k : Nat} {x d : α} (h : i < l.length) : (l.set i x).getD k d = if k = i then x else l.getD k d := by
  rw [List.getD_eq_getElem?_getD, List.getElem?_set]
  by_cases e : i = k
  · subst e; simp [h]
  · rw [if_neg e, if_neg (Ne.symm e), List.getD_eq_getElem?_getD]
section
variable {s : Int} {h w : Nat} {b : Bd} {i j : Nat} {x : Int}
theorem Sheet.at (S : Sheet s h w b) (hi : i < h) : b[i]? = some (b.getD i []) := by
  have hl : i < b.length := by rw [S.rows]; exact hi
  rw [List.getD_eq_getElem?_getD, List.getElem?_eq_getElem hl]; rfl
theorem Sheet.mem (S : Sheet s h w b) (hi : i < h) : b.getD i [] ∈ b := List.mem_of_getElem? (S.at hi)
theorem Sheet.len (S : Sheet s h w b) (hi : i < h) : (b.getD i []).length = w := S.cols _ (S.mem hi)
theorem Sheet.cell (S : Sheet s h w b) (hi : i < h) (hj : j < w) : (b.getD i [])[j]? = some (g b i j) := by
  have hl : j < (b.getD i []).length := by rw [S.len hi]; exact hj
  rw [g, List.getD_eq_getElem?_getD (l := b.getD i []), List.getElem?_eq_getElem hl]; rfl
theorem Sheet.g_in (S : Sheet s h w b) (hi : i < h) (hj : j < w) : 0 ≤ g b i j ∧ g b i j < s := S.sign _ (S.mem hi) _ (List.mem_of_getElem? (S.cell hi hj))
theorem Sheet.st (S : Sheet s h w b) (hi : i < h) (hj : j < w) (hx : 0 ≤ x ∧ x < s) : Sheet s h w (Sh.st b i j x) := by
  refine ⟨by rw [Sh.st, List.length_set, S.rows], fun r hr => ?_, fun r hr => ?_⟩
  · rcases List.mem_or_eq_of_mem_set hr with hr | hr
    · exact S.cols r hr
    · rw [hr, List.length_set, S.len hi]
  · rcases List.mem_or_eq_of_mem_set hr with hr | hr
    · exact S.sign r hr
    · rw [hr]
      intro y hy
      rcases List.mem_or_eq_of_mem_set hy with hy | hy
      · exact S.sign _ (S.mem hi) y hy
      · rw [hy]; exact hx
theorem st_row (S : Sheet s h w b) (hi : i < h) (k : Nat) : (Sh.st b i j x).getD k [] = if k = i then (b.getD i []).set j x else b.getD k [] := getD_set (by rw [S.rows]; exact hi)
theorem st_g (S : Sheet s h w b) (hi : i < h) (hj : j < w) (k l : Nat) : g (Sh.st b i j x) k l = if k = i ∧ l = j then x else g b k l := by
  rw [g, st_row S hi]
  by_cases e : k = i
  · subst e
    rw [if_pos rfl, getD_set (by rw [S.len hi]; exact hj)]
    by_cases e2 : l = j
    · rw [if_pos e2, if_pos ⟨rfl, e2⟩]
    · rw [if_neg e2, if_neg (fun z => e2 z.2)]; rfl
  · rw [if_neg e, if_neg (fun z => e z.1)]; rfl
theorem st_R (S : Sheet s h w b) (hi : i < h) (hj : j < w) (k : Nat) : R (Sh.st b i j x) k = if k = i then R b i - g b i j + x else R b k := by
  rw [R, st_row S hi]
  by_cases e : k = i
  · rw [if_pos e, if_pos e, sum_set (by rw [S.len hi]; exact hj)]; rfl
  · rw [if_neg e, if_neg e]; rfl
theorem col_st (S : Sheet s h w b) (hi : i < h) (hj : j < w) (l : Nat) : col (Sh.st b i j x) l = (col b l).set i (if l = j then x else g b i l) := by
  rw [col, Sh.st, List.map_set, col]
  congr 1
  rw [getD_set (by rw [S.len hi]; exact hj)]
  rfl
theorem col_len (S : Sheet s h w b) (l : Nat) : (col b l).length = h := by rw [col, List.length_map, S.rows]
theorem col_at (S : Sheet s h w b) (hi : i < h) (l : Nat) : (col b l).getD i 0 = g b i l := by
  rw [col, List.getD_eq_getElem?_getD, List.getElem?_map, S.at hi]; rfl
theorem st_C (S : Sheet s h w b) (hi : i < h) (hj : j < w) (l : Nat) : C (Sh.st b i j x) l = if l = j then C b j - g b i j + x else C b l := by
  rw [C, col_st S hi hj, sum_set (by rw [col_len S]; exact hi), col_at S hi]
  by_cases e : l = j
  · subst e; rw [if_pos rfl, if_pos rfl]; rfl
  · rw [if_neg e, if_neg e, C]; omega
/-- two sheets alike at all cells are one -/
theorem Sheet.ext {b c : Bd} (S : Sheet s h w b) (T : Sheet s h w c) (e : ∀ i < h, ∀ j < w, g b i j = g c i j) : b = c := by
  refine List.ext_getElem? fun i => ?_
  by_cases hi : i < h
  · rw [S.at hi, T.at hi]
    congr 1
    refine List.ext_getElem? fun j => ?_
    by_cases hj : j < w
    · rw [S.cell hi hj, T.cell hi hj, e i hi j hj]
    · rw [List.getElem?_eq_none (by rw [S.len hi]; omega), List.getElem?_eq_none (by rw [T.len hi]; omega)]
  · rw [List.getElem?_eq_none (by rw [S.rows]; omega), List.getElem?_eq_none (by rw [T.rows]; omega)]
end
/-! ### one sign that makes it good -/
section
variable {s : Int} {h w : Nat} {b : Bd}
/-- a cell and a sign, otherwise than it is, that make it good -/
def One (s : Int) (h w : Nat) (b : Bd) (i j : Nat) (x : Int) : Prop := i < h ∧ j < w ∧ (0 ≤ x ∧ x < s) ∧ x ≠ g b i j ∧ Fits s h w (st b i j x)
/-- the wrong rows are just i, the wrong columns just j, by as much -/
def Just (s : Int) (h w : Nat) (b : Bd) (i j : Nat) : Prop := i < h ∧ j < w ∧ R b i % s ≠ 0 ∧ R b i % s = C b j % s ∧ (∀ k < h, k ≠ i → R b k % s = 0) ∧ ∀ l < w, l ≠ j → C b l % s = 0
theorem mod_ne {s a c : Int} (hs : 0 < s) (ha : 0 ≤ a ∧ a < s) (hc : 0 ≤ c ∧ c < s) (ne : a ≠ c) : (a - c) % s ≠ 0 := by
  intro e
  have h1 := Int.emod_eq_emod_iff_emod_sub_eq_zero.mpr e
  rw [Int.emod_eq_of_lt ha.1 ha.2, Int.emod_eq_of_lt hc.1 hc.2] at h1
  exact ne h1
theorem mod_add_zero {s a d : Int} (e : (a + d) % s = 0) : a % s = (-d) % s := by
  refine Int.emod_eq_emod_iff_emod_sub_eq_zero.mpr ?_
  rw [show a - -d = a + d by omega]; exact e
theorem one_just (hs : 0 < s) (S : Sheet s h w b) {i j : Nat} {x : Int} (o : One s h w b i j x) : Just s h w b i j ∧ x = (g b i j - R b i % s) % s := by
  obtain ⟨hi, hj, hx, ne, fr, fc⟩ := o
  have hg := S.g_in hi hj
  have r1 := fr i hi
  rw [st_R S hi hj, if_pos rfl] at r1
  have c1 := fc j hj
  rw [st_C S hi hj, if_pos rfl] at c1
  have er : R b i % s = (g b i j - x) % s := by
    have := mod_add_zero (a := R b i) (d := x - g b i j) (s := s) (by rw [← r1]; congr 1; omega)
    rw [this]; congr 1; omega
  have ec : C b j % s = (g b i j - x) % s := by
    have := mod_add_zero (a := C b j) (d := x - g b i j) (s := s) (by rw [← c1]; congr 1; omega)
    rw [this]; congr 1; omega
  refine ⟨⟨hi, hj, by rw [er]; exact mod_ne hs hg hx (Ne.symm ne), by rw [er, ec], fun k hk nk => ?_, fun l hl nl => ?_⟩, ?_⟩
  · have := fr k hk
    rwa [st_R S hi hj, if_neg nk] at this
  · have := fc l hl
    rwa [st_C S hi hj, if_neg nl] at this
  · rw [er, Int.sub_emod, Int.emod_emod, ← Int.sub_emod, show g b i j - (g b i j - x) = x by omega, Int.emod_eq_of_lt hx.1 hx.2]
theorem just_one (hs : 0 < s) (S : Sheet s h w b) {i j : Nat} (u : Just s h w b i j) : One s h w b i j ((g b i j - R b i % s) % s) := by
  obtain ⟨hi, hj, nz, eq, hr, hc⟩ := u
  have hg := S.g_in hi hj
  have hx : 0 ≤ (g b i j - R b i % s) % s ∧ (g b i j - R b i % s) % s < s := ⟨Int.emod_nonneg _ (by omega), Int.emod_lt_of_pos _ hs⟩
  have key : ∀ A : Int, A % s = R b i % s → (A - g b i j + (g b i j - R b i % s) % s) % s = 0 := fun A hA => by
    rw [Int.add_emod, Int.emod_emod, ← Int.add_emod, show A - g b i j + (g b i j - R b i % s) = A - R b i % s by omega, Int.sub_emod, Int.emod_emod, hA, Int.sub_self]; rfl
  refine ⟨hi, hj, hx, fun e => ?_, fun k hk => ?_, fun l hl => ?_⟩
  · refine nz ?_
    have e2 : (g b i j - R b i % s) % s = g b i j % s := by rw [e, Int.emod_eq_of_lt hg.1 hg.2]
    have := Int.emod_eq_emod_iff_emod_sub_eq_zero.mp e2
    rw [show g b i j - R b i % s - g b i j = -(R b i % s) by omega] at this
    have := Int.dvd_of_emod_eq_zero this
    rw [Int.dvd_neg] at this
    have := Int.emod_eq_zero_of_dvd this
    rwa [Int.emod_emod] at this
  · rw [st_R S hi hj]
    by_cases e : k = i
    · rw [if_pos e]; exact key _ rfl
    · rw [if_neg e]; exact hr k hk e
  · rw [st_C S hi hj]
    by_cases e : l = j
    · rw [if_pos e]; exact key _ eq.symm
    · rw [if_neg e]; exact hc l hl e
theorem just_uniq {i j i' j' : Nat} (u : Just s h w b i j) (v : Just s h w b i' j') : i = i' ∧ j = j' := by
  obtain ⟨hi, hj, nz, eq, hr, hc⟩ := u
  obtain ⟨hi', hj', nz', eq', hr', hc'⟩ := v
  refine ⟨Classical.byContradiction fun n => nz (hr' i hi n), Classical.byContradiction fun n => ?_⟩
  exact nz (by rw [eq]; exact hc' j hj n)
end
end Sh
end

section
set_option linter.all false
set_option autoImplicit false
/-! DpH2: signs changed; sums put at the ends (plain) -/
namespace Sh
section
variable {s : Int} {h w : Nat} {b b0 : Bd}
theorem st_back (S : Sheet s h w b) {i j : Nat} {x : Int} (hi : i < h) (hj : j < w) (hx : 0 ≤ x ∧ x < s) : st (st b i j x) i j (g b i j) = b := by
  have S1 := S.st hi hj hx
  refine (S1.st hi hj (S.g_in hi hj)).ext S fun k hk l hl => ?_
  rw [st_g S1 hi hj, st_g S hi hj]
  by_cases e : k = i ∧ l = j
  · rw [if_pos e, e.1, e.2]
  · rw [if_neg e, if_neg e]
/-- one sign changed: it is told -/
theorem one_back (S : Sheet s h w b) (f : Fits s h w b) {i j : Nat} {x : Int} (hi : i < h) (hj : j < w) (hx : 0 ≤ x ∧ x < s) (ne : x ≠ g b i j) : One s h w (st b i j x) i j (g b i j) := by
  refine ⟨hi, hj, S.g_in hi hj, ?_, by rw [st_back S hi hj hx]; exact f⟩
  rw [st_g S hi hj, if_pos ⟨rfl, rfl⟩]
  exact Ne.symm ne
abbrev Cg := Nat × Nat × Int
def dR (cs : List Cg) (i : Nat) : Int := (cs.map fun c => if c.1 = i then c.2.2 else 0).sum
def dC (cs : List Cg) (j : Nat) : Int := (cs.map fun c => if c.2.1 = j then c.2.2 else 0).sum
/-- b comes of b0 by changes at cells each unlike -/
structure Ch (s : Int) (h w : Nat) (b0 : Bd) (cs : List Cg) (b : Bd) : Prop where
  sh : Sheet s h w b
  r : ∀ i < h, R b i = R b0 i + dR cs i
  c : ∀ j < w, C b j = C b0 j + dC cs j
  ok : ∀ c ∈ cs, c.1 < h ∧ c.2.1 < w ∧ c.2.2 % s ≠ 0
  nd : (cs.map fun c => (c.1, c.2.1)).Nodup
theorem Ch.nil (S : Sheet s h w b) : Ch s h w b [] b := ⟨S, fun i _ => by simp [dR], fun j _ => by simp [dC], fun _ h => (nomatch h), List.nodup_nil⟩
theorem Ch.step {cs : List Cg} (k : Ch s h w b0 cs b) {i j : Nat} {x : Int} (hs : 0 < s) (hi : i < h) (hj : j < w) (hx : 0 ≤ x ∧ x < s) (ne : x ≠ g b i j) (nw : (i, j) ∉ cs.map fun c => (c.1, c.2.1)) : Ch s h w b0 (cs ++ [(i, j, x - g b i j)]) (st b i j x) := by
  refine ⟨k.sh.st hi hj hx, fun i' hi' => ?_, fun j' hj' => ?_, fun c hc => ?_, ?_⟩
  · rw [st_R k.sh hi hj, dR, List.map_append, List.sum_append]
    have := k.r i' hi'
    simp only [dR] at this
    by_cases e : i' = i
    · subst e; simp; omega
    · rw [if_neg e, this]; simp [Ne.symm e]
  · rw [st_C k.sh hi hj, dC, List.map_append, List.sum_append]
    have := k.c j' hj'
    simp only [dC] at this
    by_cases e : j' = j
    · subst e; simp; omega
    · rw [if_neg e, this]; simp [Ne.symm e]
  · rcases List.mem_append.mp hc with hc | hc
    · exact k.ok c hc
    · rw [List.mem_singleton.mp hc]
      exact ⟨hi, hj, mod_ne hs hx (k.sh.g_in hi hj) ne⟩
  · rw [List.map_append, List.nodup_append]
    refine ⟨k.nd, by simp, fun a ha c hc => ?_⟩
    simp only [List.map_cons, List.map_nil, List.mem_singleton] at hc
    subst hc
    exact fun e => nw (e ▸ ha)
theorem zero_add_mod {a d : Int} (e : a % s = 0) : (a + d) % s = d % s := by rw [Int.add_emod, e, Int.zero_add, Int.emod_emod]
/-- one to three signs changed: it is seen -/
theorem Ch.seen {cs : List Cg} (k : Ch s h w b0 cs b) (f0 : Fits s h w b0) (h1 : 1 ≤ cs.length) (h3 : cs.length ≤ 3) : ¬ Fits s h w b := by
  intro f
  have er : ∀ c ∈ cs, dR cs c.1 % s = 0 := fun c hc => by
    have hi := (k.ok c hc).1
    have := f.1 _ hi
    rwa [k.r _ hi, zero_add_mod (f0.1 _ hi)] at this
  have ec : ∀ c ∈ cs, dC cs c.2.1 % s = 0 := fun c hc => by
    have hj := (k.ok c hc).2.1
    have := f.2 _ hj
    rwa [k.c _ hj, zero_add_mod (f0.2 _ hj)] at this
  have nz : ∀ c ∈ cs, c.2.2 % s ≠ 0 := fun c hc => (k.ok c hc).2.2
  have nd := k.nd
  match cs, h1, h3, er, ec, nz, nd with
  | [c1], _, _, er, _, nz, _ =>
    refine nz c1 (by simp) ?_
    have := er c1 (by simp)
    simpa [dR] using this
  | [(i1, j1, d1), (i2, j2, d2)], _, _, er, ec, nz, nd =>
    have r1 := er (i1, j1, d1) (by simp)
    have c1 := ec (i1, j1, d1) (by simp)
    have n1 := nz (i1, j1, d1) (by simp)
    simp only [dR, dC, List.map_cons, List.map_nil, List.sum_cons, List.sum_nil, if_true] at r1 c1
    have nd : ¬ (i1 = i2 ∧ j1 = j2) := by simpa using nd
    by_cases e1 : i2 = i1
    · have e2 : ¬ j2 = j1 := fun e => nd ⟨e1.symm, e.symm⟩
      rw [if_neg e2] at c1
      exact n1 (by simpa using c1)
    · rw [if_neg e1] at r1
      exact n1 (by simpa using r1)
  | [(i1, j1, d1), (i2, j2, d2), (i3, j3, d3)], _, _, er, ec, nz, nd =>
    have r1 := er (i1, j1, d1) (by simp)
    have c1 := ec (i1, j1, d1) (by simp)
    have n1 := nz (i1, j1, d1) (by simp)
    have r2 := er (i2, j2, d2) (by simp)
    have c2 := ec (i2, j2, d2) (by simp)
    have n2 := nz (i2, j2, d2) (by simp)
    have r3 := er (i3, j3, d3) (by simp)
    have c3 := ec (i3, j3, d3) (by simp)
    have n3 := nz (i3, j3, d3) (by simp)
    simp only [dR, dC, List.map_cons, List.map_nil, List.sum_cons, List.sum_nil, if_true] at r1 c1 r2 c2 r3 c3
    obtain ⟨n12, n13, n23⟩ : ¬ (i1 = i2 ∧ j1 = j2) ∧ ¬ (i1 = i3 ∧ j1 = j3) ∧ ¬ (i2 = i3 ∧ j2 = j3) := by
      simp only [List.map_cons, List.map_nil, List.nodup_cons, List.mem_cons, List.not_mem_nil, or_false, Prod.mk.injEq, not_or] at nd
      exact ⟨nd.1.1, nd.1.2, nd.2.1⟩
    by_cases a12 : i1 = i2 <;> by_cases a13 : i1 = i3 <;> by_cases a23 : i2 = i3 <;> by_cases b12 : j1 = j2 <;> by_cases b13 : j1 = j3 <;> by_cases b23 : j2 = j3 <;> simp_all
/-! ### sums at the ends -/
def ends (s : Int) (b : Bd) : Bd := b.map fun r => r ++ [(0 - r.sum) % s]
def below (s : Int) (w : Nat) (b : Bd) : List Int := (List.range w).map fun j => (0 - C b j) % s
def summed (s : Int) (w : Nat) (b : Bd) : Bd := ends s b ++ [below s (w + 1) (ends s b)]
theorem sum_app1 (l : List Int) (x : Int) : (l ++ [x]).sum = l.sum + x := by simp
theorem ends_sheet (hs : 0 < s) (S : Sheet s h w b) : Sheet s h (w + 1) (ends s b) := by
  refine ⟨by rw [ends, List.length_map, S.rows], fun r hr => ?_, fun r hr => ?_⟩
  · obtain ⟨q, hq, rfl⟩ := List.mem_map.mp hr
    rw [List.length_append, S.cols q hq]; rfl
  · obtain ⟨q, hq, rfl⟩ := List.mem_map.mp hr
    intro x hx
    rcases List.mem_append.mp hx with hx | hx
    · exact S.sign q hq x hx
    · rw [List.mem_singleton.mp hx]
      exact ⟨Int.emod_nonneg _ (by omega), Int.emod_lt_of_pos _ hs⟩
theorem neg_mod (a : Int) : (a + (0 - a) % s) % s = 0 := by
  rw [Int.add_emod, Int.emod_emod, ← Int.add_emod, show a + (0 - a) = 0 by omega, Int.zero_emod]
theorem ends_R (S : Sheet s h w b) {i : Nat} (hi : i < h) : R (ends s b) i % s = 0 := by
  rw [R, ends, List.getD_eq_getElem?_getD, List.getElem?_map, S.at hi]
  show (b.getD i [] ++ [(0 - (b.getD i []).sum) % s]).sum % s = 0
  rw [sum_app1]
  exact neg_mod _
theorem below_len (s : Int) (w : Nat) (b : Bd) : (below s w b).length = w := by rw [below, List.length_map, List.length_range]
theorem sum_map_mod {α : Type} (l : List α) (f : α → Int) : (l.map fun a => f a % s).sum % s = (l.map f).sum % s := by
  induction l with
  | nil => rfl
  | cons a l ih =>
    rw [List.map_cons, List.sum_cons, List.map_cons, List.sum_cons, Int.add_emod, ih, Int.emod_emod, ← Int.add_emod]
theorem sum_neg {α : Type} (l : List α) (f : α → Int) : (l.map fun a => 0 - f a).sum = 0 - (l.map f).sum := by
  induction l with
  | nil => rfl
  | cons a l ih => rw [List.map_cons, List.sum_cons, List.map_cons, List.sum_cons, ih]; omega
theorem sum_range_getD : ∀ (l : List Int), ((List.range l.length).map fun j => l.getD j 0).sum = l.sum
  | [] => rfl
  | a :: l => by
    rw [List.length_cons, List.range_succ_eq_map, List.map_cons, List.map_map, List.sum_cons, List.sum_cons, ← sum_range_getD l]
    rfl
theorem sum_add_map {α : Type} (l : List α) (f q : α → Int) : (l.map fun a => f a + q a).sum = (l.map f).sum + (l.map q).sum := by
  induction l with
  | nil => rfl
  | cons a l ih => rw [List.map_cons, List.sum_cons, ih, List.map_cons, List.sum_cons, List.map_cons, List.sum_cons]; omega
/-- all signs, by columns, by rows -/
theorem sum_cols : ∀ (b : Bd) (w : Nat), (∀ r ∈ b, r.length = w) → ((List.range w).map fun j => C b j).sum = (b.map List.sum).sum
  | [], w, _ => by
    have : ∀ l : List Nat, (l.map fun _ => (0 : Int)).sum = 0 := fun l => by induction l with | nil => rfl | cons a l ih => rw [List.map_cons, List.sum_cons, ih]; rfl
    exact this _
  | r :: b, w, hb => by
    have e : (fun j => C (r :: b) j) = fun j => r.getD j 0 + C b j := by funext j; show (r.getD j 0 :: col b j).sum = _; rw [List.sum_cons]; rfl
    rw [e, sum_add_map, sum_cols b w fun q hq => hb q (List.mem_cons_of_mem _ hq), List.map_cons, List.sum_cons]
    congr 1
    rw [← hb r (List.mem_cons_self ..)]
    exact sum_range_getD r
theorem sum_zero_mod (l : List Int) (hl : ∀ x ∈ l, x % s = 0) : l.sum % s = 0 := by
  induction l with
  | nil => exact Int.zero_emod s
  | cons a l ih => rw [List.sum_cons, zero_add_mod (hl a (List.mem_cons_self ..)), ih fun x hx => hl x (List.mem_cons_of_mem _ hx)]
theorem summed_sheet (hs : 0 < s) (S : Sheet s h w b) : Sheet s (h + 1) (w + 1) (summed s w b) := by
  have E := ends_sheet hs S
  refine ⟨by rw [summed, List.length_append, E.rows]; rfl, fun r hr => ?_, fun r hr => ?_⟩
  · rcases List.mem_append.mp hr with hr | hr
    · exact E.cols r hr
    · rw [List.mem_singleton.mp hr, below_len]
  · rcases List.mem_append.mp hr with hr | hr
    · exact E.sign r hr
    · rw [List.mem_singleton.mp hr]
      intro x hx
      obtain ⟨j, _, rfl⟩ := List.mem_map.mp hx
      exact ⟨Int.emod_nonneg _ (by omega), Int.emod_lt_of_pos _ hs⟩
theorem C_app (b : Bd) (r : List Int) (j : Nat) : C (b ++ [r]) j = C b j + r.getD j 0 := by
  rw [C, col, List.map_append, List.sum_append]
  simp [C, col]
theorem summed_fits (hs : 0 < s) (S : Sheet s h w b) : Fits s (h + 1) (w + 1) (summed s w b) := by
  have E := ends_sheet hs S
  refine ⟨fun i hi => ?_, fun j hj => ?_⟩
  · by_cases e : i < h
    · have : R (summed s w b) i = R (ends s b) i := by
        rw [R, R, summed, List.getD_eq_getElem?_getD, List.getElem?_append_left (by rw [E.rows]; exact e), List.getD_eq_getElem?_getD]
      rw [this]
      exact ends_R S e
    · have ei : i = h := by omega
      subst ei
      have : R (summed s w b) i = (below s (w + 1) (ends s b)).sum := by
        rw [R, summed, List.getD_eq_getElem?_getD, List.getElem?_append_right (by rw [E.rows]; exact Nat.le_refl _), E.rows, Nat.sub_self]
        rfl
      rw [this, below, sum_map_mod, sum_neg, sum_cols (ends s b) (w + 1) E.cols]
      have : ((ends s b).map List.sum).sum % s = 0 := sum_zero_mod _ fun x hx => by
        obtain ⟨r, hr, rfl⟩ := List.mem_map.mp hx
        obtain ⟨k, hk, ek⟩ := List.getElem_of_mem hr
        have := ends_R S (i := k) (by rw [E.rows] at hk; exact hk)
        rw [R, List.getD_eq_getElem?_getD, List.getElem?_eq_getElem hk] at this
        rwa [← ek]
      have d := Int.dvd_of_emod_eq_zero this
      exact Int.emod_eq_zero_of_dvd (by rw [Int.zero_sub]; exact Int.dvd_neg.mpr d)
  · rw [summed, C_app]
    have : (below s (w + 1) (ends s b)).getD j 0 = (0 - C (ends s b) j) % s := by
      rw [below, List.getD_eq_getElem?_getD, List.getElem?_map, List.getElem?_range hj]; rfl
    rw [this]
    exact neg_mod _
end
end Sh
end

section
set_option linter.all false
set_option autoImplicit false
open Dp
/-! DpH3: sheets as data (plain) -/
namespace Sh
abbrev rowD (r : List Int) : D := .tup (r.map .int)
abbrev bdD (b : Bd) : D := .tup (b.map rowD)
theorem lexInts_map (r : List Int) : lexInts (r.map D.int) = some r := by
  induction r with
  | nil => rfl
  | cons a r ih => rw [List.map_cons, lexInts, ih]; rfl
theorem LF_sumT {r : List Int} {k : RV → Prop} (h : k (.val (.int r.sum))) : LF (b1D .sum (.tup (r.map D.int))) k := LF_eq (a := .val (.int r.sum)) (by rw [b1D, lexInts_map]; rfl) h
theorem LF_sumL {r : List Int} {k : RV → Prop} (h : k (.val (.int r.sum))) : LF (b1D .sum (.lst (r.map D.int))) k := LF_eq (a := .val (.int r.sum)) (by rw [b1D, intsOf, lexInts_map]; rfl) h
theorem LF_anyT {r : List Int} {k : RV → Prop} (h : k (.val (.bl (r.any fun i => i != 0)))) : LF (b1D .any (.tup (r.map D.int))) k := LF_eq (a := .val (.bl (r.any fun i => i != 0))) (by rw [b1D, lexInts_map]; rfl) h
theorem any_zero (r : List Int) : (r.any fun i => i != 0) = !decide (∀ x ∈ r, x = 0) := by
  induction r with
  | nil => rfl
  | cons a r ih =>
    rw [List.any_cons, ih]
    by_cases h : a = 0
    · subst h; simp
    · simp [h]
theorem rangeD0 (n : Nat) : rangeD 0 n 1 = (List.range n).map fun (i : Nat) => D.int i := by
  unfold rangeD
  rw [show ((n : Int) - 0 + 1 - 1) / 1 = n by omega]
  refine List.map_congr_left fun i _ => ?_
  congr 1; omega
theorem cut_map {α β : Type} (f : α → β) (l : List α) (a b : Option Int) : cutL (l.map f) a b = (cutL l a b).map f := by
  unfold cutL
  rw [List.length_map, List.map_take, List.map_drop]
theorem erase_perm {α : Type} : ∀ {l : List α} {i : Nat} (h : i < l.length), (l[i] :: l.eraseIdx i).Perm l
  | a :: l, 0, _ => List.Perm.refl _
  | a :: l, i + 1, h => (List.Perm.swap a _ _).trans (List.Perm.cons a (erase_perm (l := l) (i := i) (by simpa using h)))
/-- what is left of rows, of columns -/
def rowsM (s : Int) (b : Bd) : List Int := b.map fun r => r.sum % s
def colsM (s : Int) (w : Nat) (b : Bd) : List Int := (List.range w).map fun j => C b j % s
def leftD (s : Int) (w : Nat) (b : Bd) : D := .tup [.tup ((rowsM s b).map .int), .tup ((colsM s w b).map .int)]
section
variable {s : Int} {h w : Nat} {b : Bd}
theorem rowsM_len (S : Sheet s h w b) : (rowsM s b).length = h := by rw [rowsM, List.length_map, S.rows]
theorem colsM_len : (colsM s w b).length = w := by rw [colsM, List.length_map, List.length_range]
theorem rowsM_at (S : Sheet s h w b) {i : Nat} (hi : i < h) : (rowsM s b)[i]? = some (R b i % s) := by rw [rowsM, List.getElem?_map, S.at hi]; rfl
theorem colsM_at {j : Nat} (hj : j < w) : (colsM s w b)[j]? = some (C b j % s) := by rw [colsM, List.getElem?_map, List.getElem?_range hj]; rfl
theorem fits_iff (S : Sheet s h w b) : (∀ x ∈ rowsM s b, x = 0) ∧ (∀ x ∈ colsM s w b, x = 0) ↔ Fits s h w b := by
  constructor
  · rintro ⟨h1, h2⟩
    exact ⟨fun i hi => h1 _ (List.mem_of_getElem? (rowsM_at S hi)), fun j hj => h2 _ (List.mem_of_getElem? (colsM_at hj))⟩
  · rintro ⟨h1, h2⟩
    refine ⟨fun x hx => ?_, fun x hx => ?_⟩
    · obtain ⟨i, hi⟩ := List.mem_iff_getElem?.mp hx
      have hl : i < h := by rw [← rowsM_len S]; exact (List.getElem?_eq_some_iff.mp hi).1
      rw [rowsM_at S hl] at hi
      cases hi
      exact h1 i hl
    · obtain ⟨j, hj⟩ := List.mem_iff_getElem?.mp hx
      have hl : j < w := by rw [← colsM_len (s := s) (w := w) (b := b)]; exact (List.getElem?_eq_some_iff.mp hj).1
      rw [colsM_at hl] at hj
      cases hj
      exact h2 j hl
/-- a cell set by cutting and joining -/
theorem set_cut {α : Type} {l : List α} {i : Nat} {x : α} (hi : i < l.length) : cutL l none (some (i : Int)) ++ [x] ++ cutL l (some ((i : Int) + 1)) none = l.set i x := by
  rw [cut_to (by omega), cut_from (by omega), List.set_eq_take_append_cons_drop, if_pos hi, List.append_assoc]
  rfl
end
end Sh
end

section
set_option linter.all false
set_option autoImplicit false
set_option maxRecDepth 100000
open Dp Sh
local macro_rules | `(tactic| array_get_dec) => `(tactic| first   | with_reducible apply W_cons   | with_reducible apply W_nil   | with_reducible apply W_set   | with_reducible apply W_ret   | with_reducible apply W_ife   | with_reducible apply W_for   | with_reducible apply W_ex   | ((with_reducible apply W_mm); exact rfl)   | with_reducible apply W_seti   | with_reducible apply W_unp   | with_reducible apply W_par   | ((with_reducible apply W_aug); exact rfl)   | with_reducible apply W_pass   | with_reducible apply W_brk   | with_reducible apply W_cont   | with_reducible apply W_retn   | ((with_reducible apply W_rais); exact rfl)   | with_reducible apply W_k   | ((with_reducible refine BT_of ?_ ?_); (first | exact rfl | decide | (simp only [List.length_cons, List.length_nil, sizeLine]; omega)))   | ((with_reducible apply W_v); exact rfl)   | ((with_reducible apply W_vo); exact rfl)   | ((with_reducible apply W_vb); exact rfl)   | ((with_reducible apply W_glb); exact rfl)   | with_reducible apply W_bin   | with_reducible apply W_cmp   | with_reducible apply W_sub   | with_reducible apply W_and   | with_reducible apply W_or   | with_reducible apply W_nt   | with_reducible apply W_neg   | with_reducible apply W_chn   | with_reducible apply W_isn   | with_reducible apply W_isb   | with_reducible apply W_ite   | with_reducible apply W_tup   | with_reducible apply W_lst   | with_reducible apply W_slc   | with_reducible apply W_rev   | with_reducible apply W_rlT   | with_reducible apply W_rlF   | with_reducible apply W_isi   | with_reducible apply W_b1   | with_reducible apply W_b2   | with_reducible apply W_m1   | with_reducible apply W_call   | ((with_reducible apply W_callm); exact rfl)   | ((with_reducible apply W_mp); exact rfl)   | ((with_reducible apply MP_val); exact rfl)   | ((with_reducible apply W_callv); exact rfl; exact rfl)   | ((with_reducible apply W_tld); exact rfl)   | with_reducible apply W_lc   | with_reducible apply W_att   | ((with_reducible apply LF_att); exact rfl; exact rfl)   | ((with_reducible apply W_mk); exact rfl)   | with_reducible apply W_setf   | with_reducible apply W_lc2   | with_reducible apply W_esnil   | with_reducible apply W_escons   | with_reducible apply W_ernil   | with_reducible apply W_ercons   | with_reducible apply W_seq   | with_reducible apply W_rng   | with_reducible apply W_enum   | with_reducible apply W_zip2   | with_reducible apply W_om   | with_reducible apply P1_val   | with_reducible apply P1_frl   | with_reducible apply P1_frd   | with_reducible apply P1_fri   | ((with_reducible apply P1_borl); exact rfl)   | ((with_reducible apply P1_bobl); exact rfl)   | ((with_reducible apply P1_bor); exact rfl)   | ((with_reducible apply P1_bob); exact rfl)   | ((with_reducible apply P1_bosh); exact rfl)   | with_reducible apply U_val   | with_reducible apply UK_val   | with_reducible apply UK_fr   | with_reducible apply UK_bor   | with_reducible apply U_frl   | with_reducible apply U_fr   | ((with_reducible apply U_bor); exact rfl; dsimp only [frz, List.set])   | ((with_reducible apply U_bosh); exact rfl)   | with_reducible apply K_nx   | with_reducible apply K_rt   | with_reducible apply K_bk   | with_reducible apply K_ct   | with_reducible apply CN_val   | with_reducible apply CN_fr   | with_reducible apply CNX_of   | with_reducible apply CM_val0   | with_reducible apply CM_val0o   | with_reducible apply CM_val1o   | with_reducible apply CM_fr0   | with_reducible apply CM_fr0o   | with_reducible apply CM_fr1o   | with_reducible apply CMX_of   | with_reducible apply FN_nx   | with_reducible apply FN_val   | with_reducible apply FN_fr   | ((with_reducible apply FN_bor); exact rfl)   | ((with_reducible apply FN_bosh); exact rfl)   | with_reducible apply FM_nx   | with_reducible apply FM_val   | with_reducible apply FM_fr   | ((with_reducible apply FM_bor); exact rfl)   | with_reducible apply FNX_of   | with_reducible apply FMX_of   | with_reducible apply LQ_nx   | with_reducible apply LQ_rt   | with_reducible apply LQ_bk   | with_reducible apply LQ_ct   | ((with_reducible apply PT_om); exact rfl)   | ((with_reducible apply PT_int); exact rfl)   | with_reducible apply T_true   | with_reducible apply T_false   | with_reducible apply T_not   | with_reducible apply LF_some   | with_reducible apply LF_add   | with_reducible apply LF_sub   | ((with_reducible apply LF_mul); (first | exact Or.inr (Or.inl (small_of (by omega))) | exact Or.inl (small_of (by omega)) | exact Or.inl (small_mod _ _ (by decide) (by decide))))   | ((with_reducible apply LF_pow); decide)   | ((with_reducible apply LF_adds); (first | (simp only [List.length_cons, List.length_nil, List.length_append, sizeLine]; omega)))   | ((with_reducible apply LF_lens); (first | assumption))   | ((with_reducible apply LF_slcs); (first | assumption))   | ((with_reducible apply LF_subs); assumption; (first | assumption | omega); assumption)   | ((with_reducible apply LF_subl); (first | assumption | omega); assumption)   | ((with_reducible apply LF_subt); (first | assumption | omega); assumption)   | ((with_reducible apply LF_sindex); assumption)   | with_reducible apply LF_eqi   | with_reducible apply LF_nei   | with_reducible apply LF_lti   | with_reducible apply LF_lei   | with_reducible apply LF_gti   | with_reducible apply LF_gei   | with_reducible apply LF_eqb   | with_reducible apply LF_neb   | with_reducible apply LF_instr   | with_reducible apply LF_ninstr   | with_reducible apply LF_asgn   | with_reducible apply LF_asgnil   | with_reducible apply LF_asgcons   | with_reducible apply LF_dsnil   | with_reducible apply LF_dscons   | ((with_reducible apply LF_store); exact rfl; (first | exact Fre.sh | exact Fre.un | exact Fre.ow | assumption); dsimp only [List.set])   | ((with_reducible apply LF_storeO); exact rfl; (first | exact Fre.sh | exact Fre.un | exact Fre.ow | assumption); dsimp only [List.set])   | ((with_reducible apply LF_stored); exact rfl; exact rfl; (first | exact Fre.sh | exact Fre.un | exact Fre.ow | assumption); dsimp only [List.set, frz])   | ((with_reducible apply LF_setob); exact rfl; dsimp only [putOb, List.getElem?_cons_zero, List.getElem?_cons_succ, List.set, Int.reduceToNat])   | ((with_reducible refine LF_append ?_ ?_); rotate_left; dsimp only [putOb, List.getElem?_cons_zero, List.getElem?_cons_succ, List.set, List.nil_append, List.cons_append])   | ((with_reducible refine LF_extend ?_ ?_); rotate_left; dsimp only [putOb, List.getElem?_cons_zero, List.getElem?_cons_succ, List.set, List.nil_append, List.cons_append])   | ((with_reducible apply LF_mod); (first | decide | assumption | omega))   | ((with_reducible apply LF_fdiv); (first | decide | assumption | omega); (first | decide | assumption))   | with_reducible apply LF_rng   | with_reducible apply WF_fn   | ((with_reducible apply T_is (c := true)); decide)   | ((with_reducible apply T_is (c := false)); decide)   | (((with_reducible apply T_dec) <;> intro) <;> (try (exfalso; omega)))   | (((with_reducible apply TB_dec) <;> intro) <;> (try (exfalso; omega)))   | ((with_reducible apply T_is (c := true)); exact rfl)   | ((with_reducible apply T_is (c := false)); exact rfl)   | ((with_reducible apply LF_eq); exact rfl))
namespace DpK
/-! sheets: the defs that the laws share (from a template) -/
section
variable {s : Int} {h w : Nat} {b : Bd}
theorem sh_row (S : Sheet s h w b) {i : Nat} (hi : i < h) : (b.map rowD)[i]? = some (rowD (b.getD i [])) := by rw [List.getElem?_map, S.at hi]; rfl
theorem sh_cell (S : Sheet s h w b) {i j : Nat} (hi : i < h) (hj : j < w) : ((b.getD i []).map D.int)[j]? = some (.int (g b i j)) := by rw [List.getElem?_map, S.cell hi hj]; rfl
theorem sh_in (S : Sheet s h w b) {k : Nat} {x : D} (hx : (b.map rowD)[k]? = some x) : k < h ∧ x = rowD (b.getD k []) := by
  have hk : k < h := by
    rw [← S.rows, ← List.length_map (f := rowD)]
    exact (List.getElem?_eq_some_iff.mp hx).1
  rw [sh_row S hk] at hx
  exact ⟨hk, (Option.some.inj hx).symm⟩
end
-- BLOCK left
theorem raw_left_ok (fuel n : Nat) {s : Int} {h w : Nat} {b : Bd} (S : Sheet s h w b) (hs : 0 < s) (h1 : 1 ≤ h) (h8 : h ≤ 8) (wl8 : w ≤ 8) : sem (PR fuel) (n + 1) 12 none [.int s, bdD b] = .ok (.val (leftD s w b)) none := by
  have hl : (b.map rowD).length = h := by rw [List.length_map, S.rows]
  have e0 : (b.map rowD)[(0 : Int).toNat]? = some (.tup ((b.getD 0 []).map D.int)) := sh_row S h1
  have l0 : ((b.getD 0 []).map D.int).length = w := by rw [List.length_map, S.len h1]
  refine WF_of (w12 ?_)
  repeat' array_get_dec
  refine W_lcM (fun x => match x with | .tup r => .int (((lexInts r).getD []).sum % s) | _ => .non) rfl .un ?_ ?_
  · intro k x hx
    obtain ⟨hk, rfl⟩ := sh_in S hx
    dsimp only [List.set]
    repeat' array_get_dec
    refine LF_sumT ?_
    repeat' array_get_dec
    exact ⟨by rw [lexInts_map]; rfl, rfl⟩
  intro s1 f1
  refine BT_of (by rw [List.length_map, hl]; simp only [sizeLine]; omega) ?_
  dsimp only [backD, List.getElem?_cons_zero, List.getElem?_cons_succ, List.set]
  have er : ((b.map rowD).map fun x => match x with | .tup r => D.int (((lexInts r).getD []).sum % s) | _ => .non) = (rowsM s b).map .int := by
    rw [List.map_map, rowsM, List.map_map]
    refine List.map_congr_left fun r _ => ?_
    show D.int (((lexInts (r.map D.int)).getD []).sum % s) = _
    rw [lexInts_map]; rfl
  rw [er]
  repeat' array_get_dec
  · rw [l0]; exact rngc (by omega) (by omega) (by omega) (by omega)
  rw [l0]
  refine W_lcM (fun x => match x with | .int j => .int (C b j.toNat % s) | _ => .non) rfl .un ?_ ?_
  · intro k x hx
    obtain ⟨rfl, hk⟩ := rng_at0 hx
    dsimp only [List.set]
    repeat' array_get_dec
    refine W_lcM (fun x => match x with | .tup r => r.getD k .non | _ => .non) rfl .un ?_ ?_
    · intro i x hx
      obtain ⟨hi, rfl⟩ := sh_in S hx
      have ec : ((b.getD i []).map D.int)[(k : Int).toNat]? = some (.int (g b i k)) := sh_cell S hi hk
      dsimp only [List.set]
      repeat' array_get_dec
      exact ⟨by rw [List.getD_eq_getElem?_getD, ← Int.toNat_natCast k, ec]; rfl, rfl⟩
    intro s2 f2
    refine BT_of (by rw [List.length_map, hl]; simp only [sizeLine]; omega) ?_
    dsimp only [backD, List.getElem?_cons_zero, List.getElem?_cons_succ, List.set]
    have ek : ((b.map rowD).map fun x => match x with | .tup r => r.getD k .non | _ => .non) = (col b k).map .int := by
      rw [List.map_map, col, List.map_map]
      refine List.map_congr_left fun r hr => ?_
      show (r.map D.int).getD k .non = .int (r.getD k 0)
      have hkr : k < r.length := by rw [S.cols r hr]; exact hk
      rw [List.getD_eq_getElem?_getD, List.getElem?_map, List.getD_eq_getElem?_getD, List.getElem?_eq_getElem hkr]; rfl
    rw [ek]
    repeat' array_get_dec
    refine LF_sumL ?_
    repeat' array_get_dec
    exact ⟨rfl, rfl⟩
  intro s2 f2
  refine BT_of (by rw [List.length_map, rng_len0]; simp only [sizeLine]; omega) ?_
  dsimp only [backD, List.getElem?_cons_zero, List.getElem?_cons_succ, List.set]
  have ec : ((rangeD 0 w 1).map fun x => match x with | .int j => D.int (C b j.toNat % s) | _ => .non) = (colsM s w b).map .int := by
    rw [rangeD0, List.map_map, colsM, List.map_map]; rfl
  rw [ec]
  repeat' array_get_dec
  exact ⟨rfl, rfl⟩
-- ENDBLOCK
theorem rests_ok (fuel n : Nat) {s : Int} {h w : Nat} {b : Bd} (S : Sheet s h w b) (hs : 0 < s) (h1 : 1 ≤ h) (h8 : h ≤ 8) (wl8 : w ≤ 8) : sem (PR fuel) (n + 1) 25 none [.int s, bdD b] = .ok (.val (leftD s w b)) none := by
  have hl : (b.map rowD).length = h := by rw [List.length_map, S.rows]
  have e0 : (b.map rowD)[(0 : Int).toNat]? = some (.tup ((b.getD 0 []).map D.int)) := sh_row S h1
  have l0 : ((b.getD 0 []).map D.int).length = w := by rw [List.length_map, S.len h1]
  refine WF_of (w25 ?_)
  repeat' array_get_dec
  refine W_lcM (fun x => match x with | .tup r => .int (((lexInts r).getD []).sum % s) | _ => .non) rfl .un ?_ ?_
  · intro k x hx
    obtain ⟨hk, rfl⟩ := sh_in S hx
    dsimp only [List.set]
    repeat' array_get_dec
    refine LF_sumT ?_
    repeat' array_get_dec
    exact ⟨by rw [lexInts_map]; rfl, rfl⟩
  intro s1 f1
  refine BT_of (by rw [List.length_map, hl]; simp only [sizeLine]; omega) ?_
  dsimp only [backD, List.getElem?_cons_zero, List.getElem?_cons_succ, List.set]
  have er : ((b.map rowD).map fun x => match x with | .tup r => D.int (((lexInts r).getD []).sum % s) | _ => .non) = (rowsM s b).map .int := by
    rw [List.map_map, rowsM, List.map_map]
    refine List.map_congr_left fun r _ => ?_
    show D.int (((lexInts (r.map D.int)).getD []).sum % s) = _
    rw [lexInts_map]; rfl
  rw [er]
  repeat' array_get_dec
  · rw [l0]; exact rngc (by omega) (by omega) (by omega) (by omega)
  rw [l0]
  refine W_lcM (fun x => match x with | .int j => .int (C b j.toNat % s) | _ => .non) rfl .un ?_ ?_
  · intro k x hx
    obtain ⟨rfl, hk⟩ := rng_at0 hx
    dsimp only [List.set]
    repeat' array_get_dec
    refine W_lcM (fun x => match x with | .tup r => r.getD k .non | _ => .non) rfl .un ?_ ?_
    · intro i x hx
      obtain ⟨hi, rfl⟩ := sh_in S hx
      have ec : ((b.getD i []).map D.int)[(k : Int).toNat]? = some (.int (g b i k)) := sh_cell S hi hk
      dsimp only [List.set]
      repeat' array_get_dec
      exact ⟨by rw [List.getD_eq_getElem?_getD, ← Int.toNat_natCast k, ec]; rfl, rfl⟩
    intro s2 f2
    refine BT_of (by rw [List.length_map, hl]; simp only [sizeLine]; omega) ?_
    dsimp only [backD, List.getElem?_cons_zero, List.getElem?_cons_succ, List.set]
    have ek : ((b.map rowD).map fun x => match x with | .tup r => r.getD k .non | _ => .non) = (col b k).map .int := by
      rw [List.map_map, col, List.map_map]
      refine List.map_congr_left fun r hr => ?_
      show (r.map D.int).getD k .non = .int (r.getD k 0)
      have hkr : k < r.length := by rw [S.cols r hr]; exact hk
      rw [List.getD_eq_getElem?_getD, List.getElem?_map, List.getD_eq_getElem?_getD, List.getElem?_eq_getElem hkr]; rfl
    rw [ek]
    repeat' array_get_dec
    refine LF_sumL ?_
    repeat' array_get_dec
    exact ⟨rfl, rfl⟩
  intro s2 f2
  refine BT_of (by rw [List.length_map, rng_len0]; simp only [sizeLine]; omega) ?_
  dsimp only [backD, List.getElem?_cons_zero, List.getElem?_cons_succ, List.set]
  have ec : ((rangeD 0 w 1).map fun x => match x with | .int j => D.int (C b j.toNat % s) | _ => .non) = (colsM s w b).map .int := by
    rw [rangeD0, List.map_map, colsM, List.map_map]; rfl
  rw [ec]
  repeat' array_get_dec
  exact ⟨rfl, rfl⟩
theorem fits_ok (fuel n : Nat) {s : Int} {h w : Nat} {b : Bd} (S : Sheet s h w b) (hs : 0 < s) (h1 : 1 ≤ h) (h8 : h ≤ 8) (wl8 : w ≤ 8) : sem (PR fuel) (n + 2) 26 none [.int s, bdD b] = .ok (.val (.bl (decide (Fits s h w b)))) none := by
  have fi := fits_iff S
  refine WF_of (w26 ?_)
  repeat' array_get_dec
  refine WF_eq (rests_ok _ _ S hs h1 h8 wl8) ?_
  unfold leftD
  repeat' array_get_dec
  refine LF_anyT ?_
  rw [any_zero]
  repeat' array_get_dec
  · refine LF_anyT ?_
    rw [any_zero]
    repeat' array_get_dec
    · rename_i z1 z2
      rw [decide_eq_true (fi.mp ⟨z1, z2⟩)]
      exact ⟨rfl, rfl⟩
    · rename_i z1 z2
      rw [decide_eq_false fun z => z2 (fi.mpr z).2]
      exact ⟨rfl, rfl⟩
  · rename_i z1
    rw [decide_eq_false fun z => z1 (fi.mpr z).1]
    exact ⟨rfl, rfl⟩
theorem with_ok (fuel n : Nat) {s : Int} {h w : Nat} {b : Bd} (S : Sheet s h w b) (h8 : h ≤ 8) (wl8 : w ≤ 8) {i j : Nat} (x : Int) (hi : i < h) (hj : j < w) : sem (PR fuel) (n + 1) 27 none [bdD b, .int i, .int j, .int x] = .ok (.val (bdD (st b i j x))) none := by
  have hl : (b.map rowD).length = h := by rw [List.length_map, S.rows]
  have ei : (b.map rowD)[(i : Int).toNat]? = some (.tup ((b.getD i []).map D.int)) := sh_row S hi
  have l0 : ((b.getD i []).map D.int).length = w := by rw [List.length_map, S.len hi]
  have c1 := cut_len (b.map rowD) none (some (i : Int))
  have c2 := cut_len (b.map rowD) (some ((i : Int) + 1)) none
  have c3 := cut_len ((b.getD i []).map D.int) none (some (j : Int))
  have c4 := cut_len ((b.getD i []).map D.int) (some ((j : Int) + 1)) none
  refine WF_of (w27 ?_)
  repeat' array_get_dec
  refine LF_addt (by simp only [List.length_cons, List.length_nil, List.length_append, sizeLine]; omega) ?_
  repeat' array_get_dec
  refine LF_addt (by simp only [List.length_cons, List.length_nil, List.length_append, sizeLine]; omega) ?_
  repeat' array_get_dec
  refine LF_addt (by simp only [List.length_cons, List.length_nil, List.length_append, sizeLine]; omega) ?_
  repeat' array_get_dec
  refine LF_addt (by simp only [List.length_cons, List.length_nil, List.length_append, sizeLine]; omega) ?_
  repeat' array_get_dec
  refine ⟨?_, rfl⟩
  rw [set_cut (by rw [hl]; exact hi), set_cut (by rw [l0]; exact hj)]
  show FR.val (.tup _) = .val (.tup ((b.set i ((b.getD i []).set j x)).map rowD))
  rw [List.map_set, rowD, List.map_set]
theorem raw_is_ok (fuel n : Nat) {s : Int} {h w : Nat} {b : Bd} (S : Sheet s h w b) (h1 : 1 ≤ h) (h8 : h ≤ 8) (w1 : 1 ≤ w) (wl8 : w ≤ 8) : sem (PR fuel) (n + 3) 8 none [.int s, bdD b] = .ok (.val (.bl true)) none := by
  have hl : (b.map rowD).length = h := by rw [List.length_map, S.rows]
  have e0 : (b.map rowD)[(0 : Int).toNat]? = some (.tup ((b.getD 0 []).map D.int)) := sh_row S h1
  have l0 : ((b.getD 0 []).map D.int).length = w := by rw [List.length_map, S.len h1]
  refine WF_of (w8 ?_)
  repeat' array_get_dec
  refine WF_eq (is_sized_tup _ _ _ _ _) ?_
  repeat' array_get_dec
  refine W_forI (fun k σ => ∃ s2, Fre s2 ∧ σ = [.sh (.int s), .sh (bdD b), s2, .un]) ⟨_, .un, rfl⟩ ?_ ?_
  · rintro k x σ hx ⟨s2, f2, rfl⟩
    obtain ⟨hk, rfl⟩ := sh_in S hx
    have lk : ((b.getD k []).map D.int).length = w := by rw [List.length_map, S.len hk]
    repeat' array_get_dec
    refine WF_eq (is_tuple_tup _ _ _ _) ?_
    repeat' array_get_dec
    refine W_lcM (fun _ => .bl true) rfl .un ?_ ?_
    · intro j x hx
      have hj : j < w := by rw [← lk]; exact (List.getElem?_eq_some_iff.mp hx).1
      rw [sh_cell S hk hj] at hx
      cases hx
      have gi := S.g_in hk hj
      dsimp only [List.set]
      repeat' array_get_dec
      refine WF_eq (is_within_int _ _ _ _ _) ?_
      repeat' array_get_dec
      exact ⟨by rw [decide_eq_true (by omega)], rfl⟩
    intro s3 f3
    rw [List.map_const']
    refine BT_of (by rw [List.length_replicate, lk]; simp only [sizeLine]; omega) ?_
    dsimp only [backD, List.getElem?_cons_zero, List.getElem?_cons_succ, List.set]
    repeat' array_get_dec
    refine LF_alltrue ?_
    repeat' array_get_dec
    exact ⟨_, .sh, rfl⟩
  · rintro σ ⟨s2, f2, rfl⟩
    repeat' array_get_dec
    exact ⟨rfl, rfl⟩
theorem check_sheet_ok (fuel n : Nat) {s : Int} {h w : Nat} {b : Bd} (S : Sheet s h w b) (hs : 2 ≤ s ∧ s ≤ 36) (h1 : 1 ≤ h) (h8 : h ≤ 8) (w1 : 1 ≤ w) (wl8 : w ≤ 8) : sem (PR fuel) (n + 4) 9 none [.int s, bdD b] = .ok (.val .non) none := by
  refine WF_of (w9 ?_)
  repeat' array_get_dec
  refine WF_eq (check_ok _ _ _ _ _ hs.1 hs.2) ?_
  repeat' array_get_dec
  refine WF_eq (raw_is_ok _ _ S h1 h8 w1 wl8) ?_
  repeat' array_get_dec
  exact ⟨rfl, rfl⟩
theorem is_good_ok (fuel n : Nat) {s : Int} {h w : Nat} {b : Bd} (S : Sheet s h w b) (hs : 2 ≤ s ∧ s ≤ 36) (h1 : 1 ≤ h) (h8 : h ≤ 8) (w1 : 1 ≤ w) (wl8 : w ≤ 8) : sem (PR fuel) (n + 4) 13 none [.int s, bdD b] = .ok (.val (.bl (decide (Fits s h w b)))) none := by
  have fi := fits_iff S
  refine WF_of (w13 ?_)
  repeat' array_get_dec
  refine WF_eq (check_ok _ _ _ _ _ hs.1 hs.2) ?_
  repeat' array_get_dec
  refine WF_eq (raw_is_ok _ _ S h1 h8 w1 wl8) ?_
  repeat' array_get_dec
  refine WF_eq (raw_left_ok _ _ S (by omega) h1 h8 wl8) ?_
  unfold leftD
  repeat' array_get_dec
  refine LF_anyT ?_
  rw [any_zero]
  repeat' array_get_dec
  · refine LF_anyT ?_
    rw [any_zero]
    repeat' array_get_dec
    · rename_i z1 z2
      rw [decide_eq_true (fi.mp ⟨z1, z2⟩)]
      exact ⟨rfl, rfl⟩
    · rename_i z1 z2
      rw [decide_eq_false fun z => z2 (fi.mpr z).2]
      exact ⟨rfl, rfl⟩
  · rename_i z1
    rw [decide_eq_false fun z => z1 (fi.mpr z).1]
    exact ⟨rfl, rfl⟩
end DpK

end

section
set_option linter.all false
set_option autoImplicit false
set_option maxRecDepth 100000
open Dp Sh
local macro_rules | `(tactic| array_get_dec) => `(tactic| first   | with_reducible apply W_cons   | with_reducible apply W_nil   | with_reducible apply W_set   | with_reducible apply W_ret   | with_reducible apply W_ife   | with_reducible apply W_for   | with_reducible apply W_ex   | ((with_reducible apply W_mm); exact rfl)   | with_reducible apply W_seti   | with_reducible apply W_unp   | with_reducible apply W_par   | ((with_reducible apply W_aug); exact rfl)   | with_reducible apply W_pass   | with_reducible apply W_brk   | with_reducible apply W_cont   | with_reducible apply W_retn   | ((with_reducible apply W_rais); exact rfl)   | with_reducible apply W_k   | ((with_reducible refine BT_of ?_ ?_); (first | exact rfl | decide | (simp only [List.length_cons, List.length_nil, sizeLine]; omega)))   | ((with_reducible apply W_v); exact rfl)   | ((with_reducible apply W_vo); exact rfl)   | ((with_reducible apply W_vb); exact rfl)   | ((with_reducible apply W_glb); exact rfl)   | with_reducible apply W_bin   | with_reducible apply W_cmp   | with_reducible apply W_sub   | with_reducible apply W_and   | with_reducible apply W_or   | with_reducible apply W_nt   | with_reducible apply W_neg   | with_reducible apply W_chn   | with_reducible apply W_isn   | with_reducible apply W_isb   | with_reducible apply W_ite   | with_reducible apply W_tup   | with_reducible apply W_lst   | with_reducible apply W_slc   | with_reducible apply W_rev   | with_reducible apply W_rlT   | with_reducible apply W_rlF   | with_reducible apply W_isi   | with_reducible apply W_b1   | with_reducible apply W_b2   | with_reducible apply W_m1   | with_reducible apply W_call   | ((with_reducible apply W_callm); exact rfl)   | ((with_reducible apply W_mp); exact rfl)   | ((with_reducible apply MP_val); exact rfl)   | ((with_reducible apply W_callv); exact rfl; exact rfl)   | ((with_reducible apply W_tld); exact rfl)   | with_reducible apply W_lc   | with_reducible apply W_att   | ((with_reducible apply LF_att); exact rfl; exact rfl)   | ((with_reducible apply W_mk); exact rfl)   | with_reducible apply W_setf   | with_reducible apply W_lc2   | with_reducible apply W_esnil   | with_reducible apply W_escons   | with_reducible apply W_ernil   | with_reducible apply W_ercons   | with_reducible apply W_seq   | with_reducible apply W_rng   | with_reducible apply W_enum   | with_reducible apply W_zip2   | with_reducible apply W_om   | with_reducible apply P1_val   | with_reducible apply P1_frl   | with_reducible apply P1_frd   | with_reducible apply P1_fri   | ((with_reducible apply P1_borl); exact rfl)   | ((with_reducible apply P1_bobl); exact rfl)   | ((with_reducible apply P1_bor); exact rfl)   | ((with_reducible apply P1_bob); exact rfl)   | ((with_reducible apply P1_bosh); exact rfl)   | with_reducible apply U_val   | with_reducible apply UK_val   | with_reducible apply UK_fr   | with_reducible apply UK_bor   | with_reducible apply U_frl   | with_reducible apply U_fr   | ((with_reducible apply U_bor); exact rfl; dsimp only [frz, List.set])   | ((with_reducible apply U_bosh); exact rfl)   | with_reducible apply K_nx   | with_reducible apply K_rt   | with_reducible apply K_bk   | with_reducible apply K_ct   | with_reducible apply CN_val   | with_reducible apply CN_fr   | with_reducible apply CNX_of   | with_reducible apply CM_val0   | with_reducible apply CM_val0o   | with_reducible apply CM_val1o   | with_reducible apply CM_fr0   | with_reducible apply CM_fr0o   | with_reducible apply CM_fr1o   | with_reducible apply CMX_of   | with_reducible apply FN_nx   | with_reducible apply FN_val   | with_reducible apply FN_fr   | ((with_reducible apply FN_bor); exact rfl)   | ((with_reducible apply FN_bosh); exact rfl)   | with_reducible apply FM_nx   | with_reducible apply FM_val   | with_reducible apply FM_fr   | ((with_reducible apply FM_bor); exact rfl)   | with_reducible apply FNX_of   | with_reducible apply FMX_of   | with_reducible apply LQ_nx   | with_reducible apply LQ_rt   | with_reducible apply LQ_bk   | with_reducible apply LQ_ct   | ((with_reducible apply PT_om); exact rfl)   | ((with_reducible apply PT_int); exact rfl)   | with_reducible apply T_true   | with_reducible apply T_false   | with_reducible apply T_not   | with_reducible apply LF_some   | with_reducible apply LF_add   | with_reducible apply LF_sub   | ((with_reducible apply LF_mul); (first | exact Or.inr (Or.inl (small_of (by omega))) | exact Or.inl (small_of (by omega)) | exact Or.inl (small_mod _ _ (by decide) (by decide))))   | ((with_reducible apply LF_pow); decide)   | ((with_reducible apply LF_adds); (first | (simp only [List.length_cons, List.length_nil, List.length_append, sizeLine]; omega)))   | ((with_reducible apply LF_lens); (first | assumption))   | ((with_reducible apply LF_slcs); (first | assumption))   | ((with_reducible apply LF_subs); assumption; (first | assumption | omega); assumption)   | ((with_reducible apply LF_subl); (first | assumption | omega); assumption)   | ((with_reducible apply LF_subt); (first | assumption | omega); assumption)   | ((with_reducible apply LF_sindex); assumption)   | with_reducible apply LF_eqi   | with_reducible apply LF_nei   | with_reducible apply LF_lti   | with_reducible apply LF_lei   | with_reducible apply LF_gti   | with_reducible apply LF_gei   | with_reducible apply LF_eqb   | with_reducible apply LF_neb   | with_reducible apply LF_instr   | with_reducible apply LF_ninstr   | with_reducible apply LF_asgn   | with_reducible apply LF_asgnil   | with_reducible apply LF_asgcons   | with_reducible apply LF_dsnil   | with_reducible apply LF_dscons   | ((with_reducible apply LF_store); exact rfl; (first | exact Fre.sh | exact Fre.un | exact Fre.ow | assumption); dsimp only [List.set])   | ((with_reducible apply LF_storeO); exact rfl; (first | exact Fre.sh | exact Fre.un | exact Fre.ow | assumption); dsimp only [List.set])   | ((with_reducible apply LF_stored); exact rfl; exact rfl; (first | exact Fre.sh | exact Fre.un | exact Fre.ow | assumption); dsimp only [List.set, frz])   | ((with_reducible apply LF_setob); exact rfl; dsimp only [putOb, List.getElem?_cons_zero, List.getElem?_cons_succ, List.set, Int.reduceToNat])   | ((with_reducible refine LF_append ?_ ?_); rotate_left; dsimp only [putOb, List.getElem?_cons_zero, List.getElem?_cons_succ, List.set, List.nil_append, List.cons_append])   | ((with_reducible refine LF_extend ?_ ?_); rotate_left; dsimp only [putOb, List.getElem?_cons_zero, List.getElem?_cons_succ, List.set, List.nil_append, List.cons_append])   | ((with_reducible apply LF_mod); (first | decide | assumption | omega))   | ((with_reducible apply LF_fdiv); (first | decide | assumption | omega); (first | decide | assumption))   | with_reducible apply LF_rng   | with_reducible apply WF_fn   | ((with_reducible apply T_is (c := true)); decide)   | ((with_reducible apply T_is (c := false)); decide)   | (((with_reducible apply T_dec) <;> intro) <;> (try (exfalso; omega)))   | (((with_reducible apply TB_dec) <;> intro) <;> (try (exfalso; omega)))   | ((with_reducible apply T_is (c := true)); exact rfl)   | ((with_reducible apply T_is (c := false)); exact rfl)   | ((with_reducible apply LF_eq); exact rfl))
namespace DpK
theorem sheet_s (fuel n : Nat) (o : Ob) (ho : Hand o) {s : Int} (hs : 0 < s) (hs2 : s ≤ 36) (h w : Nat) (h8 : h ≤ 8) (wl8 : w ≤ 8) : WF (sem (PR fuel) (n + 2) 24 (some o) [.int s, .int h, .int w]) (fun r q => ∃ b o', r = .val (bdD b) ∧ q = some o' ∧ Hand o' ∧ Sheet s h w b) noF := by
  refine w24 ?_
  repeat' array_get_dec
  · exact rngc (by omega) (by omega) (by omega) (by omega)
  refine W_lcI (fun j ds σ => ∃ b : Bd, b.length = j ∧ ds = b.map rowD ∧ (∀ r ∈ b, r.length = w) ∧ (∀ r ∈ b, ∀ x ∈ r, 0 ≤ x ∧ x < s) ∧ ∃ o s5, Hand o ∧ Fre s5 ∧ σ = [.bo o, .sh (.int s), .sh (.int h), .sh (.int w), .un, s5]) ⟨[], rfl, rfl, fun _ h => (nomatch h), fun _ h => (nomatch h), _, _, ho, .un, rfl⟩ ?_ ?_
  · rintro j x pre σ hx ⟨b, e1, rfl, e2, e3, o1, s5, ho1, f5, rfl⟩
    dsimp only [wipeD, List.set]
    repeat' array_get_dec
    · exact rngc (by omega) (by omega) (by omega) (by omega)
    refine W_lcI (fun j ds σ => ∃ r : List Int, r.length = j ∧ ds = r.map .int ∧ (∀ x ∈ r, 0 ≤ x ∧ x < s) ∧ ∃ o s4, Hand o ∧ Fre s4 ∧ σ = [.bo o, .sh (.int s), .sh (.int h), .sh (.int w), s4, .sh x]) ⟨[], rfl, rfl, fun _ h => (nomatch h), _, _, ho1, .un, rfl⟩ ?_ ?_
    · rintro i y pre σ hy ⟨r, a1, rfl, a2, o2, s4', ho2, f4', rfl⟩
      dsimp only [wipeD, List.set]
      repeat' array_get_dec
      refine C_draw ho2 hs (by omega) ?_
      intro d o3 ho3 hd1 hd2
      repeat' array_get_dec
      refine ⟨r ++ [d], by rw [List.length_append, a1]; rfl, by rw [List.map_append]; rfl, ?_, o3, .sh y, ho3, .sh, rfl⟩
      intro z hz
      rcases List.mem_append.mp hz with hz | hz
      · exact a2 z hz
      · rw [List.mem_singleton.mp hz]; exact ⟨hd1, hd2⟩
    rintro ds σ ⟨r, a1, rfl, a2, o2, s4', ho2, f4', rfl⟩
    rw [rng_len0] at a1
    refine BT_of (by rw [List.length_map, a1]; simp only [sizeLine]; omega) ?_
    dsimp only [backD, List.getElem?_cons_zero, List.getElem?_cons_succ, List.set]
    repeat' array_get_dec
    refine ⟨b ++ [r], by rw [List.length_append, e1]; rfl, by rw [List.map_append]; rfl, ?_, ?_, o2, .sh x, ho2, .sh, rfl⟩
    · intro z hz
      rcases List.mem_append.mp hz with hz | hz
      · exact e2 z hz
      · rw [List.mem_singleton.mp hz]; exact a1
    · intro z hz
      rcases List.mem_append.mp hz with hz | hz
      · exact e3 z hz
      · rw [List.mem_singleton.mp hz]; exact a2
  rintro ds σ ⟨b, e1, rfl, e2, e3, o1, s5, ho1, f5, rfl⟩
  rw [rng_len0] at e1
  refine BT_of (by rw [List.length_map, e1]; simp only [sizeLine]; omega) ?_
  dsimp only [backD, List.getElem?_cons_zero, List.getElem?_cons_succ, List.set]
  repeat' array_get_dec
  exact ⟨b, o1, rfl, rfl, ho1, e1, e2, e3⟩
theorem mixed_s (fuel n : Nat) (o : Ob) (ho : Hand o) (ds : List D) (hl : ds.length ≤ 100) (hf : 100 < fuel) : WF (sem (PR fuel) (n + 2) 19 (some o) [.lst ds]) (fun r q => ∃ ds' o', r = .fr (.l ds') ∧ q = some o' ∧ Hand o' ∧ ds'.Perm ds) noF := by
  refine w19 ?_
  repeat' array_get_dec
  refine W_whl (fun k σ => ∃ xs ys o, xs.length = k ∧ (xs ++ ys).Perm ds ∧ Hand o ∧ σ = [.bo o, .sh (.lst ds), .ow (.l xs), .ow (.l ys)]) ds.length (show ds.length < fuel by omega) ⟨ds, [], o, rfl, by rw [List.append_nil], ho, rfl⟩ ?_
  rintro k σ ⟨xs, ys, o1, hk, hp, ho1, rfl⟩
  have hxl : xs.length + ys.length = ds.length := by rw [← List.length_append, hp.length_eq]
  repeat' array_get_dec
  · refine C_draw ho1 (by omega) (by omega) ?_
    intro d o2 ho2 hd1 hd2
    have hlt : d.toNat < xs.length := by omega
    have ey := List.getElem?_eq_getElem hlt
    repeat' array_get_dec
    refine LF_pop (by simp only [sizeLine]; omega) hd1 ey ?_
    dsimp only [putOb, List.getElem?_cons_zero, List.getElem?_cons_succ, List.set]
    repeat' array_get_dec
    · refine ⟨k - 1, by omega, xs.eraseIdx d.toNat, ys ++ [xs[d.toNat]], o2, by rw [List.length_eraseIdx, if_pos hlt]; omega, ?_, ho2, rfl⟩
      refine List.Perm.trans ?_ hp
      have p1 := erase_perm hlt
      refine List.Perm.trans ?_ (p1.append_right ys)
      rw [← List.append_assoc]
      refine List.perm_append_comm.trans ?_
      rfl
    · simp only [sizeLine]; omega
  · rename_i z
    have : xs = [] := List.length_eq_zero_iff.mp (by omega)
    subst this
    repeat' array_get_dec
    exact ⟨ys, o1, rfl, rfl, ho1, hp⟩
end DpK

end

section
set_option linter.all false
set_option autoImplicit false
set_option maxRecDepth 100000
open Dp Sh
local macro_rules | `(tactic| array_get_dec) => `(tactic| first   | with_reducible apply W_cons   | with_reducible apply W_nil   | with_reducible apply W_set   | with_reducible apply W_ret   | with_reducible apply W_ife   | with_reducible apply W_for   | with_reducible apply W_ex   | ((with_reducible apply W_mm); exact rfl)   | with_reducible apply W_seti   | with_reducible apply W_unp   | with_reducible apply W_par   | ((with_reducible apply W_aug); exact rfl)   | with_reducible apply W_pass   | with_reducible apply W_brk   | with_reducible apply W_cont   | with_reducible apply W_retn   | ((with_reducible apply W_rais); exact rfl)   | with_reducible apply W_k   | ((with_reducible refine BT_of ?_ ?_); (first | exact rfl | decide | (simp only [List.length_cons, List.length_nil, sizeLine]; omega)))   | ((with_reducible apply W_v); exact rfl)   | ((with_reducible apply W_vo); exact rfl)   | ((with_reducible apply W_vb); exact rfl)   | ((with_reducible apply W_glb); exact rfl)   | with_reducible apply W_bin   | with_reducible apply W_cmp   | with_reducible apply W_sub   | with_reducible apply W_and   | with_reducible apply W_or   | with_reducible apply W_nt   | with_reducible apply W_neg   | with_reducible apply W_chn   | with_reducible apply W_isn   | with_reducible apply W_isb   | with_reducible apply W_ite   | with_reducible apply W_tup   | with_reducible apply W_lst   | with_reducible apply W_slc   | with_reducible apply W_rev   | with_reducible apply W_rlT   | with_reducible apply W_rlF   | with_reducible apply W_isi   | with_reducible apply W_b1   | with_reducible apply W_b2   | with_reducible apply W_m1   | with_reducible apply W_call   | ((with_reducible apply W_callm); exact rfl)   | ((with_reducible apply W_mp); exact rfl)   | ((with_reducible apply MP_val); exact rfl)   | ((with_reducible apply W_callv); exact rfl; exact rfl)   | ((with_reducible apply W_tld); exact rfl)   | with_reducible apply W_lc   | with_reducible apply W_att   | ((with_reducible apply LF_att); exact rfl; exact rfl)   | ((with_reducible apply W_mk); exact rfl)   | with_reducible apply W_setf   | with_reducible apply W_lc2   | with_reducible apply W_esnil   | with_reducible apply W_escons   | with_reducible apply W_ernil   | with_reducible apply W_ercons   | with_reducible apply W_seq   | with_reducible apply W_rng   | with_reducible apply W_enum   | with_reducible apply W_zip2   | with_reducible apply W_om   | with_reducible apply P1_val   | with_reducible apply P1_frl   | with_reducible apply P1_frd   | with_reducible apply P1_fri   | ((with_reducible apply P1_borl); exact rfl)   | ((with_reducible apply P1_bobl); exact rfl)   | ((with_reducible apply P1_bor); exact rfl)   | ((with_reducible apply P1_bob); exact rfl)   | ((with_reducible apply P1_bosh); exact rfl)   | with_reducible apply U_val   | with_reducible apply UK_val   | with_reducible apply UK_fr   | with_reducible apply UK_bor   | with_reducible apply U_frl   | with_reducible apply U_fr   | ((with_reducible apply U_bor); exact rfl; dsimp only [frz, List.set])   | ((with_reducible apply U_bosh); exact rfl)   | with_reducible apply K_nx   | with_reducible apply K_rt   | with_reducible apply K_bk   | with_reducible apply K_ct   | with_reducible apply CN_val   | with_reducible apply CN_fr   | with_reducible apply CNX_of   | with_reducible apply CM_val0   | with_reducible apply CM_val0o   | with_reducible apply CM_val1o   | with_reducible apply CM_fr0   | with_reducible apply CM_fr0o   | with_reducible apply CM_fr1o   | with_reducible apply CMX_of   | with_reducible apply FN_nx   | with_reducible apply FN_val   | with_reducible apply FN_fr   | ((with_reducible apply FN_bor); exact rfl)   | ((with_reducible apply FN_bosh); exact rfl)   | with_reducible apply FM_nx   | with_reducible apply FM_val   | with_reducible apply FM_fr   | ((with_reducible apply FM_bor); exact rfl)   | with_reducible apply FNX_of   | with_reducible apply FMX_of   | with_reducible apply LQ_nx   | with_reducible apply LQ_rt   | with_reducible apply LQ_bk   | with_reducible apply LQ_ct   | ((with_reducible apply PT_om); exact rfl)   | ((with_reducible apply PT_int); exact rfl)   | with_reducible apply T_true   | with_reducible apply T_false   | with_reducible apply T_not   | with_reducible apply LF_some   | with_reducible apply LF_add   | with_reducible apply LF_sub   | ((with_reducible apply LF_mul); (first | exact Or.inr (Or.inl (small_of (by omega))) | exact Or.inl (small_of (by omega)) | exact Or.inl (small_mod _ _ (by decide) (by decide))))   | ((with_reducible apply LF_pow); decide)   | ((with_reducible apply LF_adds); (first | (simp only [List.length_cons, List.length_nil, List.length_append, sizeLine]; omega)))   | ((with_reducible apply LF_lens); (first | assumption))   | ((with_reducible apply LF_slcs); (first | assumption))   | ((with_reducible apply LF_subs); assumption; (first | assumption | omega); assumption)   | ((with_reducible apply LF_subl); (first | assumption | omega); assumption)   | ((with_reducible apply LF_subt); (first | assumption | omega); assumption)   | ((with_reducible apply LF_sindex); assumption)   | with_reducible apply LF_eqi   | with_reducible apply LF_nei   | with_reducible apply LF_lti   | with_reducible apply LF_lei   | with_reducible apply LF_gti   | with_reducible apply LF_gei   | with_reducible apply LF_eqb   | with_reducible apply LF_neb   | with_reducible apply LF_instr   | with_reducible apply LF_ninstr   | with_reducible apply LF_asgn   | with_reducible apply LF_asgnil   | with_reducible apply LF_asgcons   | with_reducible apply LF_dsnil   | with_reducible apply LF_dscons   | ((with_reducible apply LF_store); exact rfl; (first | exact Fre.sh | exact Fre.un | exact Fre.ow | assumption); dsimp only [List.set])   | ((with_reducible apply LF_storeO); exact rfl; (first | exact Fre.sh | exact Fre.un | exact Fre.ow | assumption); dsimp only [List.set])   | ((with_reducible apply LF_stored); exact rfl; exact rfl; (first | exact Fre.sh | exact Fre.un | exact Fre.ow | assumption); dsimp only [List.set, frz])   | ((with_reducible apply LF_setob); exact rfl; dsimp only [putOb, List.getElem?_cons_zero, List.getElem?_cons_succ, List.set, Int.reduceToNat])   | ((with_reducible refine LF_append ?_ ?_); rotate_left; dsimp only [putOb, List.getElem?_cons_zero, List.getElem?_cons_succ, List.set, List.nil_append, List.cons_append])   | ((with_reducible refine LF_extend ?_ ?_); rotate_left; dsimp only [putOb, List.getElem?_cons_zero, List.getElem?_cons_succ, List.set, List.nil_append, List.cons_append])   | ((with_reducible apply LF_mod); (first | decide | assumption | omega))   | ((with_reducible apply LF_fdiv); (first | decide | assumption | omega); (first | decide | assumption))   | with_reducible apply LF_rng   | with_reducible apply WF_fn   | ((with_reducible apply T_is (c := true)); decide)   | ((with_reducible apply T_is (c := false)); decide)   | (((with_reducible apply T_dec) <;> intro) <;> (try (exfalso; omega)))   | (((with_reducible apply TB_dec) <;> intro) <;> (try (exfalso; omega)))   | ((with_reducible apply T_is (c := true)); exact rfl)   | ((with_reducible apply T_is (c := false)); exact rfl)   | ((with_reducible apply LF_eq); exact rfl))
namespace DpK
theorem summed_ok (fuel n : Nat) {s : Int} {h w : Nat} {b : Bd} (S : Sheet s h w b) (hs : 0 < s) (h1 : 1 ≤ h) (h8 : h ≤ 8) (wl8 : w ≤ 8) : sem (PR fuel) (n + 1) 28 none [.int s, bdD b] = .ok (.val (bdD (summed s w b))) none := by
  have hl : (b.map rowD).length = h := by rw [List.length_map, S.rows]
  have E := ends_sheet hs S
  have el : ((ends s b).map rowD).length = h := by rw [List.length_map, E.rows]
  have e0 : ((ends s b).map rowD)[(0 : Int).toNat]? = some (.tup (((ends s b).getD 0 []).map D.int)) := sh_row E h1
  have l0 : (((ends s b).getD 0 []).map D.int).length = w + 1 := by rw [List.length_map, E.len h1]
  refine WF_of (w28 ?_)
  repeat' array_get_dec
  refine W_lcM (fun x => match x with | .tup r => .tup (r ++ [.int ((0 - ((lexInts r).getD []).sum) % s)]) | _ => .non) rfl .un ?_ ?_
  · intro k x hx
    obtain ⟨hk, rfl⟩ := sh_in S hx
    have lk : ((b.getD k []).map D.int).length = w := by rw [List.length_map, S.len hk]
    dsimp only [List.set]
    repeat' array_get_dec
    refine LF_sumT ?_
    repeat' array_get_dec
    refine LF_addt (by rw [lk]; simp only [List.length_cons, List.length_nil, sizeLine]; omega) ?_
    repeat' array_get_dec
    exact ⟨by rw [lexInts_map]; rfl, rfl⟩
  intro s1 f1
  have er : ((b.map rowD).map fun x => match x with | .tup r => D.tup (r ++ [.int ((0 - ((lexInts r).getD []).sum) % s)]) | _ => .non) = (ends s b).map rowD := by
    rw [List.map_map, ends, List.map_map]
    refine List.map_congr_left fun r _ => ?_
    show D.tup (r.map D.int ++ [.int ((0 - ((lexInts (r.map D.int)).getD []).sum) % s)]) = .tup ((r ++ [(0 - r.sum) % s]).map D.int)
    rw [lexInts_map, List.map_append]; rfl
  rw [er]
  refine BT_of (by rw [el]; simp only [sizeLine]; omega) ?_
  dsimp only [backD, List.getElem?_cons_zero, List.getElem?_cons_succ, List.set]
  repeat' array_get_dec
  · rw [l0]; exact rngc (by omega) (by omega) (by omega) (by omega)
  rw [l0]
  refine W_lcI (fun j ds σ => ds = (((below s (w + 1) (ends s b)).take j).map .int) ∧ ∃ s2 s5, (s2 = .ow (.l ((ends s b).map rowD)) ∨ s2 = .sh (.lst ((ends s b).map rowD))) ∧ Fre s5 ∧ σ = [.sh (.int s), .sh (bdD b), s2, .un, .un, s5]) ⟨rfl, _, _, .inl rfl, .un, rfl⟩ ?_ ?_
  · rintro j x pre σ hx ⟨rfl, s2, s5, e2, f5, rfl⟩
    obtain ⟨rfl, hj⟩ := rng_at0 hx
    have key : ∀ s2' : Sl, s2' = .sh (.lst ((ends s b).map rowD)) → W (lcL (fun x τ => lcStep (asg (.n 3) x (wipeD τ [3])) (fun τ1 => truth (ev ((PR fuel).gam (sem (PR fuel) n)) (.k (.bl true)) τ1)) (fun τ2 => (ev ((PR fuel).gam (sem (PR fuel) n)) (.sub (.v 3) (.v 5)) τ2).used)) ((ends s b).map rowD) [.sh (.int s), .sh (bdD b), s2', .un, .un, .sh (.int j)]) (fun ds τ => ds = (col (ends s b) j).map .int ∧ ∃ s3, Fre s3 ∧ τ = [.sh (.int s), .sh (bdD b), s2', s3, .un, .sh (.int j)]) noX := by
      rintro _ rfl
      refine W_lcM (fun x => match x with | .tup r => r.getD j .non | _ => .non) rfl .un ?_ ?_
      · intro i x hx
        obtain ⟨hi, rfl⟩ := sh_in E hx
        have ec : (((ends s b).getD i []).map D.int)[(j : Int).toNat]? = some (.int (g (ends s b) i j)) := sh_cell E hi hj
        dsimp only [List.set]
        repeat' array_get_dec
        exact ⟨by rw [List.getD_eq_getElem?_getD, ← Int.toNat_natCast j, ec]; rfl, rfl⟩
      · intro s3 f3
        refine ⟨?_, s3, f3, rfl⟩
        rw [List.map_map, col, List.map_map]
        refine List.map_congr_left fun r hr => ?_
        show (r.map D.int).getD j .non = .int (r.getD j 0)
        have hkr : j < r.length := by rw [E.cols r hr]; exact hj
        rw [List.getD_eq_getElem?_getD, List.getElem?_map, List.getD_eq_getElem?_getD, List.getElem?_eq_getElem hkr]; rfl
    have fin : (((below s (w + 1) (ends s b)).take j).map D.int) ++ [.int ((0 - C (ends s b) j) % s)] = ((below s (w + 1) (ends s b)).take (j + 1)).map .int := by
      rw [List.take_add_one, List.map_append]
      congr 1
      rw [below, List.getElem?_map, List.getElem?_range hj]; rfl
    rcases e2 with rfl | rfl
    · dsimp only [wipeD, List.set]
      repeat' array_get_dec
      refine W_mono (key _ rfl) ?_ fun _ _ z => z
      rintro ds τ ⟨rfl, s3, f3, rfl⟩
      refine BT_of (by rw [List.length_map, col_len E]; simp only [sizeLine]; omega) ?_
      dsimp only [backD, List.getElem?_cons_zero, List.getElem?_cons_succ, List.set]
      repeat' array_get_dec
      refine LF_sumL ?_
      repeat' array_get_dec
      exact ⟨fin, _, .sh (.int j), .inr rfl, .sh, rfl⟩
    · dsimp only [wipeD, List.set]
      repeat' array_get_dec
      refine W_mono (key _ rfl) ?_ fun _ _ z => z
      rintro ds τ ⟨rfl, s3, f3, rfl⟩
      refine BT_of (by rw [List.length_map, col_len E]; simp only [sizeLine]; omega) ?_
      dsimp only [backD, List.getElem?_cons_zero, List.getElem?_cons_succ, List.set]
      repeat' array_get_dec
      refine LF_sumL ?_
      repeat' array_get_dec
      exact ⟨fin, _, .sh (.int j), .inr rfl, .sh, rfl⟩
  rintro ds σ ⟨rfl, s2, s5, e2, f5, rfl⟩
  rw [rng_len0, List.take_of_length_le (by rw [below_len]; exact Nat.le_refl _)]
  refine BT_of (by rw [List.length_map, below_len]; simp only [sizeLine]; omega) ?_
  dsimp only [backD, List.getElem?_cons_zero, List.getElem?_cons_succ, List.set]
  have fin : (ends s b).map rowD ++ [.tup ((below s (w + 1) (ends s b)).map D.int)] = (summed s w b).map rowD := by rw [summed, List.map_append]; rfl
  rcases e2 with rfl | rfl
  · repeat' array_get_dec
    refine LF_addl (by rw [el]; simp only [List.length_cons, List.length_nil, sizeLine]; omega) ?_
    rw [fin]
    repeat' array_get_dec
    exact ⟨rfl, rfl⟩
  · repeat' array_get_dec
    refine LF_addl (by rw [el]; simp only [List.length_cons, List.length_nil, sizeLine]; omega) ?_
    rw [fin]
    repeat' array_get_dec
    exact ⟨rfl, rfl⟩
end DpK

end

section
set_option linter.all false
set_option autoImplicit false
open Dp
/-! DpH4: cells, mixed (plain) -/
namespace Sh
def allc (h w : Nat) : List (Nat × Nat) := (List.range h).flatMap fun i => (List.range w).map fun j => (i, j)
def cD (p : Nat × Nat) : D := .tup [.int p.1, .int p.2]
def unC : D → Nat × Nat
  | .tup [.int i, .int j] => (i.toNat, j.toNat)
  | _ => (0, 0)
theorem un_cD (p : Nat × Nat) : unC (cD p) = p := by obtain ⟨i, j⟩ := p; rfl
theorem allc_succ (h w : Nat) : allc (h + 1) w = allc h w ++ (List.range w).map fun j => (h, j) := by
  rw [allc, List.range_succ, List.flatMap_append]; simp [allc]
theorem allc_len (h w : Nat) : (allc h w).length = h * w := by
  induction h with
  | zero => simp [allc]
  | succ h ih => rw [allc_succ, List.length_append, ih, List.length_map, List.length_range, Nat.succ_mul]
theorem allc_mem {h w : Nat} {p : Nat × Nat} : p ∈ allc h w ↔ p.1 < h ∧ p.2 < w := by
  obtain ⟨i, j⟩ := p
  simp only [allc, List.mem_flatMap, List.mem_range, List.mem_map, Prod.mk.injEq]
  constructor
  · rintro ⟨a, ha, c, hc, rfl, rfl⟩; exact ⟨ha, hc⟩
  · rintro ⟨hi, hj⟩; exact ⟨i, hi, j, hj, rfl, rfl⟩
theorem allc_nodup (h w : Nat) : (allc h w).Nodup := by
  induction h with
  | zero => simp [allc]
  | succ h ih =>
    rw [allc_succ, List.nodup_append]
    refine ⟨ih, ?_, fun a ha b hb => ?_⟩
    · exact List.Pairwise.map (fun j => (h, j)) (fun a b hab e => hab (Prod.mk.inj e).2) List.nodup_range
    · rw [allc_mem] at ha
      obtain ⟨j, _, rfl⟩ := List.mem_map.mp hb
      rintro rfl
      exact absurd ha.1 (Nat.lt_irrefl _)
theorem perm_cells {ds : List D} {l : List (Nat × Nat)} (p : ds.Perm (l.map cD)) : ∃ ps : List (Nat × Nat), ds = ps.map cD ∧ ps.Perm l := by
  refine ⟨ds.map unC, ?_, ?_⟩
  · rw [List.map_map]
    have : ∀ d ∈ ds, d = (cD ∘ unC) d := fun d hd => by
      obtain ⟨q, _, rfl⟩ := List.mem_map.mp (p.mem_iff.mp hd)
      show _ = cD (unC (cD q))
      rw [un_cD]
    exact (List.map_id' ds).symm.trans (List.map_congr_left this)
  · have := p.map unC
    rw [List.map_map] at this
    have e : unC ∘ cD = id := funext un_cD
    rwa [e, List.map_id] at this
theorem shift_ne {s g d : Int} (hg : 0 ≤ g ∧ g < s) (hd : 0 ≤ d ∧ d < s - 1) : (0 ≤ (g + 1 + d) % s ∧ (g + 1 + d) % s < s) ∧ (g + 1 + d) % s ≠ g := by
  refine ⟨⟨Int.emod_nonneg _ (by omega), Int.emod_lt_of_pos _ (by omega)⟩, fun e => ?_⟩
  have e2 : (g + 1 + d) % s = g % s := by rw [e, Int.emod_eq_of_lt hg.1 hg.2]
  have := Int.emod_eq_emod_iff_emod_sub_eq_zero.mp e2
  rw [show g + 1 + d - g = 1 + d by omega, Int.emod_eq_of_lt (by omega) (by omega)] at this
  omega
theorem take_new {l : List (Nat × Nat)} (nd : l.Nodup) {k : Nat} {p : Nat × Nat} (h : l[k]? = some p) : p ∉ l.take k := by
  have n2 : (l.take (k + 1)).Nodup := nd.sublist (List.take_sublist _ _)
  rw [List.take_add_one, h, List.nodup_append] at n2
  intro hm
  exact n2.2.2 p hm p (by simp) rfl
end Sh
end

section
set_option linter.all false
set_option autoImplicit false
set_option maxRecDepth 100000
open Dp Sh
local macro_rules | `(tactic| array_get_dec) => `(tactic| first   | with_reducible apply W_cons   | with_reducible apply W_nil   | with_reducible apply W_set   | with_reducible apply W_ret   | with_reducible apply W_ife   | with_reducible apply W_for   | with_reducible apply W_ex   | ((with_reducible apply W_mm); exact rfl)   | with_reducible apply W_seti   | with_reducible apply W_unp   | with_reducible apply W_par   | ((with_reducible apply W_aug); exact rfl)   | with_reducible apply W_pass   | with_reducible apply W_brk   | with_reducible apply W_cont   | with_reducible apply W_retn   | ((with_reducible apply W_rais); exact rfl)   | with_reducible apply W_k   | ((with_reducible refine BT_of ?_ ?_); (first | exact rfl | decide | (simp only [List.length_cons, List.length_nil, sizeLine]; omega)))   | ((with_reducible apply W_v); exact rfl)   | ((with_reducible apply W_vo); exact rfl)   | ((with_reducible apply W_vb); exact rfl)   | ((with_reducible apply W_glb); exact rfl)   | with_reducible apply W_bin   | with_reducible apply W_cmp   | with_reducible apply W_sub   | with_reducible apply W_and   | with_reducible apply W_or   | with_reducible apply W_nt   | with_reducible apply W_neg   | with_reducible apply W_chn   | with_reducible apply W_isn   | with_reducible apply W_isb   | with_reducible apply W_ite   | with_reducible apply W_tup   | with_reducible apply W_lst   | with_reducible apply W_slc   | with_reducible apply W_rev   | with_reducible apply W_rlT   | with_reducible apply W_rlF   | with_reducible apply W_isi   | with_reducible apply W_b1   | with_reducible apply W_b2   | with_reducible apply W_m1   | with_reducible apply W_call   | ((with_reducible apply W_callm); exact rfl)   | ((with_reducible apply W_mp); exact rfl)   | ((with_reducible apply MP_val); exact rfl)   | ((with_reducible apply W_callv); exact rfl; exact rfl)   | ((with_reducible apply W_tld); exact rfl)   | with_reducible apply W_lc   | with_reducible apply W_att   | ((with_reducible apply LF_att); exact rfl; exact rfl)   | ((with_reducible apply W_mk); exact rfl)   | with_reducible apply W_setf   | with_reducible apply W_lc2   | with_reducible apply W_esnil   | with_reducible apply W_escons   | with_reducible apply W_ernil   | with_reducible apply W_ercons   | with_reducible apply W_seq   | with_reducible apply W_rng   | with_reducible apply W_enum   | with_reducible apply W_zip2   | with_reducible apply W_om   | with_reducible apply P1_val   | with_reducible apply P1_frl   | with_reducible apply P1_frd   | with_reducible apply P1_fri   | ((with_reducible apply P1_borl); exact rfl)   | ((with_reducible apply P1_bobl); exact rfl)   | ((with_reducible apply P1_bor); exact rfl)   | ((with_reducible apply P1_bob); exact rfl)   | ((with_reducible apply P1_bosh); exact rfl)   | with_reducible apply U_val   | with_reducible apply UK_val   | with_reducible apply UK_fr   | with_reducible apply UK_bor   | with_reducible apply U_frl   | with_reducible apply U_fr   | ((with_reducible apply U_bor); exact rfl; dsimp only [frz, List.set])   | ((with_reducible apply U_bosh); exact rfl)   | with_reducible apply K_nx   | with_reducible apply K_rt   | with_reducible apply K_bk   | with_reducible apply K_ct   | with_reducible apply CN_val   | with_reducible apply CN_fr   | with_reducible apply CNX_of   | with_reducible apply CM_val0   | with_reducible apply CM_val0o   | with_reducible apply CM_val1o   | with_reducible apply CM_fr0   | with_reducible apply CM_fr0o   | with_reducible apply CM_fr1o   | with_reducible apply CMX_of   | with_reducible apply FN_nx   | with_reducible apply FN_val   | with_reducible apply FN_fr   | ((with_reducible apply FN_bor); exact rfl)   | ((with_reducible apply FN_bosh); exact rfl)   | with_reducible apply FM_nx   | with_reducible apply FM_val   | with_reducible apply FM_fr   | ((with_reducible apply FM_bor); exact rfl)   | with_reducible apply FNX_of   | with_reducible apply FMX_of   | with_reducible apply LQ_nx   | with_reducible apply LQ_rt   | with_reducible apply LQ_bk   | with_reducible apply LQ_ct   | ((with_reducible apply PT_om); exact rfl)   | ((with_reducible apply PT_int); exact rfl)   | with_reducible apply T_true   | with_reducible apply T_false   | with_reducible apply T_not   | with_reducible apply LF_some   | with_reducible apply LF_add   | with_reducible apply LF_sub   | ((with_reducible apply LF_mul); (first | exact Or.inr (Or.inl (small_of (by omega))) | exact Or.inl (small_of (by omega)) | exact Or.inl (small_mod _ _ (by decide) (by decide))))   | ((with_reducible apply LF_pow); decide)   | ((with_reducible apply LF_adds); (first | (simp only [List.length_cons, List.length_nil, List.length_append, sizeLine]; omega)))   | ((with_reducible apply LF_lens); (first | assumption))   | ((with_reducible apply LF_slcs); (first | assumption))   | ((with_reducible apply LF_subs); assumption; (first | assumption | omega); assumption)   | ((with_reducible apply LF_subl); (first | assumption | omega); assumption)   | ((with_reducible apply LF_subt); (first | assumption | omega); assumption)   | ((with_reducible apply LF_sindex); assumption)   | with_reducible apply LF_eqi   | with_reducible apply LF_nei   | with_reducible apply LF_lti   | with_reducible apply LF_lei   | with_reducible apply LF_gti   | with_reducible apply LF_gei   | with_reducible apply LF_eqb   | with_reducible apply LF_neb   | with_reducible apply LF_instr   | with_reducible apply LF_ninstr   | with_reducible apply LF_asgn   | with_reducible apply LF_asgnil   | with_reducible apply LF_asgcons   | with_reducible apply LF_dsnil   | with_reducible apply LF_dscons   | ((with_reducible apply LF_store); exact rfl; (first | exact Fre.sh | exact Fre.un | exact Fre.ow | assumption); dsimp only [List.set])   | ((with_reducible apply LF_storeO); exact rfl; (first | exact Fre.sh | exact Fre.un | exact Fre.ow | assumption); dsimp only [List.set])   | ((with_reducible apply LF_stored); exact rfl; exact rfl; (first | exact Fre.sh | exact Fre.un | exact Fre.ow | assumption); dsimp only [List.set, frz])   | ((with_reducible apply LF_setob); exact rfl; dsimp only [putOb, List.getElem?_cons_zero, List.getElem?_cons_succ, List.set, Int.reduceToNat])   | ((with_reducible refine LF_append ?_ ?_); rotate_left; dsimp only [putOb, List.getElem?_cons_zero, List.getElem?_cons_succ, List.set, List.nil_append, List.cons_append])   | ((with_reducible refine LF_extend ?_ ?_); rotate_left; dsimp only [putOb, List.getElem?_cons_zero, List.getElem?_cons_succ, List.set, List.nil_append, List.cons_append])   | ((with_reducible apply LF_mod); (first | decide | assumption | omega))   | ((with_reducible apply LF_fdiv); (first | decide | assumption | omega); (first | decide | assumption))   | with_reducible apply LF_rng   | with_reducible apply WF_fn   | ((with_reducible apply T_is (c := true)); decide)   | ((with_reducible apply T_is (c := false)); decide)   | (((with_reducible apply T_dec) <;> intro) <;> (try (exfalso; omega)))   | (((with_reducible apply TB_dec) <;> intro) <;> (try (exfalso; omega)))   | ((with_reducible apply T_is (c := true)); exact rfl)   | ((with_reducible apply T_is (c := false)); exact rfl)   | ((with_reducible apply LF_eq); exact rfl))
namespace DpK
theorem spoiled_s (fuel n : Nat) (o : Ob) (ho : Hand o) {s : Int} (hs : 2 ≤ s) (hs2 : s ≤ 36) {h w : Nat} {b : Bd} (S : Sheet s h w b) (f : Fits s h w b) (h2 : 2 ≤ h) (h5 : h ≤ 8) (w2 : 2 ≤ w) (w5 : w ≤ 8) (many : Nat) (hm : many ≤ 4) (hf : 100 < fuel) :
    WF (sem (PR fuel) (n + 3) 29 (some o) [.int s, bdD b, .int many]) (fun r q => ∃ b' o', r = .val (bdD b') ∧ q = some o' ∧ Hand o' ∧ Sheet s h w b' ∧ (1 ≤ many ∧ many ≤ 3 → ¬ Fits s h w b') ∧
      (many = 1 → ∃ i j x, i < h ∧ j < w ∧ (0 ≤ x ∧ x < s) ∧ x ≠ g b i j ∧ b' = st b i j x)) noF := by
  have hl : (b.map rowD).length = h := by rw [List.length_map, S.rows]
  have e0 : (b.map rowD)[(0 : Int).toNat]? = some (.tup ((b.getD 0 []).map D.int)) := sh_row S (by omega)
  have l0 : ((b.getD 0 []).map D.int).length = w := by rw [List.length_map, S.len (by omega)]
  have hmul : ∀ k, k ≤ h → k * w ≤ 64 := fun k hk => Nat.le_trans (Nat.mul_le_mul (show k ≤ 8 by omega) w5) (by decide)
  have h4 : 4 ≤ h * w := Nat.le_trans (show 4 ≤ 2 * 2 by decide) (Nat.mul_le_mul h2 w2)
  refine w29 ?_
  repeat' array_get_dec
  · exact rngc (by omega) (by omega) (by omega) (by omega)
  rw [hl]
  refine W_forI (fun k σ => k ≤ h ∧ ∃ s5, Fre s5 ∧ σ = [.bo o, .sh (.int s), .sh (bdD b), .sh (.int many), .ow (.l ((allc k w).map cD)), s5, .un]) ⟨by omega, .un, .un, rfl⟩ ?_ ?_
  · rintro k x σ hx ⟨hk, s5, f5, rfl⟩
    obtain ⟨rfl, hk2⟩ := rng_at0 hx
    repeat' array_get_dec
    · rw [l0]; exact rngc (by omega) (by omega) (by omega) (by omega)
    rw [l0]
    refine W_lcM (fun x => .tup [.int k, x]) rfl .un ?_ ?_
    · intro j x hx
      dsimp only [List.set]
      repeat' array_get_dec
      exact ⟨rfl, rfl⟩
    intro s6 f6
    refine BT_of (by rw [List.length_map, rng_len0]; simp only [sizeLine]; omega) ?_
    dsimp only [backD, List.getElem?_cons_zero, List.getElem?_cons_succ, List.set]
    have er : (allc k w).map cD ++ (rangeD 0 w 1).map (fun x => D.tup [.int k, x]) = (allc (k + 1) w).map cD := by
      rw [allc_succ, List.map_append, rangeD0, List.map_map, List.map_map]; rfl
    repeat' array_get_dec
    · exact ⟨by omega, .sh (.int k), .sh, by rw [er]⟩
    · have := hmul k (by omega)
      rw [List.length_map, List.length_map, rng_len0, allc_len]
      simp only [sizeLine]; omega
  rintro σ ⟨_, s5, f5, rfl⟩
  rw [rng_len0]
  repeat' array_get_dec
  refine WF_mono0 (mixed_s _ _ o ho ((allc h w).map cD) (by rw [List.length_map, allc_len]; have := hmul h (by omega); omega) hf) ?_
  rintro _ _ ⟨ds', o1, rfl, rfl, ho1, hp⟩
  obtain ⟨ps, rfl, pp⟩ := perm_cells hp
  have pl : ps.length = h * w := by rw [pp.length_eq, allc_len]
  have pn : ps.Nodup := pp.nodup_iff.mpr (allc_nodup h w)
  have pm : ∀ p ∈ ps, p.1 < h ∧ p.2 < w := fun p hp => allc_mem.mp (pp.mem_iff.mp hp)
  repeat' array_get_dec
  rw [cut_to (by omega), Int.toNat_natCast, ← List.map_take]
  have tl : (ps.take many).length = many := by rw [List.length_take]; omega
  have tn : (ps.take many).Nodup := pn.sublist (List.take_sublist _ _)
  refine W_forI (fun k σ => ∃ cs b' o s5 s6, cs.map (fun c => (c.1, c.2.1)) = (ps.take many).take k ∧ Ch s h w b cs b' ∧ (k = 0 → b' = b) ∧ (k = 1 → ∃ i j x, i < h ∧ j < w ∧ (0 ≤ x ∧ x < s) ∧ x ≠ g b i j ∧ b' = st b i j x) ∧ Hand o ∧ Fre s5 ∧ Fre s6 ∧
      σ = [.bo o, .sh (.int s), .sh (bdD b'), .sh (.int many), .sh (.lst ((allc h w).map cD)), s5, s6]) ⟨[], b, o1, _, _, rfl, Ch.nil S, fun _ => rfl, fun z => (nomatch z), ho1, f5, .un, rfl⟩ ?_ ?_
  · rintro k x σ hx ⟨cs, b', o2, t5, t6, e1, ch, k0, k1, ho2, g5, g6, rfl⟩
    rw [List.getElem?_map] at hx
    obtain ⟨⟨i, j⟩, hij, rfl⟩ := Option.map_eq_some_iff.mp hx
    obtain ⟨hi, hj⟩ := pm (i, j) (List.mem_of_mem_take (List.mem_of_getElem? hij))
    have hi : i < h := hi
    have hj : j < w := hj
    have S' := ch.sh
    have ei : (b'.map rowD)[(i : Int).toNat]? = some (.tup ((b'.getD i []).map D.int)) := sh_row S' hi
    have ej : ((b'.getD i []).map D.int)[(j : Int).toNat]? = some (.int (g b' i j)) := sh_cell S' hi hj
    have gi := S'.g_in hi hj
    unfold cD
    repeat' array_get_dec
    refine C_draw ho2 (by omega) (by omega) ?_
    intro d o3 ho3 hd1 hd2
    obtain ⟨q1, q2⟩ := shift_ne gi ⟨hd1, hd2⟩
    repeat' array_get_dec
    refine WF_eq (with_ok _ _ S' (by omega) (by omega) _ hi hj) ?_
    repeat' array_get_dec
    have nw := take_new tn hij
    rw [← e1] at nw
    refine ⟨cs ++ [(i, j, (g b' i j + 1 + d) % s - g b' i j)], st b' i j ((g b' i j + 1 + d) % s), o3, .sh (.int i), .sh (.int j), ?_, ch.step (by omega) hi hj q1 q2 nw, fun z => (nomatch z), fun z => ?_, ho3, .sh, .sh, rfl⟩
    · rw [List.map_append, e1, List.take_add_one, hij]; rfl
    · have hk : k = 0 := by omega
      have := k0 hk
      subst this
      exact ⟨i, j, _, hi, hj, q1, q2, rfl⟩
  · rintro σ ⟨cs, b', o2, t5, t6, e1, ch, k0, k1, ho2, g5, g6, rfl⟩
    rw [List.length_map, tl] at e1 k1
    have cl : cs.length = many := by
      have := congrArg List.length e1
      rw [List.length_map, List.length_take, tl] at this
      omega
    repeat' array_get_dec
    exact ⟨b', o2, rfl, rfl, ho2, ch.sh, fun ⟨m1, m3⟩ => ch.seen f (by omega) (by omega), fun m1 => k1 m1⟩
end DpK

end

section
set_option linter.all false
set_option autoImplicit false
open Dp
/-! DpH5: what is told of a sheet (plain) -/
namespace Sh
abbrev ixsD (l : List Nat) : List D := l.map fun (i : Nat) => D.int i
/-- the places of what is not nought -/
def wr (l : List Int) : List Nat := (List.range l.length).filter fun i => decide (l.getD i 0 ≠ 0)
theorem wr_mem {l : List Int} {i : Nat} : i ∈ wr l ↔ i < l.length ∧ l.getD i 0 ≠ 0 := by
  rw [wr, List.mem_filter, List.mem_range, decide_eq_true_iff]
theorem wr_nodup (l : List Int) : (wr l).Nodup := List.nodup_range.sublist List.filter_sublist
theorem sole {l : List Nat} (nd : l.Nodup) {i : Nat} (hi : i ∈ l) (ha : ∀ x ∈ l, x = i) : l = [i] := by
  match l, nd, hi, ha with
  | [a], _, _, ha => rw [ha a (by simp)]
  | a :: c :: l, nd, _, ha =>
    have e1 := ha a (by simp)
    have e2 := ha c (by simp)
    rw [List.nodup_cons] at nd
    exact absurd (by rw [e1, e2]; simp : a ∈ c :: l) nd.1
theorem wr_one {l : List Int} {i : Nat} : wr l = [i] ↔ i < l.length ∧ l.getD i 0 ≠ 0 ∧ ∀ k < l.length, k ≠ i → l.getD k 0 = 0 := by
  constructor
  · intro e
    have hm : i ∈ wr l := by rw [e]; simp
    obtain ⟨h1, h2⟩ := wr_mem.mp hm
    refine ⟨h1, h2, fun k hk nk => Classical.byContradiction fun n => nk ?_⟩
    have : k ∈ wr l := wr_mem.mpr ⟨hk, n⟩
    rw [e] at this
    exact List.mem_singleton.mp this
  · rintro ⟨h1, h2, h3⟩
    refine sole (wr_nodup l) (wr_mem.mpr ⟨h1, h2⟩) fun k hk => Classical.byContradiction fun n => ?_
    obtain ⟨k1, k2⟩ := wr_mem.mp hk
    exact k2 (h3 k k1 n)
theorem wr_nil {l : List Int} : wr l = [] ↔ ∀ x ∈ l, x = 0 := by
  constructor
  · intro e x hx
    obtain ⟨i, hi⟩ := List.mem_iff_getElem?.mp hx
    refine Classical.byContradiction fun n => ?_
    have : i ∈ wr l := wr_mem.mpr ⟨(List.getElem?_eq_some_iff.mp hi).1, by rw [List.getD_eq_getElem?_getD, hi]; exact n⟩
    rw [e] at this
    cases this
  · intro h
    refine List.eq_nil_iff_forall_not_mem.mpr fun i hi => ?_
    obtain ⟨k1, k2⟩ := wr_mem.mp hi
    refine k2 (h _ ?_)
    rw [List.getD_eq_getElem?_getD, List.getElem?_eq_getElem k1]
    exact List.getElem_mem k1
section
variable {s : Int} {h w : Nat} {b : Bd}
theorem rowsM_getD (S : Sheet s h w b) {i : Nat} (hi : i < h) : (rowsM s b).getD i 0 = R b i % s := by rw [List.getD_eq_getElem?_getD, rowsM_at S hi]; rfl
theorem colsM_getD {j : Nat} (hj : j < w) : (colsM s w b).getD j 0 = C b j % s := by rw [List.getD_eq_getElem?_getD, colsM_at hj]; rfl
theorem just_iff (S : Sheet s h w b) {i j : Nat} : Just s h w b i j ↔ wr (rowsM s b) = [i] ∧ wr (colsM s w b) = [j] ∧ R b i % s = C b j % s := by
  rw [wr_one, wr_one, rowsM_len S, colsM_len]
  constructor
  · rintro ⟨hi, hj, nz, eq, hr, hc⟩
    refine ⟨⟨hi, by rw [rowsM_getD S hi]; exact nz, fun k hk nk => by rw [rowsM_getD S hk]; exact hr k hk nk⟩, ⟨hj, by rw [colsM_getD hj, ← eq]; exact nz, fun k hk nk => by rw [colsM_getD hk]; exact hc k hk nk⟩, eq⟩
  · rintro ⟨⟨hi, nz, hr⟩, ⟨hj, _, hc⟩, eq⟩
    rw [rowsM_getD S hi] at nz
    exact ⟨hi, hj, nz, eq, fun k hk nk => by have := hr k hk nk; rwa [rowsM_getD S hk] at this, fun k hk nk => by have := hc k hk nk; rwa [colsM_getD hk] at this⟩
theorem fits_wr (S : Sheet s h w b) : Fits s h w b ↔ wr (rowsM s b) = [] ∧ wr (colsM s w b) = [] := by
  rw [wr_nil, wr_nil]; exact (fits_iff S).symm
/-- just one row, one column, by as much -/
def OneB (s : Int) (w : Nat) (b : Bd) : Prop := (wr (rowsM s b)).length = 1 ∧ (wr (colsM s w b)).length = 1 ∧ R b ((wr (rowsM s b)).getD 0 0) % s = C b ((wr (colsM s w b)).getD 0 0) % s
instance (s : Int) (w : Nat) (b : Bd) : Decidable (OneB s w b) := by unfold OneB; infer_instance
def oneI (s : Int) (b : Bd) : Nat := (wr (rowsM s b)).getD 0 0
def oneJ (s : Int) (w : Nat) (b : Bd) : Nat := (wr (colsM s w b)).getD 0 0
def oneX (s : Int) (w : Nat) (b : Bd) : Int := (g b (oneI s b) (oneJ s w b) - R b (oneI s b) % s) % s
theorem oneB_just (S : Sheet s h w b) (o : OneB s w b) : Just s h w b (oneI s b) (oneJ s w b) := by
  obtain ⟨h1, h2, h3⟩ := o
  obtain ⟨i, ei⟩ := List.length_eq_one_iff.mp h1
  obtain ⟨j, ej⟩ := List.length_eq_one_iff.mp h2
  have hi : oneI s b = i := by rw [oneI, ei]; rfl
  have hj : oneJ s w b = j := by rw [oneJ, ej]; rfl
  rw [just_iff S, hi, hj]
  refine ⟨ei, ej, ?_⟩
  have := h3
  rw [ei, ej] at this
  exact this
theorem just_oneB (S : Sheet s h w b) {i j : Nat} (u : Just s h w b i j) : OneB s w b ∧ oneI s b = i ∧ oneJ s w b = j := by
  obtain ⟨e1, e2, e3⟩ := (just_iff S).mp u
  refine ⟨⟨by rw [e1]; rfl, by rw [e2]; rfl, by rw [e1, e2]; exact e3⟩, by rw [oneI, e1]; rfl, by rw [oneJ, e2]; rfl⟩
def toldV (s : Int) (w : Nat) (b : Bd) : D :=
  if wr (rowsM s b) = [] ∧ wr (colsM s w b) = [] then .tup [.str [103, 111, 111, 100]]
  else if OneB s w b then .tup [.str [111, 110, 101], .int (oneI s b), .int (oneJ s w b), .int (oneX s w b)]
  else .tup [.str [109, 111, 114, 101], .tup (ixsD (wr (rowsM s b))), .tup (ixsD (wr (colsM s w b)))]
def mendV (s : Int) (w : Nat) (b : Bd) : D :=
  if wr (rowsM s b) = [] ∧ wr (colsM s w b) = [] then bdD b
  else if OneB s w b then bdD (st b (oneI s b) (oneJ s w b) (oneX s w b))
  else .non
def wrk (l : List Int) (j : Nat) : List Nat := (List.range j).filter fun i => decide (l.getD i 0 ≠ 0)
theorem wrk_yes {l : List Int} {j : Nat} (h : l.getD j 0 ≠ 0) : ixsD (wrk l j) ++ [.int j] = ixsD (wrk l (j + 1)) := by
  unfold wrk ixsD
  rw [List.range_succ, List.filter_append, List.map_append, List.filter_cons, if_pos (decide_eq_true h)]; rfl
theorem wrk_no {l : List Int} {j : Nat} (h : l.getD j 0 = 0) : ixsD (wrk l j) = ixsD (wrk l (j + 1)) := by
  unfold wrk ixsD
  rw [List.range_succ, List.filter_append, List.map_append, List.filter_cons, if_neg (by rw [h]; decide)]; simp
theorem ints_getD {l : List Int} {k : Nat} {y : D} (h : (l.map D.int)[k]? = some y) : y = .int (l.getD k 0) := by
  rw [List.getElem?_map] at h
  obtain ⟨i, h1, rfl⟩ := Option.map_eq_some_iff.mp h
  rw [List.getD_eq_getElem?_getD, h1]; rfl
/-- the enumerated -/
theorem enumD_at : ∀ {xs : List D} {n k : Nat} {x : D}, (enumD n xs)[k]? = some x → ∃ y, x = .tup [.int ((n + k : Nat) : Int), y] ∧ xs[k]? = some y
  | y :: xs, n, 0, x, h => by cases h; exact ⟨y, rfl, rfl⟩
  | y :: xs, n, k + 1, x, h => by
    obtain ⟨z, e1, e2⟩ := enumD_at (xs := xs) (n := n + 1) (k := k) h
    exact ⟨z, by rw [e1]; congr 3; congr 1; omega, e2⟩
theorem enumD_len : ∀ (xs : List D) (n : Nat), (enumD n xs).length = xs.length
  | [], _ => rfl
  | x :: xs, n => by show (enumD (n + 1) xs).length + 1 = _; rw [enumD_len xs]; rfl
end
end Sh
end

section
set_option linter.all false
set_option autoImplicit false
set_option maxRecDepth 100000
open Dp Sh
local macro_rules | `(tactic| array_get_dec) => `(tactic| first   | with_reducible apply W_cons   | with_reducible apply W_nil   | with_reducible apply W_set   | with_reducible apply W_ret   | with_reducible apply W_ife   | with_reducible apply W_for   | with_reducible apply W_ex   | ((with_reducible apply W_mm); exact rfl)   | with_reducible apply W_seti   | with_reducible apply W_unp   | with_reducible apply W_par   | ((with_reducible apply W_aug); exact rfl)   | with_reducible apply W_pass   | with_reducible apply W_brk   | with_reducible apply W_cont   | with_reducible apply W_retn   | ((with_reducible apply W_rais); exact rfl)   | with_reducible apply W_k   | ((with_reducible refine BT_of ?_ ?_); (first | exact rfl | decide | (simp only [List.length_cons, List.length_nil, sizeLine]; omega)))   | ((with_reducible apply W_v); exact rfl)   | ((with_reducible apply W_vo); exact rfl)   | ((with_reducible apply W_vb); exact rfl)   | ((with_reducible apply W_glb); exact rfl)   | with_reducible apply W_bin   | with_reducible apply W_cmp   | with_reducible apply W_sub   | with_reducible apply W_and   | with_reducible apply W_or   | with_reducible apply W_nt   | with_reducible apply W_neg   | with_reducible apply W_chn   | with_reducible apply W_isn   | with_reducible apply W_isb   | with_reducible apply W_ite   | with_reducible apply W_tup   | with_reducible apply W_lst   | with_reducible apply W_slc   | with_reducible apply W_rev   | with_reducible apply W_rlT   | with_reducible apply W_rlF   | with_reducible apply W_isi   | with_reducible apply W_b1   | with_reducible apply W_b2   | with_reducible apply W_m1   | with_reducible apply W_call   | ((with_reducible apply W_callm); exact rfl)   | ((with_reducible apply W_mp); exact rfl)   | ((with_reducible apply MP_val); exact rfl)   | ((with_reducible apply W_callv); exact rfl; exact rfl)   | ((with_reducible apply W_tld); exact rfl)   | with_reducible apply W_lc   | with_reducible apply W_att   | ((with_reducible apply LF_att); exact rfl; exact rfl)   | ((with_reducible apply W_mk); exact rfl)   | with_reducible apply W_setf   | with_reducible apply W_lc2   | with_reducible apply W_esnil   | with_reducible apply W_escons   | with_reducible apply W_ernil   | with_reducible apply W_ercons   | with_reducible apply W_seq   | with_reducible apply W_rng   | with_reducible apply W_enum   | with_reducible apply W_zip2   | with_reducible apply W_om   | with_reducible apply P1_val   | with_reducible apply P1_frl   | with_reducible apply P1_frd   | with_reducible apply P1_fri   | ((with_reducible apply P1_borl); exact rfl)   | ((with_reducible apply P1_bobl); exact rfl)   | ((with_reducible apply P1_bor); exact rfl)   | ((with_reducible apply P1_bob); exact rfl)   | ((with_reducible apply P1_bosh); exact rfl)   | with_reducible apply U_val   | with_reducible apply UK_val   | with_reducible apply UK_fr   | with_reducible apply UK_bor   | with_reducible apply U_frl   | with_reducible apply U_fr   | ((with_reducible apply U_bor); exact rfl; dsimp only [frz, List.set])   | ((with_reducible apply U_bosh); exact rfl)   | with_reducible apply K_nx   | with_reducible apply K_rt   | with_reducible apply K_bk   | with_reducible apply K_ct   | with_reducible apply CN_val   | with_reducible apply CN_fr   | with_reducible apply CNX_of   | with_reducible apply CM_val0   | with_reducible apply CM_val0o   | with_reducible apply CM_val1o   | with_reducible apply CM_fr0   | with_reducible apply CM_fr0o   | with_reducible apply CM_fr1o   | with_reducible apply CMX_of   | with_reducible apply FN_nx   | with_reducible apply FN_val   | with_reducible apply FN_fr   | ((with_reducible apply FN_bor); exact rfl)   | ((with_reducible apply FN_bosh); exact rfl)   | with_reducible apply FM_nx   | with_reducible apply FM_val   | with_reducible apply FM_fr   | ((with_reducible apply FM_bor); exact rfl)   | with_reducible apply FNX_of   | with_reducible apply FMX_of   | with_reducible apply LQ_nx   | with_reducible apply LQ_rt   | with_reducible apply LQ_bk   | with_reducible apply LQ_ct   | ((with_reducible apply PT_om); exact rfl)   | ((with_reducible apply PT_int); exact rfl)   | with_reducible apply T_true   | with_reducible apply T_false   | with_reducible apply T_not   | with_reducible apply LF_some   | with_reducible apply LF_add   | with_reducible apply LF_sub   | ((with_reducible apply LF_mul); (first | exact Or.inr (Or.inl (small_of (by omega))) | exact Or.inl (small_of (by omega)) | exact Or.inl (small_mod _ _ (by decide) (by decide))))   | ((with_reducible apply LF_pow); decide)   | ((with_reducible apply LF_adds); (first | (simp only [List.length_cons, List.length_nil, List.length_append, sizeLine]; omega)))   | ((with_reducible apply LF_lens); (first | assumption))   | ((with_reducible apply LF_slcs); (first | assumption))   | ((with_reducible apply LF_subs); assumption; (first | assumption | omega); assumption)   | ((with_reducible apply LF_subl); (first | assumption | omega); assumption)   | ((with_reducible apply LF_subt); (first | assumption | omega); assumption)   | ((with_reducible apply LF_sindex); assumption)   | with_reducible apply LF_eqi   | with_reducible apply LF_nei   | with_reducible apply LF_lti   | with_reducible apply LF_lei   | with_reducible apply LF_gti   | with_reducible apply LF_gei   | with_reducible apply LF_eqb   | with_reducible apply LF_neb   | with_reducible apply LF_instr   | with_reducible apply LF_ninstr   | with_reducible apply LF_asgn   | with_reducible apply LF_asgnil   | with_reducible apply LF_asgcons   | with_reducible apply LF_dsnil   | with_reducible apply LF_dscons   | ((with_reducible apply LF_store); exact rfl; (first | exact Fre.sh | exact Fre.un | exact Fre.ow | assumption); dsimp only [List.set])   | ((with_reducible apply LF_storeO); exact rfl; (first | exact Fre.sh | exact Fre.un | exact Fre.ow | assumption); dsimp only [List.set])   | ((with_reducible apply LF_stored); exact rfl; exact rfl; (first | exact Fre.sh | exact Fre.un | exact Fre.ow | assumption); dsimp only [List.set, frz])   | ((with_reducible apply LF_setob); exact rfl; dsimp only [putOb, List.getElem?_cons_zero, List.getElem?_cons_succ, List.set, Int.reduceToNat])   | ((with_reducible refine LF_append ?_ ?_); rotate_left; dsimp only [putOb, List.getElem?_cons_zero, List.getElem?_cons_succ, List.set, List.nil_append, List.cons_append])   | ((with_reducible refine LF_extend ?_ ?_); rotate_left; dsimp only [putOb, List.getElem?_cons_zero, List.getElem?_cons_succ, List.set, List.nil_append, List.cons_append])   | ((with_reducible apply LF_mod); (first | decide | assumption | omega))   | ((with_reducible apply LF_fdiv); (first | decide | assumption | omega); (first | decide | assumption))   | with_reducible apply LF_rng   | with_reducible apply WF_fn   | ((with_reducible apply T_is (c := true)); decide)   | ((with_reducible apply T_is (c := false)); decide)   | (((with_reducible apply T_dec) <;> intro) <;> (try (exfalso; omega)))   | (((with_reducible apply TB_dec) <;> intro) <;> (try (exfalso; omega)))   | ((with_reducible apply T_is (c := true)); exact rfl)   | ((with_reducible apply T_is (c := false)); exact rfl)   | ((with_reducible apply LF_eq); exact rfl))
namespace DpK
/-! things that are none -/
def Deep : Nat → D → Prop
  | 0, _ => True
  | k + 1, d => ∃ e, (d = .tup [e] ∨ d = .lst [e]) ∧ Deep k e
theorem deep_s (fuel n : Nat) (o : Ob) (ho : Hand o) : WF (sem (PR fuel) (n + 3) 22 (some o) []) (fun r q => ∃ d o', r = .val d ∧ q = some o' ∧ Hand o' ∧ Deep 5 d) noF := by
  have mono : ∀ (k : Nat) (d : D), Deep (k + 1) d → Deep k d := by
    intro k
    induction k with
    | zero => intro d _; trivial
    | succ k ih => rintro d ⟨e, he, de⟩; exact ⟨e, he, ih e de⟩
  refine w22 ?_
  repeat' array_get_dec
  refine C_any ho (by simp) (by simp) ?_
  intro t0 o1 ho1 _
  repeat' array_get_dec
  refine C_draw ho1 (by omega) (by omega) ?_
  intro c o2 ho2 hc1 hc2
  repeat' array_get_dec
  · exact rngc (by omega) (by omega) (by omega) (by omega)
  refine W_forI (fun k σ => ∃ d o s2, Deep k d ∧ Hand o ∧ Fre s2 ∧ σ = [.bo o, .sh d, s2]) ⟨t0, o2, _, trivial, ho2, .un, rfl⟩ ?_ ?_
  · rintro k x σ hx ⟨d, o3, s2, hd, ho3, f2, rfl⟩
    repeat' array_get_dec
    refine C_any ho3 (by simp) (by simp) ?_
    intro e o4 ho4 he
    repeat' array_get_dec
    refine ⟨e, o4, .sh x, ⟨d, ?_, hd⟩, ho4, .sh, rfl⟩
    simpa using he
  · rintro σ ⟨d, o3, s2, hd, ho3, f2, rfl⟩
    rw [show (5 : Int) + c = ((5 + c).toNat : Nat) by omega, rng_len0] at hd
    have down : ∀ j, Deep (5 + j) d → Deep 5 d := by
      intro j
      induction j with
      | zero => exact id
      | succ j ih => exact fun z => ih (mono _ _ z)
    repeat' array_get_dec
    exact ⟨d, o3, rfl, rfl, ho3, down ((5 + c).toNat - 5) (by rwa [show 5 + ((5 + c).toNat - 5) = (5 + c).toNat by omega])⟩
/-- no number from 2 to 36 -/
def NoNum (d : D) : Prop := ∀ fuel n, sem (PR fuel) (n + 3) 6 none [d, .int 2, .int 36] = .exc ⟨1, []⟩ none
theorem none_s (fuel n : Nat) (o : Ob) (ho : Hand o) : WF (sem (PR fuel) (n + 4) 23 (some o) []) (fun r q => ∃ d o', r = .val d ∧ q = some o' ∧ Hand o' ∧ NoNum d) noF := by
  refine w23 ?_
  repeat' array_get_dec
  refine W_eq (a := RV.fr (.d false [] [])) rfl ?_
  repeat' array_get_dec
  refine WF_mono0 (deep_s _ _ o ho) ?_
  rintro _ _ ⟨dp, o1, rfl, rfl, ho1, e, he, _⟩
  repeat' array_get_dec
  refine C_any ho1 (by simp) (by simp) ?_
  intro d o2 ho2 hd
  repeat' array_get_dec
  refine ⟨d, o2, rfl, rfl, ho2, fun fuel n => ?_⟩
  simp only [List.mem_cons, List.not_mem_nil, or_false] at hd
  rcases hd with rfl | rfl | rfl | rfl | rfl | rfl | rfl | rfl
  all_goals first | rfl | (rcases he with rfl | rfl <;> rfl)
theorem no_base_s (fuel n : Nat) (o : Ob) (ho : Hand o) : WF (sem (PR fuel) (n + 5) 32 (some o) []) (fun r q => ∃ d o', r = .val d ∧ q = some o' ∧ Hand o' ∧ NoNum d) noF := by
  refine w32 ?_
  repeat' array_get_dec
  refine WF_mono0 (none_s _ _ o ho) ?_
  rintro _ _ ⟨dn, o1, rfl, rfl, ho1, hn⟩
  repeat' array_get_dec
  refine C_any ho1 (by simp) (by simp) ?_
  intro d o2 ho2 hd
  repeat' array_get_dec
  refine ⟨d, o2, rfl, rfl, ho2, fun fuel n => ?_⟩
  simp only [List.mem_cons, List.not_mem_nil, or_false] at hd
  rcases hd with rfl | rfl | rfl | rfl
  · rfl
  · rfl
  · rfl
  · exact hn fuel n
def NoSh (s : Int) (d : D) : Prop := ∀ fuel n, sem (PR fuel) (n + 4) 8 none [.int s, d] = .ok (.val (.bl false)) none
def Base (s : Int) : Prop := s = 2 ∨ s = 3 ∨ s = 5 ∨ s = 10
theorem no_sheet_s (fuel n : Nat) (o : Ob) (ho : Hand o) (s : Int) (hs : Base s) : WF (sem (PR fuel) (n + 5) 31 (some o) [.int s]) (fun r q => ∃ d o', r = .val d ∧ q = some o' ∧ Hand o' ∧ NoSh s d) noF := by
  refine w31 ?_
  repeat' array_get_dec
  refine W_eq (a := RV.fr (.d false [] [])) rfl ?_
  repeat' array_get_dec
  refine WF_mono0 (deep_s _ _ o ho) ?_
  rintro _ _ ⟨dp, o1, rfl, rfl, ho1, hdp⟩
  repeat' array_get_dec
  refine C_any ho1 (by simp) (by simp) ?_
  intro d o2 ho2 hd
  repeat' array_get_dec
  refine ⟨d, o2, rfl, rfl, ho2, fun fuel n => ?_⟩
  simp only [List.mem_append, List.mem_cons, List.not_mem_nil, or_false] at hd
  have deep : d = dp → sem (PR fuel) (n + 4) 8 none [.int s, d] = .ok (.val (.bl false)) none := by
    rintro rfl
    obtain ⟨e1, h1, e2, h2, e3, h3, _⟩ := hdp
    rcases h1 with rfl | rfl
    · rcases h2 with rfl | rfl
      · rcases h3 with rfl | rfl <;> rfl
      · rfl
    · rfl
  rcases hs with rfl | rfl | rfl | rfl <;>
  · rcases hd with (rfl | rfl | rfl | rfl | rfl | rfl | rfl | rfl | rfl) | (rfl | rfl | rfl | rfl | rfl | rfl | e)
    all_goals first | exact deep e | rfl
theorem base_s (fuel n : Nat) (o : Ob) (ho : Hand o) : WF (sem (PR fuel) (n + 3) 30 (some o) []) (fun r q => ∃ s o', r = .val (.int s) ∧ q = some o' ∧ Hand o' ∧ Base s) noF := by
  refine w30 ?_
  repeat' array_get_dec
  refine C_any ho (by simp) (by simp) ?_
  intro d o2 ho2 hd
  repeat' array_get_dec
  simp only [List.mem_cons, List.not_mem_nil, or_false] at hd
  rcases hd with rfl | rfl | rfl | rfl
  · exact ⟨2, o2, rfl, rfl, ho2, .inl rfl⟩
  · exact ⟨3, o2, rfl, rfl, ho2, .inr (.inl rfl)⟩
  · exact ⟨5, o2, rfl, rfl, ho2, .inr (.inr (.inl rfl))⟩
  · exact ⟨10, o2, rfl, rfl, ho2, .inr (.inr (.inr rfl))⟩
end DpK

end

section
set_option linter.all false
set_option autoImplicit false
open Dp
/-! DpH6: sheets turned; all sheets of a size (plain) -/
namespace Sh
def tr (w : Nat) (b : Bd) : Bd := (List.range w).map fun j => col b j
section
variable {s : Int} {h w : Nat} {b : Bd}
theorem tr_row {j : Nat} (hj : j < w) : (tr w b).getD j [] = col b j := by
  rw [tr, List.getD_eq_getElem?_getD, List.getElem?_map, List.getElem?_range hj]; rfl
theorem tr_g (S : Sheet s h w b) {i j : Nat} (hi : i < h) (hj : j < w) : g (tr w b) j i = g b i j := by
  rw [g, tr_row hj, col_at S hi]
theorem tr_sheet (S : Sheet s h w b) : Sheet s w h (tr w b) := by
  refine ⟨by rw [tr, List.length_map, List.length_range], fun r hr => ?_, fun r hr x hx => ?_⟩
  · obtain ⟨j, _, rfl⟩ := List.mem_map.mp hr
    exact col_len S j
  · obtain ⟨j, hj, rfl⟩ := List.mem_map.mp hr
    obtain ⟨r, hr, rfl⟩ := List.mem_map.mp hx
    have hj := List.mem_range.mp hj
    have hjr : j < r.length := by rw [S.cols r hr]; exact hj
    rw [List.getD_eq_getElem?_getD, List.getElem?_eq_getElem hjr]
    exact S.sign r hr _ (List.getElem_mem hjr)
theorem tr_R {j : Nat} (hj : j < w) : R (tr w b) j = C b j := by rw [R, tr_row hj]; rfl
theorem tr_C (S : Sheet s h w b) {i : Nat} (hi : i < h) : C (tr w b) i = R b i := by
  have e : col (tr w b) i = b.getD i [] := by
    refine List.ext_getElem? fun j => ?_
    by_cases hj : j < w
    · rw [col, List.getElem?_map, tr, List.getElem?_map, List.getElem?_range hj, S.cell hi hj]
      show some ((col b j).getD i 0) = _
      rw [col_at S hi]
    · rw [List.getElem?_eq_none (by rw [col_len (tr_sheet S)]; omega), List.getElem?_eq_none (by rw [S.len hi]; omega)]
  rw [C, e]; rfl
theorem tr_fits (S : Sheet s h w b) : Fits s w h (tr w b) ↔ Fits s h w b := by
  constructor
  · rintro ⟨h1, h2⟩
    exact ⟨fun i hi => by have := h2 i hi; rwa [tr_C S hi] at this, fun j hj => by have := h1 j hj; rwa [tr_R hj] at this⟩
  · rintro ⟨h1, h2⟩
    exact ⟨fun j hj => by rw [tr_R hj]; exact h2 j hj, fun i hi => by rw [tr_C S hi]; exact h1 i hi⟩
theorem tr_rows (S : Sheet s h w b) : rowsM s (tr w b) = colsM s w b := by
  refine List.ext_getElem? fun j => ?_
  by_cases hj : j < w
  · rw [rowsM_at (tr_sheet S) hj, colsM_at hj, tr_R hj]
  · rw [List.getElem?_eq_none (by rw [rowsM_len (tr_sheet S)]; omega), List.getElem?_eq_none (by rw [colsM_len]; omega)]
theorem tr_cols (S : Sheet s h w b) : colsM s h (tr w b) = rowsM s b := by
  refine List.ext_getElem? fun i => ?_
  by_cases hi : i < h
  · rw [colsM_at hi, rowsM_at S hi, tr_C S hi]
  · rw [List.getElem?_eq_none (by rw [colsM_len]; omega), List.getElem?_eq_none (by rw [rowsM_len S]; omega)]
end
/-- all rows of k signs below n -/
def wordsL (n : Nat) : Nat → List (List Int)
  | 0 => [[]]
  | k + 1 => (wordsL n k).flatMap fun r => (List.range n).map fun (i : Nat) => r ++ [(i : Int)]
theorem wordsL_len {n : Nat} : ∀ {k : Nat} {r : List Int}, r ∈ wordsL n k → r.length = k
  | 0, r, h => by rw [wordsL, List.mem_singleton] at h; rw [h]; rfl
  | k + 1, r, h => by
    rw [wordsL, List.mem_flatMap] at h
    obtain ⟨q, hq, hr⟩ := h
    obtain ⟨i, _, rfl⟩ := List.mem_map.mp hr
    rw [List.length_append, wordsL_len hq]; rfl
theorem wordsL_in {n : Nat} : ∀ {k : Nat} {r : List Int}, r ∈ wordsL n k → ∀ x ∈ r, 0 ≤ x ∧ x < n
  | 0, r, h => by rw [wordsL, List.mem_singleton] at h; rw [h]; intro x hx; cases hx
  | k + 1, r, h => by
    rw [wordsL, List.mem_flatMap] at h
    obtain ⟨q, hq, hr⟩ := h
    obtain ⟨i, hi, rfl⟩ := List.mem_map.mp hr
    have hi := List.mem_range.mp hi
    intro x hx
    rcases List.mem_append.mp hx with hx | hx
    · exact wordsL_in hq x hx
    · rw [List.mem_singleton.mp hx]; omega
/-- how many -/
theorem wordsL_many (n : Nat) : ∀ k, (wordsL n k).length = n ^ k
  | 0 => rfl
  | k + 1 => by
    rw [wordsL, List.length_flatMap, Nat.pow_succ, ← wordsL_many n k]
    have : ∀ l : List (List Int), (l.map fun r => ((List.range n).map fun (i : Nat) => r ++ [(i : Int)]).length).sum = l.length * n := fun l => by
      induction l with
      | nil => simp
      | cons a l ih => rw [List.map_cons, List.sum_cons, ih, List.length_map, List.length_range, List.length_cons, Nat.succ_mul]; omega
    exact this _
/-- cut to a sheet -/
def toBd (h w : Nat) (r : List Int) : Bd := (List.range h).map fun i => (r.drop (i * w)).take w
theorem toBd_sheet {n h w : Nat} {r : List Int} (hr : r ∈ wordsL n (h * w)) : Sheet n h w (toBd h w r) := by
  refine ⟨by rw [toBd, List.length_map, List.length_range], fun q hq => ?_, fun q hq x hx => ?_⟩
  · obtain ⟨i, hi, rfl⟩ := List.mem_map.mp hq
    have hi := List.mem_range.mp hi
    have h2 : (i + 1) * w ≤ h * w := Nat.mul_le_mul_right w hi
    rw [Nat.succ_mul] at h2
    rw [List.length_take, List.length_drop, wordsL_len hr]
    omega
  · obtain ⟨i, hi, rfl⟩ := List.mem_map.mp hq
    exact wordsL_in hr x (List.mem_of_mem_drop (List.mem_of_mem_take hx))
theorem goods : ∀ h ∈ [1, 2, 3], ∀ w ∈ [1, 2], ((wordsL 2 (h * w)).filter fun r => decide (Fits 2 h w (toBd h w r))).length = 2 ^ ((h - 1) * (w - 1)) := by decide +kernel
end Sh
end

section
set_option linter.all false
set_option autoImplicit false
set_option maxRecDepth 100000
open Dp Sh
local macro_rules | `(tactic| array_get_dec) => `(tactic| first   | with_reducible apply W_cons   | with_reducible apply W_nil   | with_reducible apply W_set   | with_reducible apply W_ret   | with_reducible apply W_ife   | with_reducible apply W_for   | with_reducible apply W_ex   | ((with_reducible apply W_mm); exact rfl)   | with_reducible apply W_seti   | with_reducible apply W_unp   | with_reducible apply W_par   | ((with_reducible apply W_aug); exact rfl)   | with_reducible apply W_pass   | with_reducible apply W_brk   | with_reducible apply W_cont   | with_reducible apply W_retn   | ((with_reducible apply W_rais); exact rfl)   | with_reducible apply W_k   | ((with_reducible refine BT_of ?_ ?_); (first | exact rfl | decide | (simp only [List.length_cons, List.length_nil, sizeLine]; omega)))   | ((with_reducible apply W_v); exact rfl)   | ((with_reducible apply W_vo); exact rfl)   | ((with_reducible apply W_vb); exact rfl)   | ((with_reducible apply W_glb); exact rfl)   | with_reducible apply W_bin   | with_reducible apply W_cmp   | with_reducible apply W_sub   | with_reducible apply W_and   | with_reducible apply W_or   | with_reducible apply W_nt   | with_reducible apply W_neg   | with_reducible apply W_chn   | with_reducible apply W_isn   | with_reducible apply W_isb   | with_reducible apply W_ite   | with_reducible apply W_tup   | with_reducible apply W_lst   | with_reducible apply W_slc   | with_reducible apply W_rev   | with_reducible apply W_rlT   | with_reducible apply W_rlF   | with_reducible apply W_isi   | with_reducible apply W_b1   | with_reducible apply W_b2   | with_reducible apply W_m1   | with_reducible apply W_call   | ((with_reducible apply W_callm); exact rfl)   | ((with_reducible apply W_mp); exact rfl)   | ((with_reducible apply MP_val); exact rfl)   | ((with_reducible apply W_callv); exact rfl; exact rfl)   | ((with_reducible apply W_tld); exact rfl)   | with_reducible apply W_lc   | with_reducible apply W_att   | ((with_reducible apply LF_att); exact rfl; exact rfl)   | ((with_reducible apply W_mk); exact rfl)   | with_reducible apply W_setf   | with_reducible apply W_lc2   | with_reducible apply W_esnil   | with_reducible apply W_escons   | with_reducible apply W_ernil   | with_reducible apply W_ercons   | with_reducible apply W_seq   | with_reducible apply W_rng   | with_reducible apply W_enum   | with_reducible apply W_zip2   | with_reducible apply W_om   | with_reducible apply P1_val   | with_reducible apply P1_frl   | with_reducible apply P1_frd   | with_reducible apply P1_fri   | ((with_reducible apply P1_borl); exact rfl)   | ((with_reducible apply P1_bobl); exact rfl)   | ((with_reducible apply P1_bor); exact rfl)   | ((with_reducible apply P1_bob); exact rfl)   | ((with_reducible apply P1_bosh); exact rfl)   | with_reducible apply U_val   | with_reducible apply UK_val   | with_reducible apply UK_fr   | with_reducible apply UK_bor   | with_reducible apply U_frl   | with_reducible apply U_fr   | ((with_reducible apply U_bor); exact rfl; dsimp only [frz, List.set])   | ((with_reducible apply U_bosh); exact rfl)   | with_reducible apply K_nx   | with_reducible apply K_rt   | with_reducible apply K_bk   | with_reducible apply K_ct   | with_reducible apply CN_val   | with_reducible apply CN_fr   | with_reducible apply CNX_of   | with_reducible apply CM_val0   | with_reducible apply CM_val0o   | with_reducible apply CM_val1o   | with_reducible apply CM_fr0   | with_reducible apply CM_fr0o   | with_reducible apply CM_fr1o   | with_reducible apply CMX_of   | with_reducible apply FN_nx   | with_reducible apply FN_val   | with_reducible apply FN_fr   | ((with_reducible apply FN_bor); exact rfl)   | ((with_reducible apply FN_bosh); exact rfl)   | with_reducible apply FM_nx   | with_reducible apply FM_val   | with_reducible apply FM_fr   | ((with_reducible apply FM_bor); exact rfl)   | with_reducible apply FNX_of   | with_reducible apply FMX_of   | with_reducible apply LQ_nx   | with_reducible apply LQ_rt   | with_reducible apply LQ_bk   | with_reducible apply LQ_ct   | ((with_reducible apply PT_om); exact rfl)   | ((with_reducible apply PT_int); exact rfl)   | with_reducible apply T_true   | with_reducible apply T_false   | with_reducible apply T_not   | with_reducible apply LF_some   | with_reducible apply LF_add   | with_reducible apply LF_sub   | ((with_reducible apply LF_mul); (first | exact Or.inr (Or.inl (small_of (by omega))) | exact Or.inl (small_of (by omega)) | exact Or.inl (small_mod _ _ (by decide) (by decide))))   | ((with_reducible apply LF_pow); decide)   | ((with_reducible apply LF_adds); (first | (simp only [List.length_cons, List.length_nil, List.length_append, sizeLine]; omega)))   | ((with_reducible apply LF_lens); (first | assumption))   | ((with_reducible apply LF_slcs); (first | assumption))   | ((with_reducible apply LF_subs); assumption; (first | assumption | omega); assumption)   | ((with_reducible apply LF_subl); (first | assumption | omega); assumption)   | ((with_reducible apply LF_subt); (first | assumption | omega); assumption)   | ((with_reducible apply LF_sindex); assumption)   | with_reducible apply LF_eqi   | with_reducible apply LF_nei   | with_reducible apply LF_lti   | with_reducible apply LF_lei   | with_reducible apply LF_gti   | with_reducible apply LF_gei   | with_reducible apply LF_eqb   | with_reducible apply LF_neb   | with_reducible apply LF_instr   | with_reducible apply LF_ninstr   | with_reducible apply LF_asgn   | with_reducible apply LF_asgnil   | with_reducible apply LF_asgcons   | with_reducible apply LF_dsnil   | with_reducible apply LF_dscons   | ((with_reducible apply LF_store); exact rfl; (first | exact Fre.sh | exact Fre.un | exact Fre.ow | assumption); dsimp only [List.set])   | ((with_reducible apply LF_storeO); exact rfl; (first | exact Fre.sh | exact Fre.un | exact Fre.ow | assumption); dsimp only [List.set])   | ((with_reducible apply LF_stored); exact rfl; exact rfl; (first | exact Fre.sh | exact Fre.un | exact Fre.ow | assumption); dsimp only [List.set, frz])   | ((with_reducible apply LF_setob); exact rfl; dsimp only [putOb, List.getElem?_cons_zero, List.getElem?_cons_succ, List.set, Int.reduceToNat])   | ((with_reducible refine LF_append ?_ ?_); rotate_left; dsimp only [putOb, List.getElem?_cons_zero, List.getElem?_cons_succ, List.set, List.nil_append, List.cons_append])   | ((with_reducible refine LF_extend ?_ ?_); rotate_left; dsimp only [putOb, List.getElem?_cons_zero, List.getElem?_cons_succ, List.set, List.nil_append, List.cons_append])   | ((with_reducible apply LF_mod); (first | decide | assumption | omega))   | ((with_reducible apply LF_fdiv); (first | decide | assumption | omega); (first | decide | assumption))   | with_reducible apply LF_rng   | with_reducible apply WF_fn   | ((with_reducible apply T_is (c := true)); decide)   | ((with_reducible apply T_is (c := false)); decide)   | (((with_reducible apply T_dec) <;> intro) <;> (try (exfalso; omega)))   | (((with_reducible apply TB_dec) <;> intro) <;> (try (exfalso; omega)))   | ((with_reducible apply T_is (c := true)); exact rfl)   | ((with_reducible apply T_is (c := false)); exact rfl)   | ((with_reducible apply LF_eq); exact rfl))
namespace DpK
section
variable {s : Int} {h w : Nat} {b : Bd}
theorem is_sheet_ok (fuel n : Nat) (S : Sheet s h w b) (hs : 2 ≤ s ∧ s ≤ 36) (h1 : 1 ≤ h) (h8 : h ≤ 8) (w1 : 1 ≤ w) (wl8 : w ≤ 8) : sem (PR fuel) (n + 4) 7 none [.int s, bdD b] = .ok (.val (.bl true)) none := by
  refine WF_of (w7 ?_)
  repeat' array_get_dec
  refine WF_eq (check_ok _ _ _ _ _ hs.1 hs.2) ?_
  repeat' array_get_dec
  refine WF_eq (raw_is_ok _ _ S h1 h8 w1 wl8) ?_
  repeat' array_get_dec
  exact ⟨rfl, rfl⟩
theorem left_ok (fuel n : Nat) (S : Sheet s h w b) (hs : 2 ≤ s ∧ s ≤ 36) (h1 : 1 ≤ h) (h8 : h ≤ 8) (w1 : 1 ≤ w) (wl8 : w ≤ 8) : sem (PR fuel) (n + 5) 11 none [.int s, bdD b] = .ok (.val (leftD s w b)) none := by
  refine WF_of (w11 ?_)
  repeat' array_get_dec
  refine WF_eq (check_sheet_ok _ _ S hs h1 h8 w1 wl8) ?_
  repeat' array_get_dec
  refine WF_eq (raw_left_ok _ _ S (by omega) h1 h8 wl8) ?_
  repeat' array_get_dec
  exact ⟨rfl, rfl⟩
theorem with_sums_ok (fuel n : Nat) (S : Sheet s h w b) (hs : 2 ≤ s ∧ s ≤ 36) (h1 : 1 ≤ h) (h7 : h ≤ 7) (w1 : 1 ≤ w) (wl7 : w ≤ 7) : sem (PR fuel) (n + 5) 10 none [.int s, bdD b] = .ok (.val (bdD (summed s w b))) none := by
  have hs0 : 0 < s := by omega
  have hl : (b.map rowD).length = h := by rw [List.length_map, S.rows]
  have e00 : (b.map rowD)[(0 : Int).toNat]? = some (.tup ((b.getD 0 []).map D.int)) := sh_row S h1
  have l00 : ((b.getD 0 []).map D.int).length = w := by rw [List.length_map, S.len h1]
  have E := ends_sheet hs0 S
  have el : ((ends s b).map rowD).length = h := by rw [List.length_map, E.rows]
  have e0 : ((ends s b).map rowD)[(0 : Int).toNat]? = some (.tup (((ends s b).getD 0 []).map D.int)) := sh_row E h1
  have l0 : (((ends s b).getD 0 []).map D.int).length = w + 1 := by rw [List.length_map, E.len h1]
  have neg0 : ∀ x : Int, -x = 0 - x := fun x => by omega
  refine WF_of (w10 ?_)
  repeat' array_get_dec
  refine WF_eq (check_sheet_ok _ _ S hs h1 (by omega) w1 (by omega)) ?_
  repeat' array_get_dec
  refine W_lcM (fun x => match x with | .tup r => .tup (r ++ [.int ((0 - ((lexInts r).getD []).sum) % s)]) | _ => .non) rfl .un ?_ ?_
  · intro k x hx
    obtain ⟨hk, rfl⟩ := sh_in S hx
    have lk : ((b.getD k []).map D.int).length = w := by rw [List.length_map, S.len hk]
    dsimp only [List.set]
    repeat' array_get_dec
    refine LF_sumT ?_
    repeat' array_get_dec
    refine LF_addt (by rw [lk]; simp only [List.length_cons, List.length_nil, sizeLine]; omega) ?_
    repeat' array_get_dec
    exact ⟨by rw [lexInts_map, neg0]; rfl, rfl⟩
  intro s1 f1
  have er : ((b.map rowD).map fun x => match x with | .tup r => D.tup (r ++ [.int ((0 - ((lexInts r).getD []).sum) % s)]) | _ => .non) = (ends s b).map rowD := by
    rw [List.map_map, ends, List.map_map]
    refine List.map_congr_left fun r _ => ?_
    show D.tup (r.map D.int ++ [.int ((0 - ((lexInts (r.map D.int)).getD []).sum) % s)]) = .tup ((r ++ [(0 - r.sum) % s]).map D.int)
    rw [lexInts_map, List.map_append]; rfl
  rw [er]
  refine BT_of (by rw [el]; simp only [sizeLine]; omega) ?_
  dsimp only [backD, List.getElem?_cons_zero, List.getElem?_cons_succ, List.set]
  repeat' array_get_dec
  · rw [l0]; exact rngc (by omega) (by omega) (by omega) (by omega)
  rw [l0]
  refine W_lcI (fun j ds σ => ds = (((below s (w + 1) (ends s b)).take j).map .int) ∧ ∃ s2 s5, (s2 = .ow (.l ((ends s b).map rowD)) ∨ s2 = .sh (.lst ((ends s b).map rowD))) ∧ Fre s5 ∧ σ = [.sh (.int s), .sh (bdD b), s2, .un, .un, s5]) ⟨rfl, _, _, .inl rfl, .un, rfl⟩ ?_ ?_
  · rintro j x pre σ hx ⟨rfl, s2, s5, e2, f5, rfl⟩
    obtain ⟨rfl, hj⟩ := rng_at0 hx
    have key : ∀ s2' : Sl, s2' = .sh (.lst ((ends s b).map rowD)) → W (lcL (fun x τ => lcStep (asg (.n 3) x (wipeD τ [3])) (fun τ1 => truth (ev ((PR fuel).gam (sem (PR fuel) (n + 4))) (.k (.bl true)) τ1)) (fun τ2 => (ev ((PR fuel).gam (sem (PR fuel) (n + 4))) (.sub (.v 3) (.v 5)) τ2).used)) ((ends s b).map rowD) [.sh (.int s), .sh (bdD b), s2', .un, .un, .sh (.int j)]) (fun ds τ => ds = (col (ends s b) j).map .int ∧ ∃ s3, Fre s3 ∧ τ = [.sh (.int s), .sh (bdD b), s2', s3, .un, .sh (.int j)]) noX := by
      rintro _ rfl
      refine W_lcM (fun x => match x with | .tup r => r.getD j .non | _ => .non) rfl .un ?_ ?_
      · intro i x hx
        obtain ⟨hi, rfl⟩ := sh_in E hx
        have ec : (((ends s b).getD i []).map D.int)[(j : Int).toNat]? = some (.int (g (ends s b) i j)) := sh_cell E hi hj
        dsimp only [List.set]
        repeat' array_get_dec
        exact ⟨by rw [List.getD_eq_getElem?_getD, ← Int.toNat_natCast j, ec]; rfl, rfl⟩
      · intro s3 f3
        refine ⟨?_, s3, f3, rfl⟩
        rw [List.map_map, col, List.map_map]
        refine List.map_congr_left fun r hr => ?_
        show (r.map D.int).getD j .non = .int (r.getD j 0)
        have hkr : j < r.length := by rw [E.cols r hr]; exact hj
        rw [List.getD_eq_getElem?_getD, List.getElem?_map, List.getD_eq_getElem?_getD, List.getElem?_eq_getElem hkr]; rfl
    have fin : (((below s (w + 1) (ends s b)).take j).map D.int) ++ [.int ((-C (ends s b) j) % s)] = ((below s (w + 1) (ends s b)).take (j + 1)).map .int := by
      rw [List.take_add_one, List.map_append]
      congr 1
      rw [below, List.getElem?_map, List.getElem?_range hj, neg0]; rfl
    rcases e2 with rfl | rfl
    · dsimp only [wipeD, List.set]
      repeat' array_get_dec
      refine W_mono (key _ rfl) ?_ fun _ _ z => z
      rintro ds τ ⟨rfl, t3, g3, rfl⟩
      refine BT_of (by rw [List.length_map, col_len E]; simp only [sizeLine]; omega) ?_
      dsimp only [backD, List.getElem?_cons_zero, List.getElem?_cons_succ, List.set]
      repeat' array_get_dec
      refine LF_sumL ?_
      repeat' array_get_dec
      exact ⟨fin, _, .sh (.int j), .inr rfl, .sh, rfl⟩
    · dsimp only [wipeD, List.set]
      repeat' array_get_dec
      refine W_mono (key _ rfl) ?_ fun _ _ z => z
      rintro ds τ ⟨rfl, t3, g3, rfl⟩
      refine BT_of (by rw [List.length_map, col_len E]; simp only [sizeLine]; omega) ?_
      dsimp only [backD, List.getElem?_cons_zero, List.getElem?_cons_succ, List.set]
      repeat' array_get_dec
      refine LF_sumL ?_
      repeat' array_get_dec
      exact ⟨fin, _, .sh (.int j), .inr rfl, .sh, rfl⟩
  rintro ds σ ⟨rfl, s2, s5, e2, f5, rfl⟩
  rw [rng_len0, List.take_of_length_le (by rw [below_len]; exact Nat.le_refl _)]
  refine BT_of (by rw [List.length_map, below_len]; simp only [sizeLine]; omega) ?_
  dsimp only [backD, List.getElem?_cons_zero, List.getElem?_cons_succ, List.set]
  have fin : (ends s b).map rowD ++ [.tup ((below s (w + 1) (ends s b)).map D.int)] = (summed s w b).map rowD := by rw [summed, List.map_append]; rfl
  rcases e2 with rfl | rfl
  · repeat' array_get_dec
    refine LF_addt (by rw [el]; simp only [List.length_cons, List.length_nil, sizeLine]; omega) ?_
    rw [fin]
    repeat' array_get_dec
    exact ⟨rfl, rfl⟩
  · repeat' array_get_dec
    refine LF_addt (by rw [el]; simp only [List.length_cons, List.length_nil, sizeLine]; omega) ?_
    rw [fin]
    repeat' array_get_dec
    exact ⟨rfl, rfl⟩
/-- the column j of a sheet, as a comprehension -/
theorem col_map (S : Sheet s h w b) {j : Nat} (hj : j < w) : ((b.map rowD).map fun x => match x with | .tup r => r.getD j .non | _ => .non) = (col b j).map .int := by
  rw [List.map_map, col, List.map_map]
  refine List.map_congr_left fun r hr => ?_
  show (r.map D.int).getD j .non = .int (r.getD j 0)
  have hkr : j < r.length := by rw [S.cols r hr]; exact hj
  rw [List.getD_eq_getElem?_getD, List.getElem?_map, List.getD_eq_getElem?_getD, List.getElem?_eq_getElem hkr]; rfl
theorem turned_ok (fuel n : Nat) (S : Sheet s h w b) (hs : 2 ≤ s ∧ s ≤ 36) (h1 : 1 ≤ h) (h8 : h ≤ 8) (w1 : 1 ≤ w) (wl8 : w ≤ 8) : sem (PR fuel) (n + 5) 16 none [.int s, bdD b] = .ok (.val (bdD (tr w b))) none := by
  have hl : (b.map rowD).length = h := by rw [List.length_map, S.rows]
  have e0 : (b.map rowD)[(0 : Int).toNat]? = some (.tup ((b.getD 0 []).map D.int)) := sh_row S h1
  have l0 : ((b.getD 0 []).map D.int).length = w := by rw [List.length_map, S.len h1]
  refine WF_of (w16 ?_)
  repeat' array_get_dec
  refine WF_eq (check_sheet_ok _ _ S hs h1 h8 w1 wl8) ?_
  repeat' array_get_dec
  · rw [l0]; exact rngc (by omega) (by omega) (by omega) (by omega)
  rw [l0]
  refine W_lcM (fun x => match x with | .int j => rowD (col b j.toNat) | _ => .non) rfl .un ?_ ?_
  · intro k x hx
    obtain ⟨rfl, hk⟩ := rng_at0 hx
    dsimp only [List.set]
    repeat' array_get_dec
    refine W_lcM (fun x => match x with | .tup r => r.getD k .non | _ => .non) rfl .un ?_ ?_
    · intro i x hx
      obtain ⟨hi, rfl⟩ := sh_in S hx
      have ec : ((b.getD i []).map D.int)[(k : Int).toNat]? = some (.int (g b i k)) := sh_cell S hi hk
      dsimp only [List.set]
      repeat' array_get_dec
      exact ⟨by rw [List.getD_eq_getElem?_getD, ← Int.toNat_natCast k, ec]; rfl, rfl⟩
    intro s2 f2
    refine BT_of (by rw [List.length_map, hl]; simp only [sizeLine]; omega) ?_
    dsimp only [backD, List.getElem?_cons_zero, List.getElem?_cons_succ, List.set]
    rw [col_map S hk]
    repeat' array_get_dec
    exact ⟨rfl, rfl⟩
  intro s2 f2
  refine BT_of (by rw [List.length_map, rng_len0]; simp only [sizeLine]; omega) ?_
  dsimp only [backD, List.getElem?_cons_zero, List.getElem?_cons_succ, List.set]
  have ec : ((rangeD 0 w 1).map fun x => match x with | .int j => rowD (col b j.toNat) | _ => .non) = (tr w b).map rowD := by
    rw [rangeD0, List.map_map, tr, List.map_map]; rfl
  rw [ec]
  repeat' array_get_dec
  exact ⟨rfl, rfl⟩
end
theorem good_many_ok (fuel n : Nat) (s h w : Nat) (hs : 2 ≤ s ∧ s ≤ 36) (h1 : 1 ≤ h) (h8 : h ≤ 8) (w1 : 1 ≤ w) (wl8 : w ≤ 8) : sem (PR fuel) (n + 4) 15 none [.int s, .int h, .int w] = .ok (.val (.int ((s ^ ((h - 1) * (w - 1)) : Nat) : Int))) none := by
  have hm : ((h : Int) - 1) * ((w : Int) - 1) = (((h - 1) * (w - 1) : Nat) : Int) := by
    rw [Int.natCast_mul, Int.natCast_sub h1, Int.natCast_sub w1]; rfl
  have hle : (h - 1) * (w - 1) ≤ 49 := Nat.le_trans (Nat.mul_le_mul (show h - 1 ≤ 7 by omega) (show w - 1 ≤ 7 by omega)) (by decide)
  refine WF_of (w15 ?_)
  repeat' array_get_dec
  refine WF_eq (check_ok _ _ _ _ _ (by omega) (by omega)) ?_
  repeat' array_get_dec
  refine WF_eq (check_ok _ _ _ _ _ (by omega) (by omega)) ?_
  repeat' array_get_dec
  refine WF_eq (check_ok _ _ _ _ _ (by omega) (by omega)) ?_
  repeat' array_get_dec
  · rw [hm]; exact rngc (by omega) (by omega) (by omega) (by omega)
  rw [hm]
  refine W_forI (fun k σ => ∃ s4, Fre s4 ∧ σ = [.sh (.int s), .sh (.int h), .sh (.int w), .sh (.int ((s ^ k : Nat) : Int)), s4]) ⟨_, .un, rfl⟩ ?_ ?_
  · rintro k x σ hx ⟨s4, f4, rfl⟩
    repeat' array_get_dec
    exact ⟨_, .sh, by rw [Nat.pow_succ, Int.natCast_mul]⟩
  · rintro σ ⟨s4, f4, rfl⟩
    rw [rng_len0]
    repeat' array_get_dec
    exact ⟨rfl, rfl⟩
end DpK
end

section
set_option linter.all false
set_option autoImplicit false
set_option maxRecDepth 100000
open Dp Sh
local macro_rules | `(tactic| array_get_dec) => `(tactic| first   | with_reducible apply W_cons   | with_reducible apply W_nil   | with_reducible apply W_set   | with_reducible apply W_ret   | with_reducible apply W_ife   | with_reducible apply W_for   | with_reducible apply W_ex   | ((with_reducible apply W_mm); exact rfl)   | with_reducible apply W_seti   | with_reducible apply W_unp   | with_reducible apply W_par   | ((with_reducible apply W_aug); exact rfl)   | with_reducible apply W_pass   | with_reducible apply W_brk   | with_reducible apply W_cont   | with_reducible apply W_retn   | ((with_reducible apply W_rais); exact rfl)   | with_reducible apply W_k   | ((with_reducible refine BT_of ?_ ?_); (first | exact rfl | decide | (simp only [List.length_cons, List.length_nil, sizeLine]; omega)))   | ((with_reducible apply W_v); exact rfl)   | ((with_reducible apply W_vo); exact rfl)   | ((with_reducible apply W_vb); exact rfl)   | ((with_reducible apply W_glb); exact rfl)   | with_reducible apply W_bin   | with_reducible apply W_cmp   | with_reducible apply W_sub   | with_reducible apply W_and   | with_reducible apply W_or   | with_reducible apply W_nt   | with_reducible apply W_neg   | with_reducible apply W_chn   | with_reducible apply W_isn   | with_reducible apply W_isb   | with_reducible apply W_ite   | with_reducible apply W_tup   | with_reducible apply W_lst   | with_reducible apply W_slc   | with_reducible apply W_rev   | with_reducible apply W_rlT   | with_reducible apply W_rlF   | with_reducible apply W_isi   | with_reducible apply W_b1   | with_reducible apply W_b2   | with_reducible apply W_m1   | with_reducible apply W_call   | ((with_reducible apply W_callm); exact rfl)   | ((with_reducible apply W_mp); exact rfl)   | ((with_reducible apply MP_val); exact rfl)   | ((with_reducible apply W_callv); exact rfl; exact rfl)   | ((with_reducible apply W_tld); exact rfl)   | with_reducible apply W_lc   | with_reducible apply W_att   | ((with_reducible apply LF_att); exact rfl; exact rfl)   | ((with_reducible apply W_mk); exact rfl)   | with_reducible apply W_setf   | with_reducible apply W_lc2   | with_reducible apply W_esnil   | with_reducible apply W_escons   | with_reducible apply W_ernil   | with_reducible apply W_ercons   | with_reducible apply W_seq   | with_reducible apply W_rng   | with_reducible apply W_enum   | with_reducible apply W_zip2   | with_reducible apply W_om   | with_reducible apply P1_val   | with_reducible apply P1_frl   | with_reducible apply P1_frd   | with_reducible apply P1_fri   | ((with_reducible apply P1_borl); exact rfl)   | ((with_reducible apply P1_bobl); exact rfl)   | ((with_reducible apply P1_bor); exact rfl)   | ((with_reducible apply P1_bob); exact rfl)   | ((with_reducible apply P1_bosh); exact rfl)   | with_reducible apply U_val   | with_reducible apply UK_val   | with_reducible apply UK_fr   | with_reducible apply UK_bor   | with_reducible apply U_frl   | with_reducible apply U_fr   | ((with_reducible apply U_bor); exact rfl; dsimp only [frz, List.set])   | ((with_reducible apply U_bosh); exact rfl)   | with_reducible apply K_nx   | with_reducible apply K_rt   | with_reducible apply K_bk   | with_reducible apply K_ct   | with_reducible apply CN_val   | with_reducible apply CN_fr   | with_reducible apply CNX_of   | with_reducible apply CM_val0   | with_reducible apply CM_val0o   | with_reducible apply CM_val1o   | with_reducible apply CM_fr0   | with_reducible apply CM_fr0o   | with_reducible apply CM_fr1o   | with_reducible apply CMX_of   | with_reducible apply FN_nx   | with_reducible apply FN_val   | with_reducible apply FN_fr   | ((with_reducible apply FN_bor); exact rfl)   | ((with_reducible apply FN_bosh); exact rfl)   | with_reducible apply FM_nx   | with_reducible apply FM_val   | with_reducible apply FM_fr   | ((with_reducible apply FM_bor); exact rfl)   | with_reducible apply FNX_of   | with_reducible apply FMX_of   | with_reducible apply LQ_nx   | with_reducible apply LQ_rt   | with_reducible apply LQ_bk   | with_reducible apply LQ_ct   | ((with_reducible apply PT_om); exact rfl)   | ((with_reducible apply PT_int); exact rfl)   | with_reducible apply T_true   | with_reducible apply T_false   | with_reducible apply T_not   | with_reducible apply LF_some   | with_reducible apply LF_add   | with_reducible apply LF_sub   | ((with_reducible apply LF_mul); (first | exact Or.inr (Or.inl (small_of (by omega))) | exact Or.inl (small_of (by omega)) | exact Or.inl (small_mod _ _ (by decide) (by decide))))   | ((with_reducible apply LF_pow); decide)   | ((with_reducible apply LF_adds); (first | (simp only [List.length_cons, List.length_nil, List.length_append, sizeLine]; omega)))   | ((with_reducible apply LF_lens); (first | assumption))   | ((with_reducible apply LF_slcs); (first | assumption))   | ((with_reducible apply LF_subs); assumption; (first | assumption | omega); assumption)   | ((with_reducible apply LF_subl); (first | assumption | omega); assumption)   | ((with_reducible apply LF_subt); (first | assumption | omega); assumption)   | ((with_reducible apply LF_sindex); assumption)   | with_reducible apply LF_eqi   | with_reducible apply LF_nei   | with_reducible apply LF_lti   | with_reducible apply LF_lei   | with_reducible apply LF_gti   | with_reducible apply LF_gei   | with_reducible apply LF_eqb   | with_reducible apply LF_neb   | with_reducible apply LF_instr   | with_reducible apply LF_ninstr   | with_reducible apply LF_asgn   | with_reducible apply LF_asgnil   | with_reducible apply LF_asgcons   | with_reducible apply LF_dsnil   | with_reducible apply LF_dscons   | ((with_reducible apply LF_store); exact rfl; (first | exact Fre.sh | exact Fre.un | exact Fre.ow | assumption); dsimp only [List.set])   | ((with_reducible apply LF_storeO); exact rfl; (first | exact Fre.sh | exact Fre.un | exact Fre.ow | assumption); dsimp only [List.set])   | ((with_reducible apply LF_stored); exact rfl; exact rfl; (first | exact Fre.sh | exact Fre.un | exact Fre.ow | assumption); dsimp only [List.set, frz])   | ((with_reducible apply LF_setob); exact rfl; dsimp only [putOb, List.getElem?_cons_zero, List.getElem?_cons_succ, List.set, Int.reduceToNat])   | ((with_reducible refine LF_append ?_ ?_); rotate_left; dsimp only [putOb, List.getElem?_cons_zero, List.getElem?_cons_succ, List.set, List.nil_append, List.cons_append])   | ((with_reducible refine LF_extend ?_ ?_); rotate_left; dsimp only [putOb, List.getElem?_cons_zero, List.getElem?_cons_succ, List.set, List.nil_append, List.cons_append])   | ((with_reducible apply LF_mod); (first | decide | assumption | omega))   | ((with_reducible apply LF_fdiv); (first | decide | assumption | omega); (first | decide | assumption))   | with_reducible apply LF_rng   | with_reducible apply WF_fn   | ((with_reducible apply T_is (c := true)); decide)   | ((with_reducible apply T_is (c := false)); decide)   | (((with_reducible apply T_dec) <;> intro) <;> (try (exfalso; omega)))   | (((with_reducible apply TB_dec) <;> intro) <;> (try (exfalso; omega)))   | ((with_reducible apply T_is (c := true)); exact rfl)   | ((with_reducible apply T_is (c := false)); exact rfl)   | ((with_reducible apply LF_eq); exact rfl))
namespace DpK
theorem cut_mid {α : Type} {xs : List α} {a c : Nat} (h : c ≤ xs.length) (ac : a ≤ c) : cutL xs (some (a : Int)) (some (c : Int)) = (xs.drop a).take (c - a) := by
  unfold cutL
  rw [sIx_pos (by omega), sIx_pos (by omega), Int.toNat_natCast, Int.toNat_natCast, Nat.min_eq_left (show a ≤ xs.length by omega), Nat.min_eq_left h]
/-- the words of a length, as data -/
abbrev wd (n k : Nat) : List D := (wordsL n k).map rowD
theorem wd_len (k : Nat) : (wd 2 k).length = 2 ^ k := by rw [List.length_map, wordsL_many]
/-- the words that come of the first j -/
def wdj (k j : Nat) : List D := ((wordsL 2 k).take j).flatMap fun r => (List.range 2).map fun (i : Nat) => rowD (r ++ [(i : Int)])
theorem wdj_all (k : Nat) : wdj k (2 ^ k) = wd 2 (k + 1) := by
  rw [wdj, List.take_of_length_le (by rw [wordsL_many]; exact Nat.le_refl _), wd, wordsL, List.map_flatMap]
  exact congrArg (fun f => (wordsL 2 k).flatMap f) (funext fun r => (List.map_map ..).symm)
theorem wdj_len (k j : Nat) (hk : k ≤ 6) : (wdj k j).length ≤ 128 := by
  have h1 : (wordsL 2 k).length ≤ 64 := by rw [wordsL_many]; exact Nat.le_trans (Nat.pow_le_pow_right (by decide) hk) (by decide)
  have gen : ∀ l : List (List Int), (l.flatMap fun r => (List.range 2).map fun (i : Nat) => rowD (r ++ [(i : Int)])).length = l.length * 2 := fun l => by
    induction l with
    | nil => rfl
    | cons a l ih => rw [List.flatMap_cons, List.length_append, ih, List.length_map, List.length_range, List.length_cons]; omega
  rw [wdj, gen, List.length_take]; omega
theorem wdj_succ {k j : Nat} {r : List Int} (h : (wordsL 2 k)[j]? = some r) : wdj k (j + 1) = wdj k j ++ (List.range 2).map fun (i : Nat) => rowD (r ++ [(i : Int)]) := by
  rw [wdj, List.take_add_one, h, List.flatMap_append]; simp [wdj]
/-- nothing, a shared value -/
def Fr1 (s : Sl) : Prop := s = .un ∨ ∃ d, s = .sh d
theorem Fr1.fre {s : Sl} (h : Fr1 s) : Fre s := by
  rcases h with rfl | ⟨d, rfl⟩
  · exact .un
  · exact .sh
theorem all_sheets_s (fuel n : Nat) (h w : Nat) (hh : 1 ≤ h ∧ h ≤ 3) (hw : 1 ≤ w ∧ w ≤ 2) : WF (sem (PR fuel) (n + 1) 34 none [.int 2, .int h, .int w]) (fun r m => r = .fr (.l ((wordsL 2 (h * w)).map fun r => bdD (toBd h w r))) ∧ m = none) noF := by
  have hm : (h : Int) * (w : Int) = ((h * w : Nat) : Int) := (Int.natCast_mul _ _).symm
  have hle : h * w ≤ 6 := Nat.le_trans (Nat.mul_le_mul hh.2 hw.2) (by decide)
  refine w34 ?_
  repeat' array_get_dec
  · rw [hm]; exact rngc (by omega) (by omega) (by omega) (by omega)
  rw [hm]
  refine W_forI (fun k σ => k ≤ h * w ∧ ∃ s3 s4 s5 s6, ((k = 0 ∧ s3 = .ow (.l (wd 2 k))) ∨ s3 = .sh (.lst (wd 2 k))) ∧ Fre s4 ∧ Fre s5 ∧ Fr1 s6 ∧ σ = [.sh (.int 2), .sh (.int h), .sh (.int w), s3, s4, s5, s6, .un, .un]) ⟨by omega, _, _, _, _, .inl ⟨rfl, rfl⟩, .un, .un, .inl rfl, rfl⟩ ?_ ?_
  · rintro k x σ hx ⟨hk, s3, s4, s5, s6, e3, f4, f5, f6, rfl⟩
    obtain ⟨rfl, hk2⟩ := rng_at0 hx
    have inner : W (forL (fun x τ => seqS (storeS (asg (.n 6) x τ)) fun τ1 => exs ((PR fuel).gam (sem (PR fuel) n)) (forBody (nthS 1 (forBody (nthS 1 b34)))) τ1) (wd 2 k) [.sh (.int 2), .sh (.int h), .sh (.int w), .sh (.lst (wd 2 k)), .sh (.int k), .ow (.l []), s6, .un, .un])
        (fun f σ => f = .nx ∧ ∃ s6, Fr1 s6 ∧ σ = [.sh (.int 2), .sh (.int h), .sh (.int w), .sh (.lst (wd 2 k)), .sh (.int k), .ow (.l (wd 2 (k + 1))), s6, .un, .un]) noX := by
      refine W_forI (fun j σ => ∃ s6, Fr1 s6 ∧ σ = [.sh (.int 2), .sh (.int h), .sh (.int w), .sh (.lst (wd 2 k)), .sh (.int k), .ow (.l (wdj k j)), s6, .un, .un]) ⟨s6, f6, by rw [wdj]; rfl⟩ ?_ ?_
      · rintro j y σ hy ⟨s6', f6', rfl⟩
        rw [List.getElem?_map] at hy
        obtain ⟨r, hr, rfl⟩ := Option.map_eq_some_iff.mp hy
        have rl := wordsL_len (List.mem_of_getElem? hr)
        have f6'' := f6'.fre
        dsimp only [nthS, forBody]
        repeat' array_get_dec
        · exact rngc (by omega) (by omega) (by omega) (by omega)
        refine W_lcM (fun x => .tup (r.map D.int ++ [x])) rfl .un ?_ ?_
        · intro q x hx
          dsimp only [List.set]
          repeat' array_get_dec
          refine LF_addt (by rw [List.length_map, rl]; simp only [List.length_cons, List.length_nil, sizeLine]; omega) ?_
          repeat' array_get_dec
          exact ⟨rfl, rfl⟩
        intro s7 f7
        refine BT_of (by rw [List.length_map, rng_len]; simp only [sizeLine]; omega) ?_
        dsimp only [backD, List.getElem?_cons_zero, List.getElem?_cons_succ, List.set]
        have er : wdj k j ++ (rangeD 0 2 1).map (fun x => D.tup (r.map D.int ++ [x])) = wdj k (j + 1) := by
          rw [wdj_succ hr]
          congr 1
          simp [rangeD, rowD]
        repeat' array_get_dec
        · exact ⟨_, .inr ⟨_, rfl⟩, by rw [er]⟩
        · have := wdj_len k j (by omega)
          rw [List.length_map, rng_len]
          simp only [sizeLine]; omega
      · rintro σ ⟨s6', f6', rfl⟩
        rw [wd_len, wdj_all]
        exact ⟨rfl, s6', f6', rfl⟩
    rcases e3 with ⟨_, rfl⟩ | rfl
    · repeat' array_get_dec
      refine W_mono inner ?_ fun _ _ z => z
      rintro f σ ⟨rfl, s6', f6', rfl⟩
      repeat' array_get_dec
      exact ⟨by omega, _, _, _, _, .inr rfl, .sh, .sh, f6', rfl⟩
    · repeat' array_get_dec
      refine W_mono inner ?_ fun _ _ z => z
      rintro f σ ⟨rfl, s6', f6', rfl⟩
      repeat' array_get_dec
      exact ⟨by omega, _, _, _, _, .inr rfl, .sh, .sh, f6', rfl⟩
  · rintro σ ⟨_, s3, s4, s5, s6, e3, f4, f5, f6, rfl⟩
    rw [rng_len0] at e3
    have big : (wd 2 (h * w)).length < sizeLine := by
      rw [wd_len]
      exact Nat.lt_of_le_of_lt (Nat.pow_le_pow_right (by decide) hle) (by decide)
    have bm : ∀ r ∈ wordsL 2 (h * w), r.length = h * w := fun r hr => wordsL_len hr
    have end_ : ∀ s5' s6 : Sl, Fr1 s6 → W (ev ((PR fuel).gam (sem (PR fuel) n)) (.lc [6] (.n 6) (.seq (.v 3)) (.k (.bl true)) (.b1 .tuple (.lc [8] (.n 8) (.rng (.k (.int 0)) (.v 1) (.k (.int 1))) (.k (.bl true)) (.slc (.v 6) (.bin .mul (.v 8) (.v 2)) (.bin .add (.bin .mul (.v 8) (.v 2)) (.v 2)))))) [.sh (.int 2), .sh (.int h), .sh (.int w), .sh (.lst (wd 2 (h * w))), s4, s5', s6, .un, .un])
        (fun r _ => r = .fr (.l ((wordsL 2 (h * w)).map fun r => bdD (toBd h w r)))) noX := by
      intro s5' s6 h6
      have e : ((wd 2 (h * w)).map fun x => match x with | .tup r => bdD (toBd h w ((lexInts r).getD [])) | _ => .non) = (wordsL 2 (h * w)).map fun r => bdD (toBd h w r) := by
        rw [List.map_map]
        refine List.map_congr_left fun r _ => ?_
        show bdD (toBd h w ((lexInts (r.map D.int)).getD [])) = _
        rw [lexInts_map]; rfl
      have core : ∀ s6 : Sl, Fre s6 → W (lcL (fun x τ => lcStep (asg (.n 6) x (wipeD τ [6])) (fun τ1 => truth (ev ((PR fuel).gam (sem (PR fuel) n)) (.k (.bl true)) τ1)) (fun τ2 => (ev ((PR fuel).gam (sem (PR fuel) n)) (.b1 .tuple (.lc [8] (.n 8) (.rng (.k (.int 0)) (.v 1) (.k (.int 1))) (.k (.bl true)) (.slc (.v 6) (.bin .mul (.v 8) (.v 2)) (.bin .add (.bin .mul (.v 8) (.v 2)) (.v 2))))) τ2).used)) (wd 2 (h * w)) [.sh (.int 2), .sh (.int h), .sh (.int w), .sh (.lst (wd 2 (h * w))), s4, s5', s6, .un, .un])
          (fun ds τ => ds = (wordsL 2 (h * w)).map fun r => bdD (toBd h w r)) noX := by
        intro s6 f6
        refine W_lcM (fun x => match x with | .tup r => bdD (toBd h w ((lexInts r).getD [])) | _ => .non) rfl f6 ?_ ?_
        · intro k x hx
          rw [List.getElem?_map] at hx
          obtain ⟨r, hr, rfl⟩ := Option.map_eq_some_iff.mp hx
          have rl := bm r (List.mem_of_getElem? hr)
          dsimp only [List.set]
          repeat' array_get_dec
          · exact rngc (by omega) (by omega) (by omega) (by omega)
          refine W_lcM (fun x => match x with | .int i => rowD ((r.drop (i.toNat * w)).take w) | _ => .non) rfl .un ?_ ?_
          · intro i x hx
            obtain ⟨rfl, hi⟩ := rng_at0 hx
            have hmi : (i : Int) * (w : Int) = ((i * w : Nat) : Int) := (Int.natCast_mul _ _).symm
            have h2 : (i + 1) * w ≤ h * w := Nat.mul_le_mul_right w hi
            rw [Nat.succ_mul] at h2
            dsimp only [List.set]
            repeat' array_get_dec
            rw [hmi, show ((i * w : Nat) : Int) + (w : Int) = ((i * w + w : Nat) : Int) by omega, cut_mid (by rw [List.length_map, rl]; exact h2) (by omega), Nat.add_sub_cancel_left]
            refine ⟨?_, rfl⟩
            show D.tup _ = rowD ((r.drop (((i : Nat) : Int).toNat * w)).take w)
            rw [Int.toNat_natCast, rowD, List.map_take, List.map_drop]
          intro s8 f8
          refine BT_of (by rw [List.length_map, rng_len0]; simp only [sizeLine]; omega) ?_
          dsimp only [backD, List.getElem?_cons_zero, List.getElem?_cons_succ, List.set]
          have ec : ((rangeD 0 h 1).map fun x => match x with | .int i => rowD ((r.drop (i.toNat * w)).take w) | _ => .non) = (toBd h w r).map rowD := by
            rw [rangeD0, List.map_map, toBd, List.map_map]; rfl
          rw [ec]
          repeat' array_get_dec
          refine ⟨?_, rfl⟩
          show bdD (toBd h w r) = bdD (toBd h w ((lexInts (r.map D.int)).getD []))
          rw [lexInts_map]; rfl
        intro s6' f6'
        exact e
      have ln : ((wordsL 2 (h * w)).map fun r => bdD (toBd h w r)).length < sizeLine := by rw [List.length_map]; rw [List.length_map] at big; exact big
      rcases h6 with rfl | ⟨d, rfl⟩
      · repeat' array_get_dec
        refine W_mono (core _ .un) ?_ fun _ _ z => z
        rintro ds τ rfl
        exact BT_of ln rfl
      · repeat' array_get_dec
        refine W_mono (core _ .sh) ?_ fun _ _ z => z
        rintro ds τ rfl
        exact BT_of ln rfl
    rcases e3 with ⟨z, _⟩ | rfl
    · exact absurd (Nat.mul_pos hh.1 hw.1) (by omega)
    · refine W_cons (W_ret (W_mono (end_ s5 s6 f6) (fun r τ e => ?_) fun _ _ z => z))
      subst e
      repeat' array_get_dec
      exact ⟨rfl, rfl⟩
/-! what is refused -/
theorem WF_ofX {x : Fout} {e : Exc} {m : Option Ob} (h : WF x (fun _ _ => False) (fun x' m' => x' = e ∧ m' = m)) : x = .exc e m := by
  cases x
  · exact h.go.elim
  · obtain ⟨rfl, rfl⟩ := h.go; rfl
  · exact h.go.elim
theorem check_bad (fuel n : Nat) {bad d : D} (hb : NoNum bad) : sem (PR fuel) (n + 4) 9 none [bad, d] = .exc ⟨1, []⟩ none := by
  refine WF_ofX (w9 ?_)
  repeat' array_get_dec
  refine WF_exc (hb _ _) ?_
  repeat' array_get_dec
  exact ⟨rfl, rfl⟩
theorem check_none (fuel n : Nat) {s : Int} (hs : 2 ≤ s ∧ s ≤ 36) {d : D} (hd : NoSh s d) : sem (PR fuel) (n + 5) 9 none [.int s, d] = .exc ⟨3, []⟩ none := by
  refine WF_ofX (w9 ?_)
  repeat' array_get_dec
  refine WF_eq (check_ok _ _ _ _ _ hs.1 hs.2) ?_
  repeat' array_get_dec
  refine WF_eq (hd _ _) ?_
  repeat' array_get_dec
  exact ⟨rfl, rfl⟩
theorem left_exc (fuel n : Nat) {a d : D} {e : Exc} (h : sem (PR fuel) (n + 5) 9 none [a, d] = .exc e none) : sem (PR fuel) (n + 6) 11 none [a, d] = .exc e none := by
  refine WF_ofX (w11 ?_)
  repeat' array_get_dec
  refine WF_exc h ?_
  repeat' array_get_dec
  exact ⟨rfl, rfl⟩
theorem sums_exc (fuel n : Nat) {a d : D} {e : Exc} (h : sem (PR fuel) (n + 5) 9 none [a, d] = .exc e none) : sem (PR fuel) (n + 6) 10 none [a, d] = .exc e none := by
  refine WF_ofX (w10 ?_)
  repeat' array_get_dec
  refine WF_exc h ?_
  repeat' array_get_dec
  exact ⟨rfl, rfl⟩
theorem turn_exc (fuel n : Nat) {a d : D} {e : Exc} (h : sem (PR fuel) (n + 5) 9 none [a, d] = .exc e none) : sem (PR fuel) (n + 6) 16 none [a, d] = .exc e none := by
  refine WF_ofX (w16 ?_)
  repeat' array_get_dec
  refine WF_exc h ?_
  repeat' array_get_dec
  exact ⟨rfl, rfl⟩
theorem good_bad (fuel n : Nat) {bad d : D} (hb : NoNum bad) : sem (PR fuel) (n + 4) 13 none [bad, d] = .exc ⟨1, []⟩ none := by
  refine WF_ofX (w13 ?_)
  repeat' array_get_dec
  refine WF_exc (hb _ _) ?_
  repeat' array_get_dec
  exact ⟨rfl, rfl⟩
theorem good_none (fuel n : Nat) {s : Int} (hs : 2 ≤ s ∧ s ≤ 36) {d : D} (hd : NoSh s d) : sem (PR fuel) (n + 5) 13 none [.int s, d] = .ok (.val (.bl false)) none := by
  refine WF_of (w13 ?_)
  repeat' array_get_dec
  refine WF_eq (check_ok _ _ _ _ _ hs.1 hs.2) ?_
  repeat' array_get_dec
  refine WF_eq (hd _ _) ?_
  repeat' array_get_dec
  exact ⟨rfl, rfl⟩
theorem is_none (fuel n : Nat) {s : Int} (hs : 2 ≤ s ∧ s ≤ 36) {d : D} (hd : NoSh s d) : sem (PR fuel) (n + 5) 7 none [.int s, d] = .ok (.val (.bl false)) none := by
  refine WF_of (w7 ?_)
  repeat' array_get_dec
  refine WF_eq (check_ok _ _ _ _ _ hs.1 hs.2) ?_
  repeat' array_get_dec
  refine WF_eq (hd _ _) ?_
  repeat' array_get_dec
  exact ⟨rfl, rfl⟩
theorem base_in {s : Int} (h : Base s) : ∃ sn : Nat, s = sn ∧ 2 ≤ sn ∧ sn ≤ 36 := by
  rcases h with rfl | rfl | rfl | rfl
  · exact ⟨2, rfl, by decide, by decide⟩
  · exact ⟨3, rfl, by decide, by decide⟩
  · exact ⟨5, rfl, by decide, by decide⟩
  · exact ⟨10, rfl, by decide, by decide⟩
def gt1 : D := .tup [.tup [.int 0, .int 0, .int 0, .int 0, .int 0, .int 0, .int 0, .int 0]]
def gt2 : D := .tup [.tup [.int 0], .tup [.int 0], .tup [.int 0], .tup [.int 0], .tup [.int 0], .tup [.int 0], .tup [.int 0], .tup [.int 0]]
theorem great_exc (fuel n : Nat) {s : Int} (hs : Base s) {d : D} (hd : d = gt1 ∨ d = gt2) : sem (PR fuel) (n + 6) 10 none [.int s, d] = .exc ⟨2, []⟩ none := by
  rcases hs with rfl | rfl | rfl | rfl <;> rcases hd with rfl | rfl <;> rfl
theorem refused_s (fuel n : Nat) (o : Ob) (ho : Hand o) {s : Int} (hs : Base s) : WF (sem (PR fuel) (n + 8) 35 (some o) [.int s]) (fun r q => r = .val (.bl true) ∧ ∃ o', q = some o' ∧ Hand o') noF := by
  obtain ⟨sn, rfl, hs1, hs2⟩ := base_in hs
  have hsn : (2 : Int) ≤ sn ∧ (sn : Int) ≤ 36 := ⟨by omega, by omega⟩
  refine w35 ?_
  repeat' array_get_dec
  refine WF_mono0 (no_base_s _ _ o ho) ?_
  rintro _ _ ⟨bad, o1, rfl, rfl, h1, nb⟩
  repeat' array_get_dec
  refine WF_mono0 (no_sheet_s _ _ o1 h1 _ hs) ?_
  rintro _ _ ⟨none_, o2, rfl, rfl, h2, nsh⟩
  repeat' array_get_dec
  refine W_forI (fun k σ => ∃ s5, Fre s5 ∧ σ = [.bo o2, .sh (.int sn), .sh bad, .sh none_, .ow (.l ((List.replicate k [D.int 0, D.int 1]).flatten)), s5, .un, .un]) ⟨_, .un, rfl⟩ ?_ ?_
  · rintro k y σ hy ⟨s5, f5, rfl⟩
    have core : ∀ (f : Nat), y = .fn f → (f = 11 ∨ f = 10 ∨ f = 16) → k < 3 → (∀ {a d : D} {e : Exc}, sem (PR fuel) (n + 6) 9 none [a, d] = .exc e none → sem (PR fuel) (n + 7) f none [a, d] = .exc e none) →
        LF (asg (.n 5) y [.bo o2, .sh (.int sn), .sh bad, .sh none_, .ow (.l ((List.replicate k [D.int 0, D.int 1]).flatten)), s5, .un, .un]) fun σ1 => W (exs ((PR fuel).gam (sem (PR fuel) (n + 7))) (forBody (nthS 2 b35)) σ1) (fun f σ => f = .nx ∧ ∃ s5, Fre s5 ∧ σ = [.bo o2, .sh (.int sn), .sh bad, .sh none_, .ow (.l ((List.replicate (k + 1) [D.int 0, D.int 1]).flatten)), s5, .un, .un]) noX := by
      rintro f rfl hf hk ex
      have fl : ((List.replicate k [D.int 0, D.int 1]).flatten).length = k * 2 := by rw [List.length_flatten, List.map_replicate, List.sum_replicate_nat]; rfl
      refine LF_asgn (LF_store rfl f5 ?_)
      dsimp only [List.set, nthS, forBody, b35]
      repeat' array_get_dec
      refine W_lcI (fun j ds σ => ds = [D.int 0, D.int 1].take j ∧ ∃ s4, (s4 = .ow (.l ((List.replicate k [D.int 0, D.int 1]).flatten))) ∧ σ = [.bo o2, .sh (.int sn), .sh bad, .sh none_, s4, .sh (.fn f), (if j = 0 then .un else .sh ([bad, .int sn].getD (j - 1) .non)), .un]) ⟨rfl, _, rfl, rfl⟩ ?_ ?_
      · rintro j2 z pre σ hz ⟨rfl, s4, rfl, rfl⟩
        match j2, hz with
        | 0, hz =>
          cases hz
          dsimp only [wipeD, List.set]
          rcases hf with rfl | rfl | rfl
          all_goals
            repeat' array_get_dec
            refine WF_exc (ex (check_bad _ _ nb)) ?_
            repeat' array_get_dec
            exact ⟨rfl, _, rfl, rfl⟩
        | 1, hz =>
          cases hz
          dsimp only [wipeD, List.set]
          rcases hf with rfl | rfl | rfl
          all_goals
            repeat' array_get_dec
            refine WF_exc (ex (check_none _ _ hsn nsh)) ?_
            repeat' array_get_dec
            exact ⟨rfl, _, rfl, rfl⟩
        | j2 + 2, hz => cases hz
      · rintro ds σ ⟨rfl, s4, rfl, rfl⟩
        refine BT_of (by show ([D.int 0, D.int 1].take 2).length < sizeLine; decide) ?_
        dsimp only [backD, List.getElem?_cons_zero, List.getElem?_cons_succ, List.set]
        repeat' array_get_dec
        refine LF_addl (by rw [fl]; show k * 2 + 2 ≤ sizeLine; simp only [sizeLine]; omega) ?_
        repeat' array_get_dec
        refine ⟨rfl, .sh (.fn f), .sh, ?_⟩
        rw [List.replicate_succ', List.flatten_append]; rfl
    match k, hy with
    | 0, hy => cases hy; exact LF_mono (core 11 rfl (.inl rfl) (by omega) fun h => left_exc _ _ h) fun _ h => W_mono h (fun f σ h => by obtain ⟨rfl, h⟩ := h; exact h) fun _ _ z => z.elim
    | 1, hy => cases hy; exact LF_mono (core 10 rfl (.inr (.inl rfl)) (by omega) fun h => sums_exc _ _ h) fun _ h => W_mono h (fun f σ h => by obtain ⟨rfl, h⟩ := h; exact h) fun _ _ z => z.elim
    | 2, hy => cases hy; exact LF_mono (core 16 rfl (.inr (.inr rfl)) (by omega) fun h => turn_exc _ _ h) fun _ h => W_mono h (fun f σ h => by obtain ⟨rfl, h⟩ := h; exact h) fun _ _ z => z.elim
    | k + 3, hy => cases hy
  · rintro σ ⟨s5, f5, rfl⟩
    repeat' array_get_dec
    refine C_any h2 (by simp) (by simp) ?_
    intro gr o3 h3 hg
    have hg : gr = gt1 ∨ gr = gt2 := by
      simp only [List.mem_cons, List.not_mem_nil, or_false] at hg
      exact hg
    repeat' array_get_dec
    refine WF_exc (great_exc _ _ hs hg) ?_
    repeat' array_get_dec
    refine WF_exc (good_bad _ _ nb) ?_
    repeat' array_get_dec
    refine WF_eq (good_none _ _ hsn nsh) ?_
    repeat' array_get_dec
    refine WF_eq (is_none _ _ hsn nsh) ?_
    repeat' array_get_dec
    all_goals first | exact ⟨rfl, o3, rfl, h3⟩ | decide
end DpK
end

section
set_option linter.all false
set_option autoImplicit false
set_option maxRecDepth 100000
set_option maxHeartbeats 0
open Dp Sh
local macro_rules | `(tactic| array_get_dec) => `(tactic| first   | with_reducible apply W_cons   | with_reducible apply W_nil   | with_reducible apply W_set   | with_reducible apply W_ret   | with_reducible apply W_ife   | with_reducible apply W_for   | with_reducible apply W_ex   | ((with_reducible apply W_mm); exact rfl)   | with_reducible apply W_seti   | with_reducible apply W_unp   | with_reducible apply W_par   | ((with_reducible apply W_aug); exact rfl)   | with_reducible apply W_pass   | with_reducible apply W_brk   | with_reducible apply W_cont   | with_reducible apply W_retn   | ((with_reducible apply W_rais); exact rfl)   | with_reducible apply W_k   | ((with_reducible refine BT_of ?_ ?_); (first | exact rfl | decide | (simp only [List.length_cons, List.length_nil, sizeLine]; omega)))   | ((with_reducible apply W_v); exact rfl)   | ((with_reducible apply W_vo); exact rfl)   | ((with_reducible apply W_vb); exact rfl)   | ((with_reducible apply W_glb); exact rfl)   | with_reducible apply W_bin   | with_reducible apply W_cmp   | with_reducible apply W_sub   | with_reducible apply W_and   | with_reducible apply W_or   | with_reducible apply W_nt   | with_reducible apply W_neg   | with_reducible apply W_chn   | with_reducible apply W_isn   | with_reducible apply W_isb   | with_reducible apply W_ite   | with_reducible apply W_tup   | with_reducible apply W_lst   | with_reducible apply W_slc   | with_reducible apply W_rev   | with_reducible apply W_rlT   | with_reducible apply W_rlF   | with_reducible apply W_isi   | with_reducible apply W_b1   | with_reducible apply W_b2   | with_reducible apply W_m1   | with_reducible apply W_call   | ((with_reducible apply W_callm); exact rfl)   | ((with_reducible apply W_mp); exact rfl)   | ((with_reducible apply MP_val); exact rfl)   | ((with_reducible apply W_callv); exact rfl; exact rfl)   | ((with_reducible apply W_tld); exact rfl)   | with_reducible apply W_lc   | with_reducible apply W_att   | ((with_reducible apply LF_att); exact rfl; exact rfl)   | ((with_reducible apply W_mk); exact rfl)   | with_reducible apply W_setf   | with_reducible apply W_lc2   | with_reducible apply W_esnil   | with_reducible apply W_escons   | with_reducible apply W_ernil   | with_reducible apply W_ercons   | with_reducible apply W_seq   | with_reducible apply W_rng   | with_reducible apply W_enum   | with_reducible apply W_zip2   | with_reducible apply W_om   | with_reducible apply P1_val   | with_reducible apply P1_frl   | with_reducible apply P1_frd   | with_reducible apply P1_fri   | ((with_reducible apply P1_borl); exact rfl)   | ((with_reducible apply P1_bobl); exact rfl)   | ((with_reducible apply P1_bor); exact rfl)   | ((with_reducible apply P1_bob); exact rfl)   | ((with_reducible apply P1_bosh); exact rfl)   | with_reducible apply U_val   | with_reducible apply UK_val   | with_reducible apply UK_fr   | with_reducible apply UK_bor   | with_reducible apply U_frl   | with_reducible apply U_fr   | ((with_reducible apply U_bor); exact rfl; dsimp only [frz, List.set])   | ((with_reducible apply U_bosh); exact rfl)   | with_reducible apply K_nx   | with_reducible apply K_rt   | with_reducible apply K_bk   | with_reducible apply K_ct   | with_reducible apply CN_val   | with_reducible apply CN_fr   | with_reducible apply CNX_of   | with_reducible apply CM_val0   | with_reducible apply CM_val0o   | with_reducible apply CM_val1o   | with_reducible apply CM_fr0   | with_reducible apply CM_fr0o   | with_reducible apply CM_fr1o   | with_reducible apply CMX_of   | with_reducible apply FN_nx   | with_reducible apply FN_val   | with_reducible apply FN_fr   | ((with_reducible apply FN_bor); exact rfl)   | ((with_reducible apply FN_bosh); exact rfl)   | with_reducible apply FM_nx   | with_reducible apply FM_val   | with_reducible apply FM_fr   | ((with_reducible apply FM_bor); exact rfl)   | with_reducible apply FNX_of   | with_reducible apply FMX_of   | with_reducible apply LQ_nx   | with_reducible apply LQ_rt   | with_reducible apply LQ_bk   | with_reducible apply LQ_ct   | ((with_reducible apply PT_om); exact rfl)   | ((with_reducible apply PT_int); exact rfl)   | with_reducible apply T_true   | with_reducible apply T_false   | with_reducible apply T_not   | with_reducible apply LF_some   | with_reducible apply LF_add   | with_reducible apply LF_sub   | ((with_reducible apply LF_mul); (first | exact Or.inr (Or.inl (small_of (by omega))) | exact Or.inl (small_of (by omega)) | exact Or.inl (small_mod _ _ (by decide) (by decide))))   | ((with_reducible apply LF_pow); decide)   | ((with_reducible apply LF_adds); (first | (simp only [List.length_cons, List.length_nil, List.length_append, sizeLine]; omega)))   | ((with_reducible apply LF_lens); (first | assumption))   | ((with_reducible apply LF_slcs); (first | assumption))   | ((with_reducible apply LF_subs); assumption; (first | assumption | omega); assumption)   | ((with_reducible apply LF_subl); (first | assumption | omega); assumption)   | ((with_reducible apply LF_subt); (first | assumption | omega); assumption)   | ((with_reducible apply LF_sindex); assumption)   | with_reducible apply LF_eqi   | with_reducible apply LF_nei   | with_reducible apply LF_lti   | with_reducible apply LF_lei   | with_reducible apply LF_gti   | with_reducible apply LF_gei   | with_reducible apply LF_eqb   | with_reducible apply LF_neb   | with_reducible apply LF_instr   | with_reducible apply LF_ninstr   | with_reducible apply LF_asgn   | with_reducible apply LF_asgnil   | with_reducible apply LF_asgcons   | with_reducible apply LF_dsnil   | with_reducible apply LF_dscons   | ((with_reducible apply LF_store); exact rfl; (first | exact Fre.sh | exact Fre.un | exact Fre.ow | assumption); dsimp only [List.set])   | ((with_reducible apply LF_storeO); exact rfl; (first | exact Fre.sh | exact Fre.un | exact Fre.ow | assumption); dsimp only [List.set])   | ((with_reducible apply LF_stored); exact rfl; exact rfl; (first | exact Fre.sh | exact Fre.un | exact Fre.ow | assumption); dsimp only [List.set, frz])   | ((with_reducible apply LF_setob); exact rfl; dsimp only [putOb, List.getElem?_cons_zero, List.getElem?_cons_succ, List.set, Int.reduceToNat])   | ((with_reducible refine LF_append ?_ ?_); rotate_left; dsimp only [putOb, List.getElem?_cons_zero, List.getElem?_cons_succ, List.set, List.nil_append, List.cons_append])   | ((with_reducible refine LF_extend ?_ ?_); rotate_left; dsimp only [putOb, List.getElem?_cons_zero, List.getElem?_cons_succ, List.set, List.nil_append, List.cons_append])   | ((with_reducible apply LF_mod); (first | decide | assumption | omega))   | ((with_reducible apply LF_fdiv); (first | decide | assumption | omega); (first | decide | assumption))   | with_reducible apply LF_rng   | with_reducible apply WF_fn   | ((with_reducible apply T_is (c := true)); decide)   | ((with_reducible apply T_is (c := false)); decide)   | (((with_reducible apply T_dec) <;> intro) <;> (try (exfalso; omega)))   | (((with_reducible apply TB_dec) <;> intro) <;> (try (exfalso; omega)))   | ((with_reducible apply T_is (c := true)); exact rfl)   | ((with_reducible apply T_is (c := false)); exact rfl)   | ((with_reducible apply LF_eq); exact rfl))
namespace DpK
theorem okD_ints (k : Nat) {l : List Int} (h : l.length < sizeLine) : okD (k + 1) (.tup (l.map .int)) = true := by
  rw [okD, List.length_map, decide_eq_true h, Bool.true_and, List.all_eq_true]
  intro x hx
  obtain ⟨i, _, rfl⟩ := List.mem_map.mp hx
  cases k <;> rfl
theorem okD_bd (k : Nat) {s : Int} {h w : Nat} {b : Bd} (S : Sheet s h w b) (h8 : h ≤ 8) (wl8 : w ≤ 8) : okD (k + 2) (bdD b) = true := by
  rw [okD, List.length_map, S.rows, decide_eq_true (by simp only [sizeLine]; omega), Bool.true_and, List.all_eq_true]
  intro x hx
  obtain ⟨r, hr, rfl⟩ := List.mem_map.mp hx
  exact okD_ints k (by rw [S.cols r hr]; simp only [sizeLine]; omega)
theorem okD_left {s : Int} {h w : Nat} {b : Bd} (S : Sheet s h w b) (h8 : h ≤ 8) (wl8 : w ≤ 8) : okD 2 (leftD s w b) = true := by
  rw [leftD, okD, List.all_cons, List.all_cons, List.all_nil, okD_ints 0 (by rw [rowsM_len S]; simp only [sizeLine]; omega), okD_ints 0 (by rw [colsM_len]; simp only [sizeLine]; omega)]; rfl
theorem shp_ints (k : Nat) (l : List Int) : shp (k + 2) (.tup (l.map .int)) = true := by
  show (l.map D.int).all (shp (k + 1)) = true
  rw [List.all_eq_true]
  intro x hx
  obtain ⟨i, _, rfl⟩ := List.mem_map.mp hx
  rfl
theorem ne_self {d : D} (h : shp 60 d = true) : cmpD .ne d d = some false := by
  show (eqv d d).map (!·) = _
  rw [eqv, h, eqb_self d 60 h]; rfl
/-- what stands behind each turn of the law -/
def Inv (ns : List Int) (σ : DSt) : Prop := ∃ o s2 s3 s4 s5 s6 s7 s8, Hand o ∧ Fre s3 ∧ Fre s4 ∧ Fre s5 ∧ Fre s6 ∧ Fr1 s7 ∧ Fre s8 ∧ σ = [.sh (.scr ns), .ow o, s2, s3, s4, s5, s6, s7, s8, .un, .un, .un, .un, .un]
def NX (p : DSt → Prop) : PQ Flow := fun f σ => f = .nx ∧ p σ
def lawBody : Ss := forBody (nthS 5 b36)
def oneBody : Ss := forBody (nthS 4 lawBody)
section
variable {s h w : Nat} {b : Bd}
/-- what is asked of one sheet -/
theorem one_s (fuel n : Nat) (S : Sheet s h w b) (hs : 2 ≤ s ∧ s ≤ 36) (h1 : 1 ≤ h) (h8 : h ≤ 8) (w1 : 1 ≤ w) (wl8 : w ≤ 8) {s0 s1 s2 s3 s5 s6 s8 : Sl} (f8 : Fre s8) :
    W (exs ((PR fuel).gam (sem (PR fuel) (n + 8))) oneBody [s0, s1, s2, s3, .sh (.int s), s5, s6, .sh (bdD b), s8, .un, .un, .un, .un, .un])
      (NX fun σ => ∃ s8, Fre s8 ∧ σ = [s0, s1, s2, s3, .sh (.int s), s5, s6, .sh (bdD b), s8, .un, .un, .un, .un, .un]) noX := by
  have hl : (b.map rowD).length = h := by rw [List.length_map, S.rows]
  have e0 : (b.map rowD)[(0 : Int).toNat]? = some (.tup ((b.getD 0 []).map D.int)) := sh_row S h1
  have l0 : ((b.getD 0 []).map D.int).length = w := by rw [List.length_map, S.len h1]
  have hsI : 2 ≤ (s : Int) ∧ (s : Int) ≤ 36 := ⟨by omega, by omega⟩
  show W (exs _ (.cons _ _) _) _ _
  try dsimp only [oneBody, lawBody, nthS, forBody]
  repeat' array_get_dec
  · rw [l0]; exact rngc (by omega) (by omega) (by omega) (by omega)
  rw [l0]
  refine W_lcM (fun x => match x with | .int j => rowD (col b j.toNat) | _ => .non) rfl .un ?_ ?_
  · intro k x hx
    obtain ⟨rfl, hk⟩ := rng_at0 hx
    dsimp only [List.set]
    repeat' array_get_dec
    refine W_lcM (fun x => match x with | .tup r => r.getD k .non | _ => .non) rfl .un ?_ ?_
    · intro i x hx
      obtain ⟨hi, rfl⟩ := sh_in S hx
      have ec : ((b.getD i []).map D.int)[(k : Int).toNat]? = some (.int (g b i k)) := sh_cell S hi hk
      dsimp only [List.set]
      repeat' array_get_dec
      exact ⟨by rw [List.getD_eq_getElem?_getD, ← Int.toNat_natCast k, ec]; rfl, rfl⟩
    intro s2 f2
    refine BT_of (by rw [List.length_map, hl]; simp only [sizeLine]; omega) ?_
    dsimp only [backD, List.getElem?_cons_zero, List.getElem?_cons_succ, List.set]
    have ecm : ((b.map rowD).map fun x => match x with | .tup r => r.getD k .non | _ => .non) = (col b k).map .int := col_map S hk
    rw [ecm]
    repeat' array_get_dec
    exact ⟨rfl, rfl⟩
  intro s2 f2
  refine BT_of (by rw [List.length_map, rng_len0]; simp only [sizeLine]; omega) ?_
  dsimp only [backD, List.getElem?_cons_zero, List.getElem?_cons_succ, List.set]
  have ec : ((rangeD 0 w 1).map fun x => match x with | .int j => rowD (col b j.toNat) | _ => .non) = (tr w b).map rowD := by
    rw [rangeD0, List.map_map, tr, List.map_map]; rfl
  rw [ec]
  have hbd : D.tup ((tr w b).map rowD) = bdD (tr w b) := rfl
  repeat' array_get_dec
  rw [hbd]
  refine WF_eq (is_good_ok _ _ S hsI h1 h8 w1 wl8) ?_
  repeat' array_get_dec
  refine WF_eq (turned_ok _ _ S hsI h1 h8 w1 wl8) ?_
  repeat' array_get_dec
  refine WF_eq (fits_ok _ _ S (by omega) h1 h8 wl8) ?_
  repeat' array_get_dec
  refine C_is 3 (by rw [okD, List.all_cons, List.all_cons, List.all_nil, okD_bd 0 (tr_sheet S) wl8 h8]; rfl) ?_
  repeat' array_get_dec
  refine WF_eq (left_ok _ _ (tr_sheet S) hsI w1 wl8 h1 h8) ?_
  repeat' array_get_dec
  refine WF_eq (left_ok _ _ S hsI h1 h8 w1 wl8) ?_
  repeat' array_get_dec
  have el : leftD s h (tr w b) = .tup ([.tup ((rowsM s b).map .int), .tup ((colsM s w b).map .int)] : List D).reverse := by
    rw [leftD, tr_rows S, tr_cols S]; rfl
  rw [el]
  refine LF_eq (ne_self (by show ([D.tup ((colsM s w b).map .int), .tup ((rowsM s b).map .int)]).all (shp 59) = true; rw [List.all_cons, List.all_cons, List.all_nil, shp_ints 57, shp_ints 57]; rfl)) ?_
  repeat' array_get_dec
  refine WF_eq (is_sheet_ok _ _ S hsI h1 h8 w1 wl8) ?_
  repeat' array_get_dec
  exact ⟨rfl, _, .sh, rfl⟩
end
/-- a turn -/
theorem turn_s (fuel n : Nat) (hf : 100 < fuel) {ns : List Int} {σ : DSt} (x : D) (h : Inv ns σ) : W (exs ((PR fuel).gam (sem (PR fuel) (n + 8))) lawBody (σ.set 3 (.sh x))) (NX (Inv ns)) noX := by
  obtain ⟨o1, s2, s3, s4, s5, s6, s7, s8, h1, f3, f4, f5, f6, f7, f8, rfl⟩ := h
  dsimp only [List.set]
  refine W_cut 4 (fun σ => ∃ (o4 : Ob) (sn hh ww : Nat) (b : Bd), Hand o4 ∧ Base sn ∧ Sheet sn hh ww b ∧ (1 ≤ hh ∧ hh ≤ 5 ∧ 1 ≤ ww ∧ ww ≤ 5) ∧
    σ = [.sh (.scr ns), .ow o4, s2, .sh x, .sh (.int sn), .sh (bdD b), .sh (bdD (summed sn ww b)), s7, s8, .un, .un, .un, .un, .un]) ?_ ?_
  · show W (exs _ (.cons _ _) _) _ _
    try dsimp only [lawBody, nthS, forBody, dropS, takeS]
    repeat' array_get_dec
    refine WF_mono0 (base_s _ _ o1 h1) ?_
    rintro _ _ ⟨sb, o2, rfl, rfl, h2, hb⟩
    obtain ⟨sn, rfl, hs1, hs2⟩ := base_in hb
    repeat' array_get_dec
    refine C_draw h2 (by omega) (by omega) ?_
    intro q1 o3 h3 q1a q1b
    repeat' array_get_dec
    refine C_draw h3 (by omega) (by omega) ?_
    intro q2 o4 h4 q2a q2b
    repeat' array_get_dec
    obtain ⟨hh, eh⟩ : ∃ m : Nat, (1 : Int) + q1 = m := ⟨(1 + q1).toNat, by omega⟩
    obtain ⟨ww, ew⟩ : ∃ m : Nat, (1 : Int) + q2 = m := ⟨(1 + q2).toNat, by omega⟩
    rw [eh, ew]
    refine WF_mono0 (sheet_s _ _ o4 h4 (by omega) (by omega) _ _ (by omega) (by omega)) ?_
    rintro _ _ ⟨b, o5, rfl, rfl, h5, S⟩
    repeat' array_get_dec
    refine WF_eq (summed_ok _ _ S (by omega) (by omega) (by omega) (by omega)) ?_
    repeat' array_get_dec
    refine WF_eq (left_ok _ _ S ⟨by omega, by omega⟩ (by omega) (by omega) (by omega) (by omega)) ?_
    repeat' array_get_dec
    refine WF_eq (with_sums_ok _ _ S ⟨by omega, by omega⟩ (by omega) (by omega) (by omega) (by omega)) ?_
    repeat' array_get_dec
    refine WF_eq (rests_ok _ _ S (by omega) (by omega) (by omega) (by omega)) ?_
    repeat' array_get_dec
    refine C_is 3 (by rw [okD, List.all_cons, List.all_cons, List.all_nil, okD_left S (by omega) (by omega), okD_bd 0 (summed_sheet (by omega) S) (by omega) (by omega)]; rfl) ?_
    repeat' array_get_dec
    exact ⟨o5, sn, hh, ww, b, h5, hb, S, ⟨by omega, by omega, by omega, by omega⟩, rfl⟩
  rintro σ ⟨o4, sn, hh, ww, b, h4, hb, S, ⟨hh1, hh5, ww1, ww5⟩, rfl⟩
  obtain ⟨_, _, hs1, hs2⟩ := base_in hb
  have SS := summed_sheet (by omega) S
  refine W_cut 1 (fun σ => ∃ o5 s7 s8, Hand o5 ∧ Fr1 s7 ∧ Fre s8 ∧ σ = [.sh (.scr ns), .ow o5, s2, .sh x, .sh (.int sn), .sh (bdD b), .sh (bdD (summed sn ww b)), s7, s8, .un, .un, .un, .un, .un]) ?_ ?_
  · show W (exs _ (.cons _ .nil) _) _ _
    try dsimp only [lawBody, nthS, forBody, dropS, takeS]
    repeat' array_get_dec
    refine C_draw h4 (by omega) (by omega) ?_
    intro many o5 h5 hm1 hm2
    obtain ⟨mn, rfl⟩ : ∃ m : Nat, many = m := ⟨many.toNat, by omega⟩
    repeat' array_get_dec
    refine WF_mono0 (spoiled_s _ _ o5 h5 (by omega) (by omega) SS (summed_fits (by omega) S) (by omega) (by omega) (by omega) (by omega) mn (by omega) hf) ?_
    rintro _ _ ⟨bb, o6, rfl, rfl, h6, S6, _, _⟩
    repeat' array_get_dec
    refine W_forI (fun k σ => ∃ s7 s8, Fr1 s7 ∧ Fre s8 ∧ σ = [.sh (.scr ns), .ow o6, s2, .sh x, .sh (.int sn), .sh (bdD b), .sh (bdD (summed sn ww b)), s7, s8, .un, .un, .un, .un, .un]) ⟨_, _, f7, f8, rfl⟩ ?_ ?_
    · rintro k y σ hy ⟨t7, t8, g7, g8, rfl⟩
      have core : ∀ {h w : Nat} {b1 : Bd}, y = bdD b1 → Sheet sn h w b1 → 1 ≤ h → h ≤ 8 → 1 ≤ w → w ≤ 8 → LF (asg (.n 7) y [.sh (.scr ns), .ow o6, s2, .sh x, .sh (.int sn), .sh (bdD b), .sh (bdD (summed sn ww b)), t7, t8, .un, .un, .un, .un, .un]) fun σ1 => W (exs ((PR fuel).gam (sem (PR fuel) (n + 8))) oneBody σ1) (NX fun σ => ∃ s7 s8, Fr1 s7 ∧ Fre s8 ∧ σ = [.sh (.scr ns), .ow o6, s2, .sh x, .sh (.int sn), .sh (bdD b), .sh (bdD (summed sn ww b)), s7, s8, .un, .un, .un, .un, .un]) noX := by
        rintro h w b1 rfl S1 a1 a2 a3 a4
        refine LF_asgn (LF_store rfl g7.fre ?_)
        exact W_mono (one_s fuel n S1 ⟨by omega, by omega⟩ a1 a2 a3 a4 g8) (fun f σ h => by obtain ⟨rfl, s8, f8, e⟩ := h; exact ⟨rfl, _, s8, .inr ⟨_, rfl⟩, f8, e⟩) fun _ _ z => z
      have core2 : ∀ {h w : Nat} {b1 : Bd}, y = bdD b1 → Sheet sn h w b1 → 1 ≤ h → h ≤ 8 → 1 ≤ w → w ≤ 8 → LF (asg (.n 7) y [.sh (.scr ns), .ow o6, s2, .sh x, .sh (.int sn), .sh (bdD b), .sh (bdD (summed sn ww b)), t7, t8, .un, .un, .un, .un, .un]) fun σ1 => W (exs ((PR fuel).gam (sem (PR fuel) (n + 8))) oneBody σ1) (fun f σ => f = .nx ∧ ∃ s7 s8, Fr1 s7 ∧ Fre s8 ∧ σ = [.sh (.scr ns), .ow o6, s2, .sh x, .sh (.int sn), .sh (bdD b), .sh (bdD (summed sn ww b)), s7, s8, .un, .un, .un, .un, .un]) noX := core
      match k, hy with
      | 0, hy => cases hy; exact LF_mono (core2 rfl S (by omega) (by omega) (by omega) (by omega)) fun _ h => W_mono h (fun f σ h => by obtain ⟨rfl, h⟩ := h; exact h) fun _ _ z => z.elim
      | 1, hy => cases hy; exact LF_mono (core2 rfl SS (by omega) (by omega) (by omega) (by omega)) fun _ h => W_mono h (fun f σ h => by obtain ⟨rfl, h⟩ := h; exact h) fun _ _ z => z.elim
      | 2, hy => cases hy; exact LF_mono (core2 rfl S6 (by omega) (by omega) (by omega) (by omega)) fun _ h => W_mono h (fun f σ h => by obtain ⟨rfl, h⟩ := h; exact h) fun _ _ z => z.elim
      | k + 3, hy => cases hy
    · rintro σ ⟨t7, t8, g7, g8, rfl⟩
      exact ⟨o6, _, _, h6, g7, g8, rfl⟩
  rintro σ ⟨o5, t7, t8, h5, g7, g8, rfl⟩
  show W (exs _ (.cons _ .nil) _) _ _
  try dsimp only [lawBody, nthS, forBody, dropS, takeS]
  repeat' array_get_dec
  refine WF_mono0 (refused_s _ _ o5 h5 hb) ?_
  rintro _ _ ⟨rfl, o6, rfl, h6⟩
  repeat' array_get_dec
  exact ⟨rfl, o6, _, _, _, _, _, _, _, h6, .sh, .sh, .sh, .sh, g7, g8, rfl⟩
/-- a sheet back from its data -/
def unBd : D → Bd
  | .tup rs => rs.map fun r => match r with | .tup xs => (lexInts xs).getD [] | _ => []
  | _ => []
theorem unBd_bd (b : Bd) : unBd (bdD b) = b := by
  show (b.map rowD).map _ = b
  rw [List.map_map]
  conv => rhs; rw [← List.map_id b]
  refine List.map_congr_left fun r _ => ?_
  show (lexInts (r.map D.int)).getD [] = r
  rw [lexInts_map]; rfl
/-- all good sheets of a small size, counted -/
theorem goods_len {h w : Nat} (hh : 1 ≤ h ∧ h ≤ 3) (hw : 1 ≤ w ∧ w ≤ 2) : ((wordsL 2 (h * w)).filter fun r => decide (Fits 2 h w (toBd h w r))).length = 2 ^ ((h - 1) * (w - 1)) := by
  refine goods h ?_ w ?_
  · have : h = 1 ∨ h = 2 ∨ h = 3 := by omega
    simp [this]
  · have : w = 1 ∨ w = 2 := by omega
    simp [this]
theorem law_s (fuel n : Nat) (hf : 100 < fuel) (ns : List Int) (hl : ns.length ≤ 63) : WF (sem (PR fuel) (n + 9) 36 none [.scr ns]) (fun r q => r = .val (.bl true) ∧ q = none) noF := by
  refine w36 ?_
  refine W_cut 5 (Inv ns) ?_ ?_
  · dsimp only [takeS]
    repeat' array_get_dec
    refine WF_mono0 (hand_s fuel (n + 7) ns hl) ?_
    rintro _ _ ⟨o, rfl, rfl, h⟩
    repeat' array_get_dec
    refine WF_eq (r := .val (.tup [.tup [.int 3, .int 7], .tup [.int 4, .int 6]])) (m := none) rfl ?_
    repeat' array_get_dec
    refine WF_eq (r := .val (.tup [.tup [.int 1, .int 2, .int 7], .tup [.int 3, .int 4, .int 3], .tup [.int 6, .int 4, .int 0]])) (m := none) rfl ?_
    repeat' array_get_dec
    refine WF_eq (r := .val (.bl true)) (m := none) rfl ?_
    repeat' array_get_dec
    refine WF_eq (r := .val (.int 4)) (m := none) rfl ?_
    repeat' array_get_dec
    refine C_is (d := .lst [.tup [.tup [.int 3, .int 7], .tup [.int 4, .int 6]], .tup [.tup [.int 1, .int 2, .int 7], .tup [.int 3, .int 4, .int 3], .tup [.int 6, .int 4, .int 0]], .bl true, .int 4]) 3 (by decide) ?_
    repeat' array_get_dec
    refine WF_eq (r := .val (.int 100)) (m := none) rfl ?_
    repeat' array_get_dec
    refine WF_eq (r := .val (.int 1)) (m := none) rfl ?_
    repeat' array_get_dec
    refine WF_eq (r := .val (.int 16)) (m := none) rfl ?_
    repeat' array_get_dec
    exact ⟨o, _, _, _, _, _, _, _, h, .un, .un, .un, .un, .inl rfl, .un, rfl⟩
    decide
  intro σ hi
  dsimp only [dropS]
  repeat' array_get_dec
  · exact rngc (by omega) (by omega) (by omega) (by omega)
  refine W_forI (fun _ => Inv ns) hi ?_ ?_
  · rintro k x σ hx hi
    have ht := turn_s fuel n hf x hi
    obtain ⟨o1, s2, s3, s4, s5, s6, s7, s8, h1, f3, f4, f5, f6, f7, f8, rfl⟩ := hi
    refine LF_asgn (LF_store rfl f3 ?_)
    exact W_mono ht (fun f σ h => by obtain ⟨rfl, h⟩ := h; exact h) fun _ _ z => z
  · rintro σ ⟨o1, s2, s3, s4, s5, s6, s7, s8, h1, f3, f4, f5, f6, f7, f8, rfl⟩
    repeat' array_get_dec
    refine C_draw h1 (by omega) (by omega) ?_
    intro q1 o3 h3 q1a q1b
    repeat' array_get_dec
    refine C_draw h3 (by omega) (by omega) ?_
    intro q2 o4 h4 q2a q2b
    obtain ⟨hh, eh⟩ : ∃ m : Nat, (1 : Int) + q1 = m := ⟨(1 + q1).toNat, by omega⟩
    obtain ⟨ww, ew⟩ : ∃ m : Nat, (1 : Int) + q2 = m := ⟨(1 + q2).toNat, by omega⟩
    repeat' array_get_dec
    rw [eh, ew]
    have hhh : 1 ≤ hh ∧ hh ≤ 3 := ⟨by omega, by omega⟩
    have hww : 1 ≤ ww ∧ ww ≤ 2 := ⟨by omega, by omega⟩
    repeat' array_get_dec
    refine WF_mono0 (all_sheets_s _ _ hh ww hhh hww) ?_
    rintro _ _ ⟨rfl, rfl⟩
    repeat' array_get_dec
    have ln : ((wordsL 2 (hh * ww)).map fun r => bdD (toBd hh ww r)).length ≤ 64 := by
      rw [List.length_map, wordsL_many]
      exact Nat.pow_le_pow_right (by decide) (Nat.le_trans (Nat.mul_le_mul hhh.2 hww.2) (by decide : 3 * 2 ≤ 6))
    have core : ∀ s7 : Sl, Fre s7 → W (lcL (fun x τ => lcStep (asg (.n 7) x (wipeD τ [7])) (fun τ1 => truth (ev ((PR fuel).gam (sem (PR fuel) (n + 8))) (.call 26 (.cons (.k (.int 2)) (.cons (.v 7) .nil))) τ1)) fun τ2 => (ev ((PR fuel).gam (sem (PR fuel) (n + 8))) (.v 7) τ2).used)
        ((wordsL 2 (hh * ww)).map fun r => bdD (toBd hh ww r)) [.sh (.scr ns), .ow o4, s2, s3, s4, s5, s6, s7, s8, .un, .un, .sh (.int hh), .sh (.int ww), .un])
        (fun ds τ => ds.length < sizeLine ∧ (ds.length : Int) = ((2 ^ ((hh - 1) * (ww - 1)) : Nat) : Int) ∧ ∃ s, Fre s ∧ τ = [.sh (.scr ns), .ow o4, s2, s3, s4, s5, s6, s, s8, .un, .un, .sh (.int hh), .sh (.int ww), .un]) noX := by
      intro s7 f7
      refine W_lcP (fun x => if Fits 2 hh ww (unBd x) then some x else none) rfl f7 ?_ ?_
      · intro k x hx
        rw [List.getElem?_map] at hx
        obtain ⟨r, hr, rfl⟩ := Option.map_eq_some_iff.mp hx
        have S := toBd_sheet (List.mem_of_getElem? hr)
        dsimp only [List.set]
        repeat' array_get_dec
        refine WF_eq (fits_ok _ _ S (by omega) (by omega) (by omega) (by omega)) ?_
        repeat' array_get_dec
        · rename_i c
          rw [unBd_bd, if_pos c]
          refine ⟨rfl, ?_⟩
          repeat' array_get_dec
          exact ⟨rfl, rfl⟩
        · rename_i c
          refine ⟨?_, rfl⟩
          rw [unBd_bd, if_neg c]
      · intro s fs
        have el : (((wordsL 2 (hh * ww)).map fun r => bdD (toBd hh ww r)).filterMap fun x => if Fits 2 hh ww (unBd x) then some x else none).length = 2 ^ ((hh - 1) * (ww - 1)) := by
          rw [← goods_len hhh hww, List.filterMap_map]
          generalize wordsL 2 (hh * ww) = l
          induction l with
          | nil => rfl
          | cons a l ih =>
            by_cases c : Fits 2 hh ww (toBd hh ww a)
            · rw [List.filterMap_cons_some (b := bdD (toBd hh ww a)) (by show (if Fits 2 hh ww (unBd (bdD _)) then _ else _) = _; rw [unBd_bd, if_pos c]), List.filter_cons_of_pos (by simpa using c), List.length_cons, List.length_cons, ih]
            · rw [List.filterMap_cons_none (by show (if Fits 2 hh ww (unBd (bdD _)) then _ else _) = _; rw [unBd_bd, if_neg c]), List.filter_cons_of_neg (by simpa using c), ih]
        refine ⟨?_, by rw [el], s, fs, rfl⟩
        exact Nat.lt_of_le_of_lt (List.length_filterMap_le _ _) (Nat.lt_of_le_of_lt ln (by decide))
    have fin : ∀ s7 : Sl, W (exs ((PR fuel).gam (sem (PR fuel) (n + 8))) (.cons (.ret (.k (.bl true))) .nil) [s7]) (fun _ _ => True) noX := fun _ => by
      repeat' array_get_dec
      trivial
    rcases f7 with rfl | ⟨d, rfl⟩
    all_goals
      repeat' array_get_dec
      refine W_mono (core _ (by first | exact .un | exact .sh)) ?_ fun _ _ z => z
      rintro ds τ ⟨l1, l2, s7', f7', rfl⟩
      refine BT_of l1 ?_
      dsimp only [backD, List.getElem?_cons_zero, List.getElem?_cons_succ, List.set]
      repeat' array_get_dec
      refine WF_eq (good_many_ok _ _ 2 hh ww (by omega) (by omega) (by omega) (by omega) (by omega)) ?_
      repeat' array_get_dec
      rw [l2]
      repeat' array_get_dec
      exact ⟨by rw [decide_eq_true rfl], rfl⟩
theorem plain (fuel : Nat) (hf : 100 < fuel) : ∀ ns : List Int, ns.length ≤ 63 → sem (PR fuel) 11 36 none [.scr ns] = .ok (.val (.bl true)) none :=
  fun ns hl => WF_of (law_s fuel 2 hf ns hl)
end DpK
end
theorem PySem.Challenge.cw_checksigns_k80_whole_sheets_with_sums_holds : PySem.Challenge.rw_checksigns_k80_whole_sheets_with_sums.Holds :=
  k80_of (fuel := 1000) (m := 10) (by decide) fun ns h _ => DpK.plain 1000 (by decide) ns h
